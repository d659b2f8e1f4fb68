import PyProof.Rows.All
import Wide.All
import OpenK.AllK
import Wide.FinOn
import HandS.ForMost
import HandS.Walk
import HandS.WordsExc
import HandS.ExcOwn
import HandS.TryOnly
import HandS.Style
import HandS.TupAny
import HandS.Zip
import HandS.IsInst
import HandS.Flow
import HandS.Small
import HandS.DictComp
import PySem.Challenge.RW_proofhouse_k29_whole_differences
set_option Elab.async false
set_option linter.all false
set_option maxRecDepth 100000
set_option maxHeartbeats 8000000
set_option autoImplicit false
section
set_option Elab.async false
set_option maxRecDepth 10000
/-! PfA: a small interpreter of our own for the part of the language that the program uses.
Tuples, numbers and texts are values; lists, dicts, sets and instances stand in a store, by their number. -/
namespace PF
open PySem

inductive T where
  | non | bl (b : Bool) | int (i : Int) | str (s : Str) | tup (l : List T) | rol (l : List T) | ref (n : Nat) | fn (n : Nat)
  deriving Inhabited

inductive Cell where
  | lst (xs : List T) | dic (kvs : List (T × T)) | set (xs : List T) | ins (c : Nat) (fs : List (Str × T)) | dead
  deriving Inhabited
abbrev Store := List Cell
abbrev Sl := List (Option T)

structure Ex where
  cls : Nat
  fs : List (Str × T)

inductive R (α : Type) where
  | ok (a : α) (st : Store) | exc (x : Ex) (st : Store) | stuck
def R.bind {α β : Type} : R α → (α → Store → R β) → R β
  | .ok a st, f => f a st
  | .exc x st, _ => .exc x st
  | .stuck, _ => .stuck
theorem R.bind_ok {α β : Type} {a : α} {st : Store} {f : α → Store → R β} : (R.ok a st).bind f = f a st := rfl
theorem R.bind_exc {α β : Type} {x : Ex} {st : Store} {f : α → Store → R β} : (R.exc x st : R α).bind f = .exc x st := rfl
theorem R.bind_stuck {α β : Type} {f : α → Store → R β} : (R.stuck : R α).bind f = .stuck := rfl

/-- how a statement ends -/
inductive RS where
  | nx (sl : Sl) (st : Store) | rt (t : T) (st : Store) | bk (sl : Sl) (st : Store) | ct (sl : Sl) (st : Store) | xc (x : Ex) (sl : Sl) (st : Store) | stuck
def RS.seq : RS → (Sl → Store → RS) → RS
  | .nx sl st, f => f sl st
  | r, _ => r
def RS.noXc : RS → RS
  | .xc _ _ _ => .stuck
  | r => r
/-- a value, then a statement's end; an exception leaves with the slots -/
def R.thenS {α : Type} (sl : Sl) : R α → (α → Store → RS) → RS
  | .ok a st, f => f a st
  | .exc x st, _ => .xc x sl st
  | .stuck, _ => .stuck
theorem R.thenS_ok {α : Type} {sl : Sl} {a : α} {st : Store} {f : α → Store → RS} : (R.ok a st).thenS sl f = f a st := rfl

/-! ### the code -/
inductive Ty where
  | int | bool | str | tuple | list | dict
  deriving DecidableEq
inductive B where
  | len | abs | int | tuple | list | sum | all | any | min1 | max1 | min2 | max2 | sorted | repr | isi (t : Ty) | set | dict | str
  deriving DecidableEq
inductive M where
  | append | get | extend | pop | items | find | index | add | update | setdefault
  deriving DecidableEq
mutual
inductive E where
  | var (i : Nat) | cst (t : T) | glb (x : Nat)
  | tup (es : Es) | lst (es : Es) | dct (kvs : KVs)
  | bin (op : Operator) (a b : E) | neg (a : E)
  | cmp (op : CmpOp) (a b : E) | chn (op op' : CmpOp) (a b c : E)
  | and (a b : E) | or (a b : E) | not (a : E) | ite (c a b : E)
  | call (f : Nat) (es : Es) | make (c : Nat) (es : Es)
  | bcall (b : B) (es : Es) | mcall (m : M) (o : E) (es : Es) | own (m : Nat) (o : E) (es : Es)
  | fld (o : E) (f : Str) | ix (a i : E) | slc (a : E) (lo hi : Eo) | rev (a : E)
  | comp (tg : Tg) (it : It) (c : Eo) (e : E) (own : List Nat)
  | dcomp (tg : Tg) (it : It) (c : Eo) (k v : E) (own : List Nat)
inductive Es where
  | nil | cons (e : E) (es : Es)
inductive KVs where
  | nil | cons (k v : E) (r : KVs)
inductive Eo where
  | none | some (e : E)
inductive It where
  | val (e : E) | range (es : Es) | enum (e : E) | zip (a b : E)
inductive Tg where
  | nm (i : Nat) | tup (ts : Tgs) | sub (o i : E) | fld (o : E) (f : Str)
inductive Tgs where
  | nil | cons (t : Tg) (ts : Tgs)
end
mutual
inductive S where
  | asg (tg : Tg) (e : E) | par (i j : Nat) (a b : E) | aug (i : Nat) (op : Operator) (e : E) | augF (o : E) (f : Str) (op : Operator) (e : E)
  | expr (e : E) | ret (e : E) | retN | pass | brk | cnt
  | ifS (c : E) (a b : Ss) | whl (c : E) (b : Ss) | for (tg : Tg) (it : It) (b : Ss)
  | raise (c : Nat) (es : Es)
  | tryS (b : Ss) (c : Nat) (as : Option Nat) (h : Ss)
inductive Ss where
  | nil | cons (s : S) (ss : Ss)
end

/-! ### operations on values -/
mutual
def toD : T → Option PyData
  | .non => some .none
  | .bl b => some (.bool b)
  | .int i => some (.int i)
  | .str s => some (.str s)
  | .tup l => (toDs l).map .tuple
  | .rol l => (toDs l).map .list
  | .ref _ => none
  | .fn _ => none
def toDs : List T → Option (List PyData)
  | [] => some []
  | t :: ts => match toD t, toDs ts with
    | some d, some ds => some (d :: ds)
    | _, _ => none
end
/-- the data at a value: a list of values is looked up in the store -/
def resD (st : Store) : T → Option PyData
  | .ref n => match st[n]? with
    | some (.lst xs) => (toDs xs).map .list
    | _ => none
  | t => toD t
/-- Python's == -/
def eqT (st : Store) (a b : T) : Option Bool :=
  match resD st a, resD st b with
  | some d, some e => if min d.depth e.depth ≤ 190 then some (d.eqv e) else none
  | _, _ => none
def isFlat : T → Bool
  | .non | .bl _ | .int _ | .str _ => true
  | _ => false
/-- x in xs, for values that are none, numbers, texts -/
def eqF (a b : T) : Bool := match toD a, toD b with
  | some d, some e => d.eqv e
  | _, _ => false

def tru (st : Store) : T → Option Bool
  | .non => some false
  | .bl b => some b
  | .int i => some (i != 0)
  | .str s => if s.length ≤ sizeLine then some ((s.length : Int) != 0) else none
  | .tup l => some (!l.isEmpty)
  | .rol l => some (!l.isEmpty)
  | .ref n => match st[n]? with
    | some (.lst xs) => some (!xs.isEmpty)
    | some (.dic kvs) => some (!kvs.isEmpty)
    | _ => none
  | .fn _ => none

def listAt (st : Store) (n : Nat) : Option (List T) := match st[n]? with
  | some (.lst xs) => some xs
  | _ => none
def R.ofOpt {α : Type} (st : Store) : Option α → R α
  | some a => .ok a st
  | none => .stuck
theorem R.ofOpt_some {α : Type} {st : Store} {a : α} : R.ofOpt st (some a) = .ok a st := rfl
/-- a new cell -/
def alloc (st : Store) (c : Cell) : R T := .ok (.ref st.length) (st ++ [c])

/-- |i| < k; told so that the kernel never counts -/
def inS (k : Nat) : Int → Bool
  | .ofNat n => n.blt k
  | .negSucc n => (n + 1).blt k
theorem inS_iff {k : Nat} {i : Int} : inS k i = true ↔ -(k : Int) < i ∧ i < k := by
  cases i with
  | ofNat n => simp only [inS, Nat.blt_eq, Int.ofNat_eq_natCast]; omega
  | negSucc n => simp only [inS, Nat.blt_eq]; omega
def P64 : Nat := 18446744073709551616
def P62 : Nat := 4611686018427387904
def P30 : Nat := 1073741824
def mulOk (i j : Int) : Bool := inS P64 i || inS P64 j
def binT (op : Operator) (a b : T) (st : Store) : R T :=
  match op, a, b with
  | .Add, .int i, .int j => .ok (.int (i + j)) st
  | .Sub, .int i, .int j => .ok (.int (i - j)) st
  | .Mult, .int i, .int j => if mulOk i j then .ok (.int (i * j)) st else .stuck
  | .FloorDiv, .int i, .int j => if 0 < j ∧ inS P30 j = true then .ok (.int (i / j)) st else .stuck
  | .Mod, .int i, .int j => if 0 < j then .ok (.int (i % j)) st else .stuck
  | .Add, .str x, .str y => if x.length + y.length ≤ sizeLine then .ok (.str (x ++ y)) st else .stuck
  | .Add, .tup x, .tup y => if x.length + y.length ≤ sizeLine then .ok (.tup (x ++ y)) st else .stuck
  | .Add, .ref m, .ref n => match st[m]?, st[n]? with
    | some (.lst x), some (.lst y) => if x.length + y.length ≤ sizeLine then alloc st (.lst (x ++ y)) else .stuck
    | _, _ => .stuck
  | .Mult, .ref m, .int k => match st[m]? with
    | some (.lst x) => if inS P62 k = true ∧ x.length * k.toNat ≤ sizeLine then alloc st (.lst (List.replicate k.toNat x).flatten) else .stuck
    | _ => .stuck
  | _, _, _ => .stuck
/-- the first pair with this key (intsOf and texts) -/
def keyEq : T → T → Bool
  | .int i, .int j => decide (i = j)
  | .str x, .str y => decide (x = y)
  | _, _ => false
def isKey : T → Bool
  | .int _ | .str _ => true
  | _ => false
def dLook (k : T) : List (T × T) → Option T
  | [] => none
  | (a, v) :: r => if keyEq k a then some v else dLook k r
def dPut (k v : T) (kvs : List (T × T)) : List (T × T) :=
  if kvs.any (fun p => keyEq k p.1) then kvs.map (fun p => if keyEq k p.1 then (p.1, v) else p) else kvs ++ [(k, v)]
def cmpT (op : CmpOp) (a b : T) (st : Store) : Option Bool :=
  match op with
  | .Eq => eqT st a b
  | .NotEq => (eqT st a b).map (!·)
  | .Lt => match a, b with | .int i, .int j => some (decide (i < j)) | _, _ => none
  | .LtE => match a, b with | .int i, .int j => some (decide (i ≤ j)) | _, _ => none
  | .Gt => match a, b with | .int i, .int j => some (decide (j < i)) | _, _ => none
  | .GtE => match a, b with | .int i, .int j => some (decide (j ≤ i)) | _, _ => none
  | .Is => match a, b with
    | .bl x, .bl y => some (x == y)
    | .non, .non => some true
    | _, .non => some false
    | _, _ => none
  | .IsNot => match a, b with
    | .bl x, .bl y => some (x != y)
    | .non, .non => some false
    | _, .non => some true
    | _, _ => none
  | .In => match b with
    | .ref n => match st[n]? with
      | some (.lst xs) => if isFlat a && xs.all isFlat then some (xs.any fun y => eqF y a) else none
      | some (.dic kvs) => if isKey a then some (dLook a kvs).isSome else none
      | _ => none
    | .tup xs => if isFlat a && xs.all isFlat then some (xs.any fun y => eqF y a) else none
    | _ => none
  | .NotIn => match b with
    | .ref n => match st[n]? with
      | some (.lst xs) => if isFlat a && xs.all isFlat then some (!(xs.any fun y => eqF y a)) else none
      | some (.dic kvs) => if isKey a then some (!(dLook a kvs).isSome) else none
      | _ => none
    | .tup xs => if isFlat a && xs.all isFlat then some (!(xs.any fun y => eqF y a)) else none
    | _ => none

/-- a field is stored -/
def putL (f : Str) (v : T) : List (Str × T) → List (Str × T)
  | [] => [(f, v)]
  | (g, x) :: r => if g = f then (g, v) :: r else (g, x) :: putL f v r
/-- the place that an index tells -/
def ixN (n : Nat) (i : Int) : Option Nat := if 0 ≤ i then (if i < n then some i.toNat else none) else if -(n : Int) ≤ i then some (i + n).toNat else none
def ixT (a i : T) (st : Store) : Option T :=
  match a, i with
  | .tup xs, .int k => (ixN xs.length k).bind fun j => xs[j]?
  | .rol xs, .int k => (ixN xs.length k).bind fun j => xs[j]?
  | .ref n, i => match st[n]?, i with
    | some (.lst xs), .int k => (ixN xs.length k).bind fun j => xs[j]?
    | some (.dic kvs), i => if isKey i then dLook i kvs else none
    | _, _ => none
  | _, _ => none
def setIx (a i v : T) (st : Store) : R Unit :=
  match a with
  | .ref n => match st[n]?, i with
    | some (.lst xs), .int k => match ixN xs.length k with
      | some j => .ok () (st.set n (.lst (xs.set j v)))
      | none => .stuck
    | some (.dic kvs), i => if isKey i ∧ kvs.length < sizeLine then .ok () (st.set n (.dic (dPut i v kvs))) else .stuck
    | _, _ => .stuck
  | _ => .stuck
/-- where a slice begins or ends -/
def sIx (n d : Nat) : Option Int → Nat
  | none => d
  | some i => if i < 0 then (if i + n < 0 then 0 else (i + n).toNat) else if i > n then n else i.toNat
def cutT (xs : List T) (lo hi : Option Int) : List T := (xs.drop (sIx xs.length 0 lo)).take (sIx xs.length xs.length hi - sIx xs.length 0 lo)
def slcT (a : T) (lo hi : Option Int) (st : Store) : R T :=
  match a with
  | .tup xs => .ok (.tup (cutT xs lo hi)) st
  | .ref n => match st[n]? with
    | some (.lst xs) => alloc st (.lst (cutT xs lo hi))
    | _ => .stuck
  | _ => .stuck
def revT (a : T) (st : Store) : R T :=
  match a with
  | .tup xs => .ok (.tup xs.reverse) st
  | .ref n => match st[n]? with
    | some (.lst xs) => alloc st (.lst xs.reverse)
    | _ => .stuck
  | _ => .stuck
def intsOf : List T → Option (List Int)
  | [] => some []
  | .int i :: r => (intsOf r).map (i :: ·)
  | _ :: _ => none
def boolsOf : List T → Option (List Bool)
  | [] => some []
  | .bl b :: r => (boolsOf r).map (b :: ·)
  | _ :: _ => none
def reprB (b : Bool) : Str := if b then "True" else "False"
def minL : List Int → Int
  | [] => 0
  | x :: r => r.foldl (fun m y => if y < m then y else m) x
def maxL : List Int → Int
  | [] => 0
  | x :: r => r.foldl (fun m y => if y > m then y else m) x
def isTy (ty : Ty) : T → Option Bool
  | .non => some false
  | .bl _ => some (match ty with | .int => true | .bool => true | _ => false)
  | .int _ => some (match ty with | .int => true | _ => false)
  | .str _ => some (match ty with | .str => true | _ => false)
  | .tup _ => some (match ty with | .tuple => true | _ => false)
  | _ => none
def isiF (ty : Ty) (as : List T) (st : Store) : R T :=
  match as with
  | [.ref n] => match ty, st[n]? with
    | .list, some (.lst _) => .ok (.bl true) st
    | .dict, some (.dic _) => .ok (.bl true) st
    | _, some (.lst _) => .ok (.bl false) st
    | _, some (.dic _) => .ok (.bl false) st
    | _, _ => .stuck
  | [t] => R.ofOpt st ((isTy ty t).map .bl)
  | _ => .stuck
def bfn (b : B) (as : List T) (st : Store) : R T :=
  match b, as with
  | .len, [.tup xs] => .ok (.int xs.length) st
  | .len, [.rol xs] => .ok (.int xs.length) st
  | .len, [.str s] => if s.length ≤ sizeLine then .ok (.int s.length) st else .stuck
  | .len, [.ref n] => match st[n]? with
    | some (.lst xs) => .ok (.int xs.length) st
    | some (.dic kvs) => .ok (.int kvs.length) st
    | _ => .stuck
  | .abs, [.int i] => .ok (.int (if i < 0 then -i else i)) st
  | .int, [.int i] => .ok (.int i) st
  | .tuple, [.tup xs] => .ok (.tup xs) st
  | .tuple, [.ref n] => match st[n]? with
    | some (.lst xs) => .ok (.tup xs) st
    | _ => .stuck
  | .list, [.tup xs] => alloc st (.lst xs)
  | .list, [.ref n] => match st[n]? with
    | some (.lst xs) => alloc st (.lst xs)
    | _ => .stuck
  | .sum, [.ref n] => match (listAt st n).bind intsOf with
    | some is => .ok (.int is.sum) st
    | none => .stuck
  | .all, [.ref n] => match (listAt st n).bind boolsOf with
    | some bs => .ok (.bl (bs.all id)) st
    | none => .stuck
  | .any, [.ref n] => match (listAt st n).bind boolsOf with
    | some bs => .ok (.bl (bs.any id)) st
    | none => .stuck
  | .min1, [.ref n] => match (listAt st n).bind intsOf with
    | some is => if is.isEmpty then .stuck else .ok (.int (minL is)) st
    | none => .stuck
  | .max1, [.ref n] => match (listAt st n).bind intsOf with
    | some is => if is.isEmpty then .stuck else .ok (.int (maxL is)) st
    | none => .stuck
  | .min2, [.int i, .int j] => .ok (.int (if j < i then j else i)) st
  | .max2, [.int i, .int j] => .ok (.int (if j > i then j else i)) st
  | .repr, [.bl b] => .ok (.str (reprB b)) st
  | .isi ty, as => isiF ty as st
  | _, _ => .stuck
def mAppend (o : T) (as : List T) (st : Store) : R T :=
  match o, as with
  | .ref n, [x] => match st[n]? with
    | some (.lst xs) => if xs.length < sizeLine then .ok .non (st.set n (.lst (xs ++ [x]))) else .stuck
    | _ => .stuck
  | _, _ => .stuck
def mExtend (o : T) (as : List T) (st : Store) : R T :=
  match o, as with
  | .ref n, [.ref j] => match st[n]?, st[j]? with
    | some (.lst xs), some (.lst ys) => if xs.length + ys.length ≤ sizeLine then .ok .non (st.set n (.lst (xs ++ ys))) else .stuck
    | _, _ => .stuck
  | _, _ => .stuck
def mGet (o : T) (as : List T) (st : Store) : R T :=
  match o, as with
  | .ref n, [k] => match st[n]? with
    | some (.dic kvs) => if isKey k then .ok ((dLook k kvs).getD .non) st else .stuck
    | _ => .stuck
  | .ref n, [k, d] => match st[n]? with
    | some (.dic kvs) => if isKey k then .ok ((dLook k kvs).getD d) st else .stuck
    | _ => .stuck
  | _, _ => .stuck
def mfn (m : M) (o : T) (as : List T) (st : Store) : R T :=
  match m with
  | .append => mAppend o as st
  | .extend => mExtend o as st
  | .get => mGet o as st
  | _ => .stuck
def isLst (o : T) (st : Store) : Bool := match o with
  | .ref n => match st[n]? with | some (.lst _) => true | _ => false
  | _ => false
def isDic (o : T) (st : Store) : Bool := match o with
  | .ref n => match st[n]? with | some (.dic _) => true | _ => false
  | _ => false
/-- the receiver is of the method's type -/
def mOk (m : M) (o : T) (st : Store) : Bool :=
  match m with
  | .append => isLst o st
  | .extend => isLst o st
  | .get => isDic o st
  | _ => false

/-! ### what is walked -/
inductive Itv where
  | lst (n : Nat) | tup (xs : List T) | rol (xs : List T) | rng (lo : Int) (n : Nat) | enumL (n : Nat) | enumT (xs : List T) | zipL (m n : Nat) | zipT (xs ys : List T)
/-- how many turns, by the store as it is -/
def Itv.len (st : Store) : Itv → Option Nat
  | .lst n => (listAt st n).map (·.length)
  | .tup xs => some xs.length
  | .rol xs => some xs.length
  | .rng _ n => some n
  | .enumL n => (listAt st n).map (·.length)
  | .enumT xs => some xs.length
  | .zipL m n => match listAt st m, listAt st n with
    | some xs, some ys => some (min xs.length ys.length)
    | _, _ => none
  | .zipT xs ys => some (min xs.length ys.length)
def pairT (a b : Option T) : Option T := match a, b with
  | some x, some y => some (.tup [x, y])
  | _, _ => none
def Itv.get (st : Store) (i : Nat) : Itv → Option T
  | .lst n => (listAt st n).bind (·[i]?)
  | .tup xs => xs[i]?
  | .rol xs => xs[i]?
  | .rng lo n => if i < n then some (.int (lo + i)) else none
  | .enumL n => pairT (some (.int i)) ((listAt st n).bind (·[i]?))
  | .enumT xs => pairT (some (.int i)) xs[i]?
  | .zipL m n => pairT ((listAt st m).bind (·[i]?)) ((listAt st n).bind (·[i]?))
  | .zipT xs ys => pairT xs[i]? ys[i]?
def bnd62 (i : Int) : Bool := inS P62 i
def itVal (t : T) (st : Store) : Option Itv :=
  match t with
  | .ref n => match st[n]? with
    | some (.lst _) => some (.lst n)
    | _ => none
  | .tup xs => some (.tup xs)
  | .rol xs => some (.rol xs)
  | _ => none
def itRange : List T → Option Itv
  | [.int j] => if bnd62 j then some (.rng 0 j.toNat) else none
  | [.int i, .int j] => if bnd62 i && bnd62 j then some (.rng i (j - i).toNat) else none
  | _ => none
def itEnum (t : T) (st : Store) : Option Itv :=
  match t with
  | .ref n => match st[n]? with
    | some (.lst _) => some (.enumL n)
    | _ => none
  | _ => none
def itZip (a b : T) (st : Store) : Option Itv :=
  match a, b with
  | .ref m, .ref n => match st[m]?, st[n]? with
    | some (.lst _), some (.lst _) => some (.zipL m n)
    | _, _ => none
  | .tup xs, .tup ys => some (.zipT xs ys)
  | _, _ => none

/-! ### loops -/
def forL (it : Itv) (body : T → Sl → Store → RS) : Nat → Nat → Sl → Store → RS
  | 0, i, sl, st => if it.len st = some i then .nx sl st else .stuck
  | k + 1, i, sl, st => match it.get st i with
    | some x => match body x sl st with
      | .nx sl st => forL it body k (i + 1) sl st
      | .ct sl st => forL it body k (i + 1) sl st
      | .bk sl st => .nx sl st
      | r => r
    | none => .stuck
def whileL (c : Sl → Store → R Bool) (body : Sl → Store → RS) : Nat → Sl → Store → RS
  | 0, _, _ => .stuck
  | k + 1, sl, st => (c sl st).thenS sl fun b st => if b then match body sl st with
      | .nx sl st => whileL c body k sl st
      | .ct sl st => whileL c body k sl st
      | .bk sl st => .nx sl st
      | r => r
    else .nx sl st
/-- a comprehension's loop: body tells an item, or none -/
def compL (it : Itv) (d : Nat) (body : T → Store → R (Option T)) : Nat → Nat → Store → R Unit
  | 0, i, st => if it.len st = some i then .ok () st else .stuck
  | k + 1, i, st => match it.get st i with
    | some x => (body x st).bind fun o st => match o with
      | none => compL it d body k (i + 1) st
      | some y => match st[d]? with
        | some (.lst acc) => if acc.length < sizeLine then compL it d body k (i + 1) (st.set d (.lst (acc ++ [y]))) else .stuck
        | _ => .stuck
    | none => .stuck
def wipeL (sl : Sl) : List Nat → Sl
  | [] => sl
  | v :: vs => (wipeL sl vs).set v none
/-- no exception leaves a comprehension -/
def R.noExc {α : Type} : R α → R α
  | .ok a st => .ok a st
  | _ => .stuck

def Tgs.len : Tgs → Nat
  | .nil => 0
  | .cons _ ts => ts.len + 1
/-- what stands around: the defs' values, the classes -/
structure Tab where
  consts : List T
  meth : Nat → Nat → Option Nat
  init : Nat → Option Nat
def WF : Nat := 1099511627776

abbrev Call := Nat → List T → Store → R T
def truR (st : Store) (t : T) : R Bool := R.ofOpt st (tru st t)
def intO : T → Option Int
  | .int i => some i
  | _ => none

variable (cl : Call) (G : Tab)
mutual
def evE : E → Sl → Store → R T
  | .var i, sl, st => match sl[i]? with
    | some (some t) => .ok t st
    | _ => .stuck
  | .cst t, _, st => .ok t st
  | .glb x, _, st => R.ofOpt st G.consts[x]?
  | .tup es, sl, st => (evEs es sl st).bind fun ts st => if ts.length ≤ sizeLine then .ok (.tup ts) st else .stuck
  | .lst es, sl, st => (evEs es sl st).bind fun ts st => if ts.length ≤ sizeLine then alloc st (.lst ts) else .stuck
  | .dct kvs, sl, st => (evKV kvs sl (st ++ [.dic []])).bind fun kvs st' => match st'[st.length]? with
    | some (.dic []) => if kvs.length ≤ 15 then .ok (.ref st.length) (st'.set st.length (.dic (kvs.foldl (fun acc p => dPut p.1 p.2 acc) []))) else .stuck
    | _ => .stuck
  | .bin op a b, sl, st => (evE a sl st).bind fun x st => (evE b sl st).bind fun y st => binT op x y st
  | .neg a, sl, st => (evE a sl st).bind fun x st => match x with
    | .int i => .ok (.int (-i)) st
    | _ => .stuck
  | .cmp op a b, sl, st => (evE a sl st).bind fun x st => (evE b sl st).bind fun y st => R.ofOpt st ((cmpT op x y st).map .bl)
  | .chn op op' a b c, sl, st => (evE a sl st).bind fun x st => (evE b sl st).bind fun y st => (R.ofOpt st (cmpT op x y st)).bind fun k st =>
      if k then (evE c sl st).bind fun z st => R.ofOpt st ((cmpT op' y z st).map .bl) else .ok (.bl false) st
  | .and a b, sl, st => (evE a sl st).bind fun x st => (truR st x).bind fun k st => if k then evE b sl st else .ok x st
  | .or a b, sl, st => (evE a sl st).bind fun x st => (truR st x).bind fun k st => if k then .ok x st else evE b sl st
  | .not a, sl, st => (evE a sl st).bind fun x st => (truR st x).bind fun k st => .ok (.bl (!k)) st
  | .ite c a b, sl, st => (evE c sl st).bind fun x st => (truR st x).bind fun k st => if k then evE a sl st else evE b sl st
  | .call f es, sl, st => (evEs es sl st).bind fun ts st => cl f ts st
  | .make c es, sl, st => (evEs es sl st).bind fun ts st => match G.init c with
    | some f => (cl f (.ref st.length :: ts) (st ++ [.ins c []])).bind fun _ st' => .ok (.ref st.length) st'
    | none => .stuck
  | .bcall b es, sl, st => (evEs es sl st).bind fun ts st => bfn b ts st
  | .mcall m o es, sl, st => (evE o sl st).bind fun x st => if mOk m x st then (evEs es sl st).bind fun ts st => mfn m x ts st else .stuck
  | .own m o es, sl, st => (evE o sl st).bind fun x st => match x with
    | .ref n => match st[n]? with
      | some (.ins c _) => match G.meth c m with
        | some f => (evEs es sl st).bind fun ts st => cl f (.ref n :: ts) st
        | none => .stuck
      | _ => .stuck
    | _ => .stuck
  | .fld o f, sl, st => (evE o sl st).bind fun x st => match x with
    | .ref n => match st[n]? with
      | some (.ins _ fs) => R.ofOpt st (fs.lookup f)
      | _ => .stuck
    | _ => .stuck
  | .ix a i, sl, st => (evE a sl st).bind fun x st => (evE i sl st).bind fun y st => R.ofOpt st (ixT x y st)
  | .slc a lo hi, sl, st => (evE a sl st).bind fun x st => (evEo lo sl st).bind fun l st => (evEo hi sl st).bind fun h st => slcT x l h st
  | .rev a, sl, st => (evE a sl st).bind fun x st => revT x st
  | .comp tg it c e own, sl, st => (evIt it sl st).bind fun J st => match J.len st with
    | some k => ((compL J st.length (fun x st => (evTg tg x (wipeL sl own) st).bind fun sl' st => (evC c sl' st).bind fun b st =>
        if b then (evE e sl' st).bind fun y st => .ok (some y) st else .ok none st) k 0 (st ++ [.lst []])).bind fun _ st' => .ok (.ref st.length) st').noExc
    | none => .stuck
  | .dcomp _ _ _ _ _ _, _, _ => .stuck
def evEs : Es → Sl → Store → R (List T)
  | .nil, _, st => .ok [] st
  | .cons e es, sl, st => (evE e sl st).bind fun t st => (evEs es sl st).bind fun ts st => .ok (t :: ts) st
def evKV : KVs → Sl → Store → R (List (T × T))
  | .nil, _, st => .ok [] st
  | .cons k v r, sl, st => (evE k sl st).bind fun a st => (evE v sl st).bind fun b st => (evKV r sl st).bind fun r st =>
      if isKey a then .ok ((a, b) :: r) st else .stuck
def evEo : Eo → Sl → Store → R (Option Int)
  | .none, _, st => .ok none st
  | .some e, sl, st => (evE e sl st).bind fun x st => match x with
    | .int i => .ok (some i) st
    | _ => .stuck
/-- a clause's test -/
def evC : Eo → Sl → Store → R Bool
  | .none, _, st => .ok true st
  | .some e, sl, st => (evE e sl st).bind fun x st => truR st x
def evIt : It → Sl → Store → R Itv
  | .val e, sl, st => (evE e sl st).bind fun x st => R.ofOpt st (itVal x st)
  | .range es, sl, st => (evEs es sl st).bind fun xs st => R.ofOpt st (itRange xs)
  | .enum e, sl, st => (evE e sl st).bind fun x st => R.ofOpt st (itEnum x st)
  | .zip a b, sl, st => (evE a sl st).bind fun x st => (evE b sl st).bind fun y st => R.ofOpt st (itZip x y st)
def evTg : Tg → T → Sl → Store → R Sl
  | .nm i, t, sl, st => .ok (sl.set i (some t)) st
  | .tup ts, t, sl, st => match t with
    | .tup xs => if xs.length = ts.len then evTgs ts xs sl st else .stuck
    | _ => .stuck
  | .sub o i, t, sl, st => (evE o sl st).bind fun x st => (evE i sl st).bind fun y st => (setIx x y t st).bind fun _ st => .ok sl st
  | .fld o f, t, sl, st => (evE o sl st).bind fun x st => match x with
    | .ref n => match st[n]? with
      | some (.ins c fs) => if fs.length < 1000 then .ok sl (st.set n (.ins c (putL f t fs))) else .stuck
      | _ => .stuck
    | _ => .stuck
def evTgs : Tgs → List T → Sl → Store → R Sl
  | .nil, [], sl, st => .ok sl st
  | .cons t ts, x :: xs, sl, st => (evTg t x sl st).bind fun sl st => evTgs ts xs sl st
  | _, _, _, _ => .stuck
end
mutual
def evS : S → Sl → Store → RS
  | .asg tg e, sl, st => (evE cl G e sl st).thenS sl fun x st => (evTg cl G tg x sl st).noExc.thenS sl fun sl st => .nx sl st
  | .par i j a b, sl, st => (evE cl G a sl st).thenS sl fun x st => (evE cl G b sl st).thenS sl fun y st => .nx ((sl.set i (some x)).set j (some y)) st
  | .aug i op e, sl, st => match sl[i]? with
    | some (some x) => (evE cl G e sl st).thenS sl fun y st => match x, y with
      | .int _, .int _ => (binT op x y st).thenS sl fun z st => .nx (sl.set i (some z)) st
      | _, _ => .stuck
    | _ => .stuck
  | .augF _ _ _ _, _, _ => .stuck
  | .expr e, sl, st => (evE cl G e sl st).thenS sl fun _ st => .nx sl st
  | .ret e, sl, st => (evE cl G e sl st).thenS sl fun x st => .rt x st
  | .retN, _, st => .rt .non st
  | .pass, sl, st => .nx sl st
  | .brk, sl, st => .bk sl st
  | .cnt, sl, st => .ct sl st
  | .ifS c a b, sl, st => ((evE cl G c sl st).bind fun x st => truR st x).thenS sl fun k st => if k then evSs a sl st else evSs b sl st
  | .whl c b, sl, st => whileL (fun sl st => (evE cl G c sl st).bind fun x st => truR st x) (fun sl st => evSs b sl st) WF sl st
  | .for tg it b, sl, st => (evIt cl G it sl st).thenS sl fun J st => match J.len st with
    | some k => forL J (fun x sl st => (evTg cl G tg x sl st).noExc.thenS sl fun sl st => evSs b sl st) k 0 sl st
    | none => .stuck
  | .raise c es, sl, st => match es with
    | .nil => .xc ⟨c, []⟩ sl st
    | _ => .stuck
  | .tryS b c as h, sl, st => match evSs b sl st with
    | .xc x sl st => if x.cls = c ∧ as = none then (evSs h sl st).noXc else .stuck
    | r => r
def evSs : Ss → Sl → Store → RS
  | .nil, sl, st => .nx sl st
  | .cons s ss, sl, st => match evS s sl st with
    | .nx sl st => evSs ss sl st
    | r => r
end

/-! ### calls -/
mutual
def T.lim (n : Nat) : T → Bool
  | .ref m => decide (m < n)
  | .tup l => T.lims n l
  | .rol l => T.lims n l
  | _ => true
def T.lims (n : Nat) : List T → Bool
  | [] => true
  | t :: ts => t.lim n && T.lims n ts
end
def Cell.lim (n : Nat) : Cell → Bool
  | .lst xs => xs.all (·.lim n)
  | .dic kvs => kvs.all fun p => p.1.lim n && p.2.lim n
  | .set xs => xs.all (·.lim n)
  | .ins _ fs => fs.all (·.2.lim n)
  | .dead => true
def Closed (st : Store) (n : Nat) : Bool := st.all (·.lim n)
/-- behind a call: what nothing names any more is forgotten -/
def gc (n : Nat) : R T → R T
  | .ok v st => if Closed (st.take n) n && decide (n ≤ st.length) then
      if v.lim n then .ok v (st.take n)
      else match v with
        | .ref m => match st[m]? with
          | some c => if c.lim n then .ok (.ref n) (st.take n ++ [c]) else .ok v st
          | none => .ok v st
        | _ => .ok v st
    else .ok v st
  | .exc x st => if Closed (st.take n) n && decide (n ≤ st.length) && x.fs.all (·.2.lim n) then .exc x (st.take n) else .exc x st
  | .stuck => .stuck
structure Fn where
  name : Str
  ps : List Str
  arity : Nat
  slots : Nat
  gc : Bool
  body : Ss
def RS.toR : RS → R T
  | .nx _ st => .ok .non st
  | .rt t st => .ok t st
  | .xc x _ st => .exc x st
  | _ => .stuck
/-- n calls deep -/
def run (fns : List Fn) (G : Tab) : Nat → Call
  | 0, _, _, _ => .stuck
  | n + 1, f, ts, st => match fns[f]? with
    | some F => if ts.length = F.arity then
        (if F.gc then gc st.length else id) (evSs (run fns G n) G F.body (ts.map some ++ List.replicate (F.slots - F.arity) none) st).toR
      else .stuck
    | none => .stuck
end PF

end

section
set_option Elab.async false
set_option linter.all false
set_option maxRecDepth 100000
set_option maxHeartbeats 2000000
set_option autoImplicit false
/-! PfB1: how a store and its values lie in the abstract heap. -/
namespace PF
open PySem L2 PySem.Spec PyProof.Rows

/-- addresses of the text's own classes and defs -/
structure Ad where
  ca : Nat → Option Addr
  fa : Nat → Option Addr
/-- a list that is only read -/
def RoL (K : PySem.W.Frag) (H : Hp) (a : Addr) (xs : List V) : Prop :=
  (∃ o, H a = some (.frz o (.lst xs))) ∨ ∃ (o : Obj) (its : Array Value) (n : Nat), K.lookup a = some o ∧ o.cls = .type "list" ∧ o.dict = none ∧ o.data = .seq its n ∧ its.size ≤ sizeLine ∧ Vals xs its.toList
theorem RoL.sql {K : PySem.W.Frag} {H : Hp} {a : Addr} {xs : List V} (h : RoL K H a xs) : SqL K H a xs := by
  rcases h with h | h
  · exact .inl (.inr h)
  · exact .inr h
section
variable (K : PySem.W.Frag) (A : Ad)
mutual
inductive RT (ρ : List Addr) (H : Hp) : V → T → Prop
  | non : RT ρ H .non .non
  | bl (b : Bool) : RT ρ H (.bl b) (.bl b)
  | int (i : Int) : RT ρ H (.int i) (.int i)
  | str (s : Str) : PyData.strOk s = true → RT ρ H (.str s) (.str s)
  | tup {a : Addr} {xs : List V} {ts : List T} : SqT K H a xs → RTs ρ H xs ts → RT ρ H (.ref a) (.tup ts)
  | rol {a : Addr} {xs : List V} {ts : List T} : RoL K H a xs → RTs ρ H xs ts → RT ρ H (.ref a) (.rol ts)
  | ref {a : Addr} {n : Nat} : ρ[n]? = some a → RT ρ H (.ref a) (.ref n)
  | fn {a : Addr} {n : Nat} : A.fa n = some a → RT ρ H (.ref a) (.fn n)
inductive RTs (ρ : List Addr) (H : Hp) : List V → List T → Prop
  | nil : RTs ρ H [] []
  | cons {v : V} {vs : List V} {t : T} {ts : List T} : RT ρ H v t → RTs ρ H vs ts → RTs ρ H (v :: vs) (t :: ts)
end
/-- pairs of a dict -/
inductive RKs (ρ : List Addr) (H : Hp) : List (Key × V) → List (T × T) → Prop
  | nil : RKs ρ H [] []
  | cons {k : Key} {v : V} {ks : List (Key × V)} {t u : T} {kvs : List (T × T)} : RT K A ρ H (kV k) t → RT K A ρ H v u → RKs ρ H ks kvs → RKs ρ H ((k, v) :: ks) ((t, u) :: kvs)
inductive RFs (ρ : List Addr) (H : Hp) : List (Str × V) → List (Str × T) → Prop
  | nil : RFs ρ H [] []
  | cons {f : Str} {v : V} {gs : List (Str × V)} {t : T} {fs : List (Str × T)} : RT K A ρ H v t → RFs ρ H gs fs → RFs ρ H ((f, v) :: gs) ((f, t) :: fs)
def RC (ρ : List Addr) (H : Hp) (a : Addr) : Cell → Prop
  | .lst ts => ∃ xs, H a = some (.lst xs) ∧ RTs K A ρ H xs ts
  | .dic kvs => ∃ ks, H a = some (.dK ks) ∧ RKs K A ρ H ks kvs
  | .set _ => False
  | .ins c fs => ∃ C dx gs, A.ca c = some C ∧ H a = some (.ins C dx gs) ∧ RFs K A ρ H gs fs
  | .dead => ∃ o, H a = some o
structure Rel (ρ : List Addr) (H : Hp) (st : Store) : Prop where
  len : ρ.length = st.length
  nd : ρ.Nodup
  cell : ∀ (i : Nat) (a : Addr) (c : Cell), ρ[i]? = some a → st[i]? = some c → RC K A ρ H a c
structure Step (ρ : List Addr) (H : Hp) (ρ' : List Addr) (H' : Hp) : Prop where
  pre : ρ <+: ρ'
  tup : ∀ a xs, SqT K H a xs → SqT K H' a xs
  rol : ∀ a xs, RoL K H a xs → RoL K H' a xs
/-- the slots -/
structure RSl (ρ : List Addr) (H : Hp) (σ : L2.St) (sl : Sl) : Prop where
  len : σ.length = sl.length
  at_ : ∀ (i : Nat) (t : T), sl[i]? = some (some t) → ∃ v, σ[i]? = some (some v) ∧ RT K A ρ H v t
def RX (ρ : List Addr) (H : Hp) (x : Ex) (cls : Value) (d : Option Addr) : Prop :=
  ∃ C, A.ca x.cls = some C ∧ cls = .ref C ∧ ((x.fs = [] ∧ d = none) ∨ ∃ dd gs, d = some dd ∧ H dd = some (.xd gs) ∧ RFs K A ρ H gs x.fs)
/-- what is wanted behind code that gives r -/
def OkG {α β : Type} (rr : List Addr → Hp → β → α → Prop) (ρ : List Addr) (H : Hp) (r : R α) (Q : β → Hp → Prop) (W : Value → Option Addr → Hp → Prop) : Prop := match r with
  | .ok a st' => ∀ b H' ρ', Step K ρ H ρ' H' → Rel K A ρ' H' st' → rr ρ' H' b a → Q b H'
  | .exc x st' => ∀ cls d H' ρ', Step K ρ H ρ' H' → Rel K A ρ' H' st' → RX K A ρ' H' x cls d → W cls d H'
  | .stuck => False
end

section
variable {K : PySem.W.Frag} {A : Ad} {ρ ρ1 ρ2 : List Addr} {H H1 H2 : Hp} {st st1 : Store}
theorem Step.refl : Step K ρ H ρ H := ⟨List.prefix_rfl, fun _ _ h => h, fun _ _ h => h⟩
theorem Step.trans (a : Step K ρ H ρ1 H1) (b : Step K ρ1 H1 ρ2 H2) : Step K ρ H ρ2 H2 :=
  ⟨a.pre.trans b.pre, fun c xs h => b.tup c xs (a.tup c xs h), fun c xs h => b.rol c xs (a.rol c xs h)⟩
theorem pre_get {α : Type} {l l' : List α} (h : l <+: l') {n : Nat} {a : α} (e : l[n]? = some a) : l'[n]? = some a := by
  obtain ⟨r, rfl⟩ := h
  rw [List.getElem?_append_left (List.getElem?_eq_some_iff.mp e).1]; exact e
mutual
theorem RT.step (s : Step K ρ H ρ1 H1) : ∀ {v : V} {t : T}, RT K A ρ H v t → RT K A ρ1 H1 v t
  | _, _, .non => .non
  | _, _, .bl b => .bl b
  | _, _, .int i => .int i
  | _, _, .str x h => .str x h
  | _, _, .tup h r => .tup (s.tup _ _ h) (RTs.step s r)
  | _, _, .rol h r => .rol (s.rol _ _ h) (RTs.step s r)
  | _, _, .ref h => .ref (pre_get s.pre h)
  | _, _, .fn h => .fn h
theorem RTs.step (s : Step K ρ H ρ1 H1) : ∀ {vs : List V} {ts : List T}, RTs K A ρ H vs ts → RTs K A ρ1 H1 vs ts
  | _, _, .nil => .nil
  | _, _, .cons r rs => .cons (RT.step s r) (RTs.step s rs)
end
theorem RKs.step (s : Step K ρ H ρ1 H1) : ∀ {ks : List (Key × V)} {kvs : List (T × T)}, RKs K A ρ H ks kvs → RKs K A ρ1 H1 ks kvs
  | _, _, .nil => .nil
  | _, _, .cons a b r => .cons (a.step s) (b.step s) (RKs.step s r)
theorem RFs.step (s : Step K ρ H ρ1 H1) : ∀ {gs : List (Str × V)} {fs : List (Str × T)}, RFs K A ρ H gs fs → RFs K A ρ1 H1 gs fs
  | _, _, .nil => .nil
  | _, _, .cons a r => .cons (a.step s) (RFs.step s r)
theorem RC.step (s : Step K ρ H ρ1 H1) {a : Addr} (e : H1 a = H a) : ∀ {c : Cell}, RC K A ρ H a c → RC K A ρ1 H1 a c
  | .lst ts, ⟨xs, h, r⟩ => ⟨xs, e.trans h, r.step s⟩
  | .dic kvs, ⟨ks, h, r⟩ => ⟨ks, e.trans h, r.step s⟩
  | .set _, h => h.elim
  | .ins c fs, ⟨C, dx, gs, k, h, r⟩ => ⟨C, dx, gs, k, e.trans h, r.step s⟩
  | .dead, ⟨o, h⟩ => ⟨o, e.trans h⟩
theorem RSl.step (s : Step K ρ H ρ1 H1) {σ : L2.St} {sl : Sl} (r : RSl K A ρ H σ sl) : RSl K A ρ1 H1 σ sl :=
  ⟨r.len, fun i t e => let ⟨v, e1, h⟩ := r.at_ i t e; ⟨v, e1, h.step s⟩⟩
theorem RC.some {a : Addr} : ∀ {c : Cell}, RC K A ρ H a c → ∃ o, H a = some o
  | .lst _, ⟨_, h, _⟩ => ⟨_, h⟩
  | .dic _, ⟨_, h, _⟩ => ⟨_, h⟩
  | .set _, h => h.elim
  | .ins _ _, ⟨_, _, _, _, h, _⟩ => ⟨_, h⟩
  | .dead, h => h
theorem Rel.at_ (r : Rel K A ρ H st) {i : Nat} {a : Addr} (e : ρ[i]? = some a) : ∃ c, st[i]? = some c ∧ RC K A ρ H a c := by
  have hi : i < st.length := by rw [← r.len]; exact (List.getElem?_eq_some_iff.mp e).1
  exact ⟨st[i], List.getElem?_eq_getElem hi, r.cell i a _ e (List.getElem?_eq_getElem hi)⟩
theorem Rel.addr (r : Rel K A ρ H st) {i : Nat} {c : Cell} (e : st[i]? = some c) : ∃ a, ρ[i]? = some a := by
  have hi : i < ρ.length := by rw [r.len]; exact (List.getElem?_eq_some_iff.mp e).1
  exact ⟨ρ[i], List.getElem?_eq_getElem hi⟩
theorem Rel.fresh (r : Rel K A ρ H st) {p : Addr} (h : H p = none) : p ∉ ρ := fun hp => by
  obtain ⟨i, hi⟩ := List.getElem?_of_mem hp
  obtain ⟨c, _, k⟩ := r.at_ hi
  obtain ⟨o, e⟩ := k.some
  rw [h] at e; cases e
theorem OkG.base {α β : Type} {rr : List Addr → Hp → β → α → Prop} {r : R α} {Q : β → Hp → Prop} {W : Value → Option Addr → Hp → Prop} (h : OkG K A rr ρ H r Q W) (s : Step K ρ H ρ1 H1) : OkG K A rr ρ1 H1 r Q W := by
  cases r with
  | ok a st' => exact fun b H' ρ' s' => h b H' ρ' (s.trans s')
  | exc x st' => exact fun c d H' ρ' s' => h c d H' ρ' (s.trans s')
  | stuck => exact h
theorem OkG.seq {α β γ δ : Type} {rr : List Addr → Hp → β → α → Prop} {rs : List Addr → Hp → δ → γ → Prop} {r : R α} {f : α → Store → R γ} {Q1 : β → Hp → Prop} {Q : δ → Hp → Prop} {W : Value → Option Addr → Hp → Prop}
    (h : OkG K A rs ρ H (r.bind f) Q W) (hk : ∀ a st1 b H1 ρ1, Step K ρ H ρ1 H1 → Rel K A ρ1 H1 st1 → rr ρ1 H1 b a → OkG K A rs ρ1 H1 (f a st1) Q W → Q1 b H1) : OkG K A rr ρ H r Q1 W := by
  cases r with
  | ok a st' => exact fun b H' ρ' s' R' q => hk a st' b H' ρ' s' R' q (OkG.base h s')
  | exc x st' => exact h
  | stuck => exact h
theorem OkG.mono {α β : Type} {rr : List Addr → Hp → β → α → Prop} {r : R α} {Q Q' : β → Hp → Prop} {W W' : Value → Option Addr → Hp → Prop} (h : OkG K A rr ρ H r Q W) (hq : ∀ b H, Q b H → Q' b H) (hw : ∀ c d H, W c d H → W' c d H) : OkG K A rr ρ H r Q' W' := by
  cases r with
  | ok a st' => exact fun b H' ρ' s' R' q => hq _ _ (h b H' ρ' s' R' q)
  | exc x st' => exact fun c d H' ρ' s' R' q => hw _ _ _ (h c d H' ρ' s' R' q)
  | stuck => exact h

/-! ### the heap grows, a cell is written -/
theorem Step.new {p : Addr} {o : HO} (h : H p = none) : Step K ρ H ρ (upd H p o) :=
  ⟨List.prefix_rfl, fun a xs q => by
    rcases q with q | q
    · refine .inl ?_
      rcases q with q | ⟨u, q⟩
      · exact .inl (by rw [upd_ne (ne_of_none q h)]; exact q)
      · exact .inr ⟨u, by rw [upd_ne (ne_of_none q h)]; exact q⟩
    · exact .inr q, fun a xs q => by
    rcases q with ⟨u, q⟩ | q
    · exact .inl ⟨u, by rw [upd_ne (ne_of_none q h)]; exact q⟩
    · exact .inr q⟩
theorem Step.push (s : Step K ρ H ρ1 H1) {p : Addr} : Step K ρ H (ρ1 ++ [p]) H1 := ⟨s.pre.trans (List.prefix_append _ _), s.tup, s.rol⟩
/-- an object that is no tuple and is not locked is written -/
theorem Step.write {p : Addr} {o u : HO} (h : H p = some u) (hu : Mut (some u)) : Step K ρ H ρ (upd H p o) := by
  have n1 : ∀ a xs, H a = some (.tup xs) → a ≠ p := fun a xs q e => by subst e; rw [h] at q; cases q; exact hu
  have n2 : ∀ a ob v, H a = some (.frz ob v) → a ≠ p := fun a ob v q e => by subst e; rw [h] at q; cases q; exact hu
  refine ⟨List.prefix_rfl, fun a xs q => ?_, fun a xs q => ?_⟩
  · rcases q with q | q
    · refine .inl ?_
      rcases q with q | ⟨u, q⟩
      · exact .inl (by rw [upd_ne (n1 _ _ q)]; exact q)
      · exact .inr ⟨u, by rw [upd_ne (n2 _ _ _ q)]; exact q⟩
    · exact .inr q
  · rcases q with ⟨u, q⟩ | q
    · exact .inl ⟨u, by rw [upd_ne (n2 _ _ _ q)]; exact q⟩
    · exact .inr q
/-- a new object that no cell stands for (a tuple) -/
theorem Rel.new (r : Rel K A ρ H st) {p : Addr} {o : HO} (h : H p = none) : Rel K A ρ (upd H p o) st :=
  ⟨r.len, r.nd, fun i a c e1 e2 => (r.cell i a c e1 e2).step (Step.new h) (by
    have : a ≠ p := fun q => r.fresh h (by rw [← q]; exact List.mem_of_getElem? e1)
    exact upd_ne this)⟩
/-- a new cell -/
theorem Rel.push (r : Rel K A ρ H st) {p : Addr} (h : p ∉ ρ) {c : Cell} (hc : RC K A (ρ ++ [p]) H p c) : Rel K A (ρ ++ [p]) H (st ++ [c]) := by
  refine ⟨by simp [r.len], ?_, fun i a d e1 e2 => ?_⟩
  · rw [List.nodup_append]
    refine ⟨r.nd, by simp, fun x hx y hy e => ?_⟩
    have : y = p := by simpa using hy
    subst this; subst e
    exact h hx
  · by_cases hi : i < ρ.length
    · rw [List.getElem?_append_left hi] at e1
      rw [List.getElem?_append_left (by rw [← r.len]; exact hi)] at e2
      exact (r.cell i a d e1 e2).step (Step.push .refl) rfl
    · have hl : (ρ ++ [p]).length = ρ.length + 1 := by simp
      have h1 : i < ρ.length + 1 := by rw [← hl]; exact (List.getElem?_eq_some_iff.mp e1).1
      have e : i = ρ.length := by omega
      subst e
      rw [List.getElem?_append_right (Nat.le_refl _)] at e1
      rw [r.len, List.getElem?_append_right (Nat.le_refl _)] at e2
      simp at e1 e2
      subst e1; subst e2
      exact hc
theorem Rel.alloc (r : Rel K A ρ H st) {p : Addr} (h : H p = none) {o : HO} {c : Cell} (hc : ∀ ρ', Step K ρ H ρ' (upd H p o) → RC K A ρ' (upd H p o) p c) : Rel K A (ρ ++ [p]) (upd H p o) (st ++ [c]) :=
  (r.new h).push (r.fresh h) (hc _ (Step.push (Step.new h)))
theorem Rel.idx (r : Rel K A ρ H st) {p : Addr} : (ρ ++ [p])[st.length]? = some p := by
  rw [← r.len, List.getElem?_append_right (Nat.le_refl _)]; simp
theorem nodup_idx {l : List Addr} (h : l.Nodup) {i j : Nat} {a : Addr} (e1 : l[i]? = some a) (e2 : l[j]? = some a) : i = j := by
  obtain ⟨h1, q1⟩ := List.getElem?_eq_some_iff.mp e1
  obtain ⟨h2, q2⟩ := List.getElem?_eq_some_iff.mp e2
  exact (List.getElem_inj h).mp (q1.trans q2.symm)
/-- a cell written -/
theorem Rel.write (r : Rel K A ρ H st) {n : Nat} {a : Addr} (e : ρ[n]? = some a) {o u : HO} (h : H a = some u) (hu : Mut (some u)) {c : Cell} (hc : ∀ s : Step K ρ H ρ (upd H a o), RC K A ρ (upd H a o) a c) : Rel K A ρ (upd H a o) (st.set n c) := by
  refine ⟨by rw [List.length_set]; exact r.len, r.nd, fun i b d e1 e2 => ?_⟩
  by_cases hi : i = n
  · subst hi
    rw [e] at e1; cases e1
    have hl : i < st.length := by rw [← r.len]; exact (List.getElem?_eq_some_iff.mp e).1
    rw [List.getElem?_set_self hl] at e2
    cases e2
    exact hc (Step.write h hu)
  · rw [List.getElem?_set_ne (Ne.symm hi)] at e2
    refine (r.cell i b d e1 e2).step (Step.write h hu) (upd_ne fun q => hi ?_)
    subst q
    exact nodup_idx r.nd e1 e

/-! ### values -/
theorem RTs.length : ∀ {vs : List V} {ts : List T}, RTs K A ρ H vs ts → vs.length = ts.length
  | _, _, .nil => rfl
  | _, _, .cons _ r => by simp [RTs.length r]
theorem RTs.get : ∀ {vs : List V} {ts : List T} {i : Nat} {t : T}, RTs K A ρ H vs ts → ts[i]? = some t → ∃ v, vs[i]? = some v ∧ RT K A ρ H v t
  | _, _, _, _, .nil, e => by simp at e
  | _, _, 0, _, .cons r _, e => by simp at e; subst e; exact ⟨_, rfl, r⟩
  | _, _, i + 1, _, .cons _ rs, e => by
    obtain ⟨v, h1, h2⟩ := RTs.get (i := i) rs (by simpa using e)
    exact ⟨v, by simpa using h1, h2⟩
theorem RTs.append : ∀ {vs ws : List V} {ts us : List T}, RTs K A ρ H vs ts → RTs K A ρ H ws us → RTs K A ρ H (vs ++ ws) (ts ++ us)
  | _, _, _, _, .nil, h => h
  | _, _, _, _, .cons r rs, h => .cons r (RTs.append rs h)
theorem RTs.drop : ∀ {vs : List V} {ts : List T} (n : Nat), RTs K A ρ H vs ts → RTs K A ρ H (vs.drop n) (ts.drop n)
  | _, _, 0, h => h
  | _, _, _ + 1, .nil => .nil
  | _, _, n + 1, .cons _ rs => RTs.drop n rs
theorem RTs.take : ∀ {vs : List V} {ts : List T} (n : Nat), RTs K A ρ H vs ts → RTs K A ρ H (vs.take n) (ts.take n)
  | _, _, 0, _ => .nil
  | _, _, _ + 1, .nil => .nil
  | _, _, n + 1, .cons r rs => .cons r (RTs.take n rs)
theorem RTs.set : ∀ {vs : List V} {ts : List T} {v : V} {t : T} (n : Nat), RTs K A ρ H vs ts → RT K A ρ H v t → RTs K A ρ H (vs.set n v) (ts.set n t)
  | _, _, _, _, _, .nil, _ => .nil
  | _, _, _, _, 0, .cons _ rs, h => .cons h rs
  | _, _, _, _, n + 1, .cons r rs, h => .cons r (RTs.set n rs h)
theorem RTs.rev {vs : List V} {ts : List T} (h : RTs K A ρ H vs ts) : RTs K A ρ H vs.reverse ts.reverse := by
  induction vs generalizing ts with
  | nil => cases h; exact .nil
  | cons v vs ih =>
    cases h with
    | cons r rs =>
      rw [List.reverse_cons, List.reverse_cons]
      exact RTs.append (ih rs) (.cons r .nil)
theorem RTs.mem {vs : List V} {ts : List T} (h : RTs K A ρ H vs ts) {v : V} (hv : v ∈ vs) : ∃ t, t ∈ ts ∧ RT K A ρ H v t := by
  induction vs generalizing ts with
  | nil => cases hv
  | cons w ws ih =>
    cases h with
    | cons r rs =>
      rcases List.mem_cons.mp hv with rfl | hv
      · exact ⟨_, List.mem_cons_self, r⟩
      · obtain ⟨t, ht, q⟩ := ih rs hv
        exact ⟨t, List.mem_cons_of_mem _ ht, q⟩
theorem RTs.flatten_rep {vs : List V} {ts : List T} (h : RTs K A ρ H vs ts) : ∀ n : Nat, RTs K A ρ H (List.replicate n vs).flatten (List.replicate n ts).flatten
  | 0 => .nil
  | n + 1 => by
    rw [List.replicate_succ, List.replicate_succ, List.flatten_cons, List.flatten_cons]
    exact RTs.append h (RTs.flatten_rep h n)
end
end PF

end

section
set_option Elab.async false
set_option linter.all false
set_option maxRecDepth 100000
set_option maxHeartbeats 2000000
set_option autoImplicit false
/-! PfB2: the operations on values, by the layer's rules. -/
namespace PF
open PySem L2 PySem.Spec PyProof.Rows

/-- two values in, by the store: what is asked -/
def r2 (K : PySem.W.Frag) (A : Ad) (g : T → T → Store → R T) : R2 := fun x y H Q => ∃ ρ st t u W, Rel K A ρ H st ∧ RT K A ρ H x t ∧ RT K A ρ H y u ∧ OkG K A (RT K A) ρ H (g t u st) Q W
def r1 (K : PySem.W.Frag) (A : Ad) (g : T → Store → R T) : V → Hp → VK → Prop := fun x H Q => ∃ ρ st t W, Rel K A ρ H st ∧ RT K A ρ H x t ∧ OkG K A (RT K A) ρ H (g t st) Q W
def rL (K : PySem.W.Frag) (A : Ad) (g : List T → Store → R T) : List V → Hp → VK → Prop := fun xs H Q => ∃ ρ st ts W, Rel K A ρ H st ∧ RTs K A ρ H xs ts ∧ OkG K A (RT K A) ρ H (g ts st) Q W

section
variable {K : PySem.W.Frag} {A : Ad} {ρ : List Addr} {H : Hp} {st : Store}
theorem strOk_append {x y : Str} (h1 : PyData.strOk x = true) (h2 : PyData.strOk y = true) : PyData.strOk (x ++ y) = true := by
  unfold PyData.strOk at *
  show (x.cps ++ y.cps).all _ = true
  rw [Array.all_append, h1, h2]; rfl
theorem Rel.lstAt (R : Rel K A ρ H st) {n : Nat} {a : Addr} {xs : List T} (e : ρ[n]? = some a) (h : st[n]? = some (.lst xs)) : ∃ vs, H a = some (.lst vs) ∧ RTs K A ρ H vs xs := R.cell n a _ e h
theorem Rel.dicAt (R : Rel K A ρ H st) {n : Nat} {a : Addr} {kvs : List (T × T)} (e : ρ[n]? = some a) (h : st[n]? = some (.dic kvs)) : ∃ ks, H a = some (.dK ks) ∧ RKs K A ρ H ks kvs := R.cell n a _ e h
/-- a new list -/
theorem OkG.newLst {vs : List V} {ts : List T} {Q : V → Hp → Prop} {W : Value → Option Addr → Hp → Prop} (R : Rel K A ρ H st) (r : RTs K A ρ H vs ts) (h : OkG K A (RT K A) ρ H (alloc st (.lst ts)) Q W) : ∀ p, H p = none → Q (.ref p) (upd H p (.lst vs)) := by
  intro p hp
  refine h (.ref p) (upd H p (.lst vs)) (ρ ++ [p]) (Step.push (Step.new hp)) (R.alloc hp fun ρ' s => ⟨vs, upd_same, r.step s⟩) (.ref R.idx)
/-- a new tuple -/
theorem OkG.newTup {vs : List V} {ts : List T} {Q : V → Hp → Prop} {W : Value → Option Addr → Hp → Prop} (R : Rel K A ρ H st) (r : RTs K A ρ H vs ts) (h : OkG K A (RT K A) ρ H (.ok (.tup ts) st) Q W) : ∀ p, H p = none → Q (.ref p) (upd H p (.tup vs)) := by
  intro p hp
  exact h (.ref p) (upd H p (.tup vs)) ρ (Step.new hp) (R.new hp) (.tup (SqT.of upd_same) (r.step (Step.new hp)))
theorem OkG.same {t : T} {v : V} {Q : V → Hp → Prop} {W : Value → Option Addr → Hp → Prop} (R : Rel K A ρ H st) (r : RT K A ρ H v t) (h : OkG K A (RT K A) ρ H (.ok t st) Q W) : Q v H := h v H ρ .refl R r
theorem RTs.nil_iff {vs : List V} {ts : List T} (r : RTs K A ρ H vs ts) : vs = [] ↔ ts = [] := by
  cases r with
  | nil => simp
  | cons _ _ => simp

/-! ### data -/
mutual
theorem RT.dp : ∀ {v : V} {t : T} {d : PyData}, RT K A ρ H v t → toD t = some d → Dp K H v d
  | _, _, _, .non, e => by simp [toD] at e; subst e; exact .non
  | _, _, _, .bl b, e => by simp [toD] at e; subst e; exact .bl b
  | _, _, _, .int i, e => by simp [toD] at e; subst e; exact .int i
  | _, _, _, .str s _, e => by simp [toD] at e; subst e; exact .str s
  | _, _, _, .tup h r, e => by
    simp only [toD, Option.map_eq_some_iff] at e
    obtain ⟨ds, e1, e2⟩ := e
    subst e2
    exact .tup h (RTs.dp r e1)
  | _, _, _, .rol h r, e => by
    simp only [toD, Option.map_eq_some_iff] at e
    obtain ⟨ds, e1, e2⟩ := e
    subst e2
    exact .lst h.sql (RTs.dp r e1)
  | _, _, _, .ref _, e => by simp [toD] at e
  | _, _, _, .fn _, e => by simp [toD] at e
theorem RTs.dp : ∀ {vs : List V} {ts : List T} {ds : List PyData}, RTs K A ρ H vs ts → toDs ts = some ds → DpAll K H vs ds
  | _, _, _, .nil, e => by simp [toDs] at e; subst e; exact .nil
  | _, _, _, .cons (t := t) (ts := ts) r rs, e => by
    simp only [toDs] at e
    cases h1 : toD t with
    | none => simp [h1] at e
    | some d =>
      cases h2 : toDs ts with
      | none => simp [h1, h2] at e
      | some ds' =>
        simp [h1, h2] at e
        subst e
        exact .cons (RT.dp r h1) (RTs.dp rs h2)
end
mutual
theorem RT.lay : ∀ {v : V} {t : T} {d : PyData}, RT K A ρ H v t → toD t = some d → d.canLay0 = true
  | _, _, _, .non, e => by simp [toD] at e; subst e; rfl
  | _, _, _, .bl b, e => by simp [toD] at e; subst e; rfl
  | _, _, _, .int i, e => by simp [toD] at e; subst e; rfl
  | _, _, _, .str s h, e => by simp [toD] at e; subst e; simp only [PyData.canLay0]; exact h
  | _, _, _, .tup h r, e => by
    simp only [toD, Option.map_eq_some_iff] at e
    obtain ⟨ds, e1, e2⟩ := e
    subst e2
    simp only [PyData.canLay0]; exact RTs.lay r e1
  | _, _, _, .rol h r, e => by
    simp only [toD, Option.map_eq_some_iff] at e
    obtain ⟨ds, e1, e2⟩ := e
    subst e2
    simp only [PyData.canLay0]; exact RTs.lay r e1
  | _, _, _, .ref _, e => by simp [toD] at e
  | _, _, _, .fn _, e => by simp [toD] at e
theorem RTs.lay : ∀ {vs : List V} {ts : List T} {ds : List PyData}, RTs K A ρ H vs ts → toDs ts = some ds → PyData.canLayAll0 ds = true
  | _, _, _, .nil, e => by simp [toDs] at e; subst e; rfl
  | _, _, _, .cons (t := t) (ts := ts) r rs, e => by
    simp only [toDs] at e
    cases h1 : toD t with
    | none => simp [h1] at e
    | some d =>
      cases h2 : toDs ts with
      | none => simp [h1, h2] at e
      | some ds' =>
        simp [h1, h2] at e
        subst e
        simp only [PyData.canLayAll0, Bool.and_eq_true]
        exact ⟨RT.lay r h1, RTs.lay rs h2⟩
end
theorem RT.res (R : Rel K A ρ H st) {v : V} {t : T} {d : PyData} (r : RT K A ρ H v t) (e : resD st t = some d) : Dp K H v d ∧ d.canLay0 = true := by
  cases r with
  | ref h =>
    simp only [resD] at e
    split at e
    · rename_i xs hx
      obtain ⟨ds, e1, e2⟩ := Option.map_eq_some_iff.mp e
      subst e2
      obtain ⟨vs, hH, rs⟩ := R.lstAt h hx
      refine ⟨.lst (SqL.of hH) (rs.dp e1), ?_⟩
      simp only [PyData.canLay0]; exact rs.lay e1
    · cases e
  | non => exact ⟨RT.dp (ρ := ρ) (A := A) .non e, RT.lay (ρ := ρ) (H := H) (K := K) (A := A) .non e⟩
  | bl b => exact ⟨RT.dp (ρ := ρ) (A := A) (.bl b) e, RT.lay (ρ := ρ) (H := H) (K := K) (A := A) (.bl b) e⟩
  | int b => exact ⟨RT.dp (ρ := ρ) (A := A) (.int b) e, RT.lay (ρ := ρ) (H := H) (K := K) (A := A) (.int b) e⟩
  | str s h => exact ⟨RT.dp (ρ := ρ) (A := A) (.str s h) e, RT.lay (ρ := ρ) (H := H) (K := K) (A := A) (.str s h) e⟩
  | tup h r => exact ⟨RT.dp (.tup h r) e, RT.lay (.tup h r) e⟩
  | rol h r => exact ⟨RT.dp (.rol h r) e, RT.lay (.rol h r) e⟩
  | fn h => simp [resD, toD] at e
end

section
variable {X : Cx} {A : Ad}
theorem op_binT (op : Operator) : OpR X (binaryOp op) (r2 X.K A (binT op)) := by
  intro pins s σ H x y v u Q I rx ry h
  obtain ⟨ρ, st, t, t', W, R, h1, h2, h⟩ := h
  unfold binT at h
  split at h
  · cases h1; cases h2; exact op_add pins s σ H _ _ v u Q I rx ry ⟨_, _, rfl, rfl, h.same R (.int _)⟩
  · cases h1; cases h2; exact op_sub pins s σ H _ _ v u Q I rx ry ⟨_, _, rfl, rfl, h.same R (.int _)⟩
  · cases h1; cases h2
    split at h
    · rename_i c
      exact op_mul pins s σ H _ _ v u Q I rx ry ⟨_, _, rfl, rfl, (by
        rw [mulOk, Bool.or_eq_true, inS_iff, inS_iff] at c; unfold P64 at c; simp only [CMul]; omega), h.same R (.int _)⟩
    · exact h.elim
  · cases h1; cases h2
    split at h
    · rename_i c
      exact op_fdiv pins s σ H _ _ v u Q I rx ry ⟨_, _, rfl, rfl, ⟨c.1, by have := (inS_iff.mp c.2).2; unfold P30 at this; omega⟩, h.same R (.int _)⟩
    · exact h.elim
  · cases h1; cases h2
    split at h
    · rename_i c
      exact op_mod pins s σ H _ _ v u Q I rx ry ⟨_, _, rfl, rfl, c, h.same R (.int _)⟩
    · exact h.elim
  · cases h1 with | str _ k1 => cases h2 with | str _ k2 =>
    split at h
    · rename_i c
      exact op_add_str pins s σ H _ _ v u Q I rx ry ⟨_, _, rfl, rfl, c, h.same R (.str _ (strOk_append k1 k2))⟩
    · exact h.elim
  · cases h1 with | tup k1 q1 => cases h2 with | tup k2 q2 =>
    split at h
    · rename_i c
      refine op_catA pins s σ H _ _ v u Q I rx ry ⟨_, _, _, _, rfl, rfl, k1, k2, by rw [q1.length, q2.length]; exact c, fun e => ?_, fun e1 e2 => ?_, fun e1 e2 => ?_⟩
      · rw [q1.nil_iff.mp e, List.nil_append] at h
        exact h.same R (.tup k2 q2)
      · rw [q2.nil_iff.mp e2, List.append_nil] at h
        exact h.same R (.tup k1 q1)
      · exact h.newTup R (q1.append q2)
    · exact h.elim
  · cases h1 with | ref k1 => cases h2 with | ref k2 =>
    split at h
    · rename_i xs ys e1 e2
      obtain ⟨vs, g1, q1⟩ := R.lstAt k1 e1
      obtain ⟨ws, g2, q2⟩ := R.lstAt k2 e2
      split at h
      · rename_i c
        exact op_cat pins s σ H _ _ v u Q I rx ry ⟨_, _, _, _, rfl, rfl, g1, g2, by rw [q1.length, q2.length]; exact c, h.newLst R (q1.append q2)⟩
      · exact h.elim
    · exact h.elim
  · cases h2
    cases h1 with | ref k1 =>
    split at h
    · rename_i xs e1
      obtain ⟨vs, g1, q1⟩ := R.lstAt k1 e1
      split at h
      · rename_i c
        have c3 := inS_iff.mp c.1
        unfold P62 at c3
        exact op_rep pins s σ H _ _ v u Q I rx ry ⟨_, _, _, rfl, rfl, g1, by omega, by omega, by rw [q1.length]; exact c.2, h.newLst R (q1.flatten_rep _)⟩
      · exact h.elim
    · exact h.elim
  · exact h.elim

/-! ### comparisons -/
def cmpR (op : CmpOp) (t u : T) (st : Store) : R T := R.ofOpt st ((cmpT op t u st).map .bl)
theorem okOpt {ρ : List Addr} {H : Hp} {st : Store} {o : Option Bool} {Q : VK} {W : Value → Option Addr → Hp → Prop} (R : Rel X.K A ρ H st) (h : OkG X.K A (RT X.K A) ρ H (PF.R.ofOpt st (o.map .bl)) Q W) : ∃ b, o = some b ∧ Q (.bl b) H := by
  cases o with
  | none => exact h.elim
  | some b => exact ⟨b, rfl, OkG.same R (.bl b) h⟩
theorem eqT_ok {ρ : List Addr} {H : Hp} {st : Store} {x y : V} {t u : T} {b : Bool} (R : Rel X.K A ρ H st) (h1 : RT X.K A ρ H x t) (h2 : RT X.K A ρ H y u) (e : eqT st t u = some b) :
    ∃ d e, Dp X.K H x d ∧ Dp X.K H y e ∧ d.canLay0 = true ∧ e.canLay0 = true ∧ min d.depth e.depth ≤ 190 ∧ b = d.eqv e := by
  unfold eqT at e
  split at e
  · rename_i d d' e1 e2
    split at e
    · rename_i c
      cases e
      obtain ⟨p1, p2⟩ := h1.res R e1
      obtain ⟨p3, p4⟩ := h2.res R e2
      exact ⟨d, d', p1, p3, p2, p4, c, rfl⟩
    · cases e
  · cases e
theorem op_eqR (hu : X.A.units + 190 < cLine) {x y : V} {v u : Value} {pins : List (Addr × Obj)} {s : Shared} {σ : L2.St} {H : Hp} {Q : VK} (I : Inv X pins σ H s) (rx : RelV x v) (ry : RelV y u) {d e : PyData}
    (h1 : Dp X.K H x d) (h2 : Dp X.K H y e) (l1 : d.canLay0 = true) (l2 : e.canLay0 = true) (hd : min d.depth e.depth ≤ 190) (q : Q (.bl (d.eqv e)) H) : wpAny (model X.prog X.w) X.A (compareOp .Eq v u) (EP X pins σ Q) X.xe s := by
  obtain ⟨as, r1⟩ := Dp.reads I d x v h1 rx
  obtain ⟨bs, r2⟩ := Dp.reads I e y u h2 ry
  exact SeqAt.compareEq_reads r1 r2 l1 l2 (by omega) ⟨.bl _, H, I, rfl, q⟩
theorem op_neR (hu : X.A.units + 190 < cLine) {x y : V} {v u : Value} {pins : List (Addr × Obj)} {s : Shared} {σ : L2.St} {H : Hp} {Q : VK} (I : Inv X pins σ H s) (rx : RelV x v) (ry : RelV y u) {d e : PyData}
    (h1 : Dp X.K H x d) (h2 : Dp X.K H y e) (l1 : d.canLay0 = true) (l2 : e.canLay0 = true) (hd : min d.depth e.depth ≤ 190) (q : Q (.bl (!d.eqv e)) H) : wpAny (model X.prog X.w) X.A (compareOp .NotEq v u) (EP X pins σ Q) X.xe s := by
  obtain ⟨as, r1⟩ := Dp.reads I d x v h1 rx
  obtain ⟨bs, r2⟩ := Dp.reads I e y u h2 ry
  exact SeqAt.compareNe_reads r1 r2 l1 l2 (by omega) ⟨.bl _, H, I, rfl, q⟩

/-! ### tables -/
theorem key_of_T {K : PySem.W.Frag} {ρ : List Addr} {H : Hp} {x : V} {t : T} (h : RT K A ρ H x t) (k : isKey t = true) : ∃ j : Key, x = kV j := by
  cases h <;> simp [isKey] at k
  · exact ⟨.inl _, rfl⟩
  · exact ⟨.inr _, rfl⟩
theorem keyEq_iff {K : PySem.W.Frag} {ρ : List Addr} {H : Hp} {j k : Key} {t u : T} (h1 : RT K A ρ H (kV j) t) (h2 : RT K A ρ H (kV k) u) : keyEq t u = decide (k = j) := by
  cases j with
  | inl i =>
    cases h1
    cases k with
    | inl i2 => cases h2; simp only [keyEq]; by_cases e : i = i2
                · subst e; simp
                · have : ¬ (Sum.inl i2 : Key) = Sum.inl i := fun q => e (Sum.inl.inj q).symm
                  rw [decide_eq_false e, decide_eq_false this]
    | inr x => cases h2; rfl
  | inr x =>
    cases h1
    cases k with
    | inl i2 => cases h2; rfl
    | inr y => cases h2; simp only [keyEq]; by_cases e : x = y
               · subst e; simp
               · have : ¬ (Sum.inr y : Key) = Sum.inr x := fun q => e (Sum.inr.inj q).symm
                 rw [decide_eq_false e, decide_eq_false this]
theorem dLook_val {K : PySem.W.Frag} {ρ : List Addr} {H : Hp} {j : Key} {t : T} (h : RT K A ρ H (kV j) t) : ∀ {ks : List (Key × V)} {kvs : List (T × T)}, RKs K A ρ H ks kvs →
    (valV ks j = none ∧ dLook t kvs = none) ∨ ∃ v u, valV ks j = some v ∧ dLook t kvs = some u ∧ RT K A ρ H v u
  | _, _, .nil => .inl ⟨rfl, rfl⟩
  | _, _, .cons (k := k) (v := v) (t := a) (u := u) h1 h2 r => by
    have e := keyEq_iff h h1
    by_cases c : k = j
    · refine .inr ⟨v, u, valV_pos c, ?_, h2⟩
      simp only [dLook]
      rw [e, decide_eq_true c]; rfl
    · rcases dLook_val h r with ⟨q1, q2⟩ | ⟨w, z, q1, q2, q3⟩
      · refine .inl ⟨by rw [valV_neg c]; exact q1, ?_⟩
        simp only [dLook]
        rw [e, decide_eq_false c]; exact q2
      · refine .inr ⟨w, z, by rw [valV_neg c]; exact q1, ?_, q3⟩
        simp only [dLook]
        rw [e, decide_eq_false c]; exact q2
theorem RKs.length {K : PySem.W.Frag} {ρ : List Addr} {H : Hp} : ∀ {ks : List (Key × V)} {kvs : List (T × T)}, RKs K A ρ H ks kvs → ks.length = kvs.length
  | _, _, .nil => rfl
  | _, _, .cons _ _ r => by simp [RKs.length r]
theorem RKs.append {K : PySem.W.Frag} {ρ : List Addr} {H : Hp} : ∀ {ks js : List (Key × V)} {kvs jvs : List (T × T)}, RKs K A ρ H ks kvs → RKs K A ρ H js jvs → RKs K A ρ H (ks ++ js) (kvs ++ jvs)
  | _, _, _, _, .nil, h => h
  | _, _, _, _, .cons a b r, h => .cons a b (RKs.append r h)
theorem any_keys {K : PySem.W.Frag} {ρ : List Addr} {H : Hp} {j : Key} {t : T} (h : RT K A ρ H (kV j) t) : ∀ {ks : List (Key × V)} {kvs : List (T × T)}, RKs K A ρ H ks kvs →
    (ks.any fun kv => decide (kv.1 = j)) = kvs.any fun p => keyEq t p.1
  | _, _, .nil => rfl
  | _, _, .cons h1 h2 r => by
    rw [List.any_cons, List.any_cons, any_keys h r, keyEq_iff h h1]
theorem map_keys {K : PySem.W.Frag} {ρ : List Addr} {H : Hp} {j : Key} {t u : T} {v : V} (h : RT K A ρ H (kV j) t) (hv : RT K A ρ H v u) : ∀ {ks : List (Key × V)} {kvs : List (T × T)}, RKs K A ρ H ks kvs →
    RKs K A ρ H (ks.map fun kv => if kv.1 = j then (kv.1, v) else kv) (kvs.map fun p => if keyEq t p.1 then (p.1, u) else p)
  | _, _, .nil => .nil
  | _, _, .cons (k := k) h1 h2 r => by
    rw [List.map_cons, List.map_cons, keyEq_iff h h1]
    by_cases c : k = j
    · rw [if_pos c, decide_eq_true c, if_pos rfl]
      exact .cons h1 hv (map_keys h hv r)
    · rw [if_neg c, decide_eq_false c, if_neg Bool.false_ne_true]
      exact .cons h1 h2 (map_keys h hv r)
theorem dPut_rel {K : PySem.W.Frag} {ρ : List Addr} {H : Hp} {j : Key} {t u : T} {v : V} (h : RT K A ρ H (kV j) t) (hv : RT K A ρ H v u) {ks : List (Key × V)} {kvs : List (T × T)} (r : RKs K A ρ H ks kvs) : RKs K A ρ H (putK ks j v) (dPut t u kvs) := by
  unfold putK dPut
  rw [any_keys h r]
  split
  · exact map_keys h hv r
  · exact r.append (.cons h hv .nil)

/-! ### in -/
theorem flatV_of {K : PySem.W.Frag} {ρ : List Addr} {H : Hp} {x : V} {t : T} (h : RT K A ρ H x t) (f : isFlat t = true) : flatV x = true := by
  cases h <;> simp [isFlat] at f <;> rfl
theorem eqV_eqF {K : PySem.W.Frag} {ρ : List Addr} {H : Hp} {x y : V} {t u : T} (h : RT K A ρ H x t) (f : isFlat t = true) (h' : RT K A ρ H y u) (f' : isFlat u = true) : eqV x y = eqF t u := by
  cases h <;> simp [isFlat] at f <;> cases h' <;> simp [isFlat] at f' <;> simp [eqV, eqF, toD, PyData.eqv]
theorem flatAll {K : PySem.W.Frag} {ρ : List Addr} {H : Hp} : ∀ {xs : List V} {ts : List T}, RTs K A ρ H xs ts → ts.all isFlat = true → xs.all flatV = true
  | _, _, .nil, _ => rfl
  | _, _, .cons r rs, f => by
    rw [List.all_cons, Bool.and_eq_true] at f ⊢
    exact ⟨flatV_of r f.1, flatAll rs f.2⟩
theorem inV_any {K : PySem.W.Frag} {ρ : List Addr} {H : Hp} {x : V} {t : T} (h : RT K A ρ H x t) (f : isFlat t = true) : ∀ {xs : List V} {ts : List T}, RTs K A ρ H xs ts → ts.all isFlat = true → inV x xs = ts.any fun y => eqF y t
  | _, _, .nil, _ => rfl
  | _, _, .cons r rs, g => by
    rw [List.all_cons, Bool.and_eq_true] at g
    have ih := inV_any h f rs g.2
    unfold inV at ih ⊢
    rw [List.any_cons, List.any_cons, ih, eqV_eqF r g.1 h f]

theorem op_cmpT (hu : X.A.units + 190 < cLine) (op : CmpOp) : OpR X (compareOp op) (r2 X.K A (cmpR op)) := by
  intro pins s σ H x y v u Q I rx ry h
  obtain ⟨ρ, st, t, t', W, R, h1, h2, h⟩ := h
  obtain ⟨b, e, q⟩ := okOpt R h
  cases op with
  | Eq =>
    obtain ⟨d, d', p1, p2, l1, l2, c, rfl⟩ := eqT_ok R h1 h2 e
    exact op_eqR hu I rx ry p1 p2 l1 l2 c q
  | NotEq =>
    obtain ⟨b', e', rfl⟩ := Option.map_eq_some_iff.mp e
    obtain ⟨d, d', p1, p2, l1, l2, c, rfl⟩ := eqT_ok R h1 h2 e'
    exact op_neR hu I rx ry p1 p2 l1 l2 c q
  | Lt =>
    simp only [cmpT] at e
    split at e
    · cases h1; cases h2; cases e; exact op_lt pins s σ H _ _ v u Q I rx ry ⟨_, _, rfl, rfl, q⟩
    · cases e
  | LtE =>
    simp only [cmpT] at e
    split at e
    · cases h1; cases h2; cases e; exact op_le pins s σ H _ _ v u Q I rx ry ⟨_, _, rfl, rfl, q⟩
    · cases e
  | Gt =>
    simp only [cmpT] at e
    split at e
    · cases h1; cases h2; cases e; exact op_gt pins s σ H _ _ v u Q I rx ry ⟨_, _, rfl, rfl, q⟩
    · cases e
  | GtE =>
    simp only [cmpT] at e
    split at e
    · cases h1; cases h2; cases e; exact op_ge pins s σ H _ _ v u Q I rx ry ⟨_, _, rfl, rfl, q⟩
    · cases e
  | Is =>
    simp only [cmpT] at e
    split at e
    · cases h1; cases h2; cases e
      refine op_isBl pins s σ H _ _ v u Q I rx ry ⟨_, _, rfl, rfl, ?_⟩
      rw [Bool.beq_eq_decide_eq] at q; exact q
    · cases h1; cases h2; cases e
      exact op_isN pins s σ H _ _ v u Q I rx ry ⟨rfl, q⟩
    · rename_i hne
      cases h2; cases e
      refine op_isN pins s σ H _ _ v u Q I rx ry ⟨rfl, ?_⟩
      have hx : ¬ x = V.non := fun z => by subst z; cases h1; exact hne rfl
      rw [decide_eq_false hx]; exact q
    · cases e
  | IsNot =>
    simp only [cmpT] at e
    split at e
    · cases h1; cases h2; cases e
      refine op_notBl pins s σ H _ _ v u Q I rx ry ⟨_, _, rfl, rfl, ?_⟩
      rw [bne, Bool.beq_eq_decide_eq] at q; exact q
    · cases h1; cases h2; cases e
      exact op_notN pins s σ H _ _ v u Q I rx ry ⟨rfl, q⟩
    · rename_i hne
      cases h2; cases e
      refine op_notN pins s σ H _ _ v u Q I rx ry ⟨rfl, ?_⟩
      have hx : ¬ x = V.non := fun z => by subst z; cases h1; exact hne rfl
      rw [decide_eq_false hx]; exact q
    · cases e
  | In =>
    simp only [cmpT] at e
    split at e
    · cases h2 with | ref k2 =>
      split at e
      · rename_i xs ex
        split at e
        · rename_i c
          rw [Bool.and_eq_true] at c
          cases e
          obtain ⟨vs, g, rs⟩ := R.lstAt k2 ex
          refine op_in_seq pins s σ H _ _ v u Q I rx ry ⟨_, vs, rfl, .inl (SqL.of g), flatV_of h1 c.1, flatAll rs c.2, ?_⟩
          rw [if_neg Bool.false_ne_true, inV_any h1 c.1 rs c.2]; exact q
        · cases e
      · rename_i kvs ex
        split at e
        · rename_i c
          cases e
          obtain ⟨ks, g, rs⟩ := R.dicAt k2 ex
          obtain ⟨j, rfl⟩ := key_of_T h1 c
          obtain rfl : u = Value.ref _ := ry
          refine d_in (by omega) I (.inl ⟨ks, j, .inl g, rfl, rfl⟩) rx fun s' I' => ⟨.bl _, H, I', rfl, ?_⟩
          rcases dLook_val h1 rs with ⟨q1, q2⟩ | ⟨w, z, q1, q2, _⟩
          · rw [q1]; rw [q2] at q; exact q
          · rw [q1]; rw [q2] at q; exact q
        · cases e
      · cases e
    · cases h2 with | tup k2 rs =>
      split at e
      · rename_i c
        rw [Bool.and_eq_true] at c
        cases e
        refine op_in_seq pins s σ H _ _ v u Q I rx ry ⟨_, _, rfl, .inr k2, flatV_of h1 c.1, flatAll rs c.2, ?_⟩
        rw [if_neg Bool.false_ne_true, inV_any h1 c.1 rs c.2]; exact q
      · cases e
    · cases e
  | NotIn =>
    simp only [cmpT] at e
    split at e
    · cases h2 with | ref k2 =>
      split at e
      · rename_i xs ex
        split at e
        · rename_i c
          rw [Bool.and_eq_true] at c
          cases e
          obtain ⟨vs, g, rs⟩ := R.lstAt k2 ex
          refine op_notIn_seq pins s σ H _ _ v u Q I rx ry ⟨_, vs, rfl, .inl (SqL.of g), flatV_of h1 c.1, flatAll rs c.2, ?_⟩
          rw [if_pos rfl, inV_any h1 c.1 rs c.2]; exact q
        · cases e
      · rename_i kvs ex
        split at e
        · rename_i c
          cases e
          obtain ⟨ks, g, rs⟩ := R.dicAt k2 ex
          obtain ⟨j, rfl⟩ := key_of_T h1 c
          obtain rfl : u = Value.ref _ := ry
          refine d_notIn (by omega) I (.inl ⟨ks, j, .inl g, rfl, rfl⟩) rx fun s' I' => ⟨.bl _, H, I', rfl, ?_⟩
          rcases dLook_val h1 rs with ⟨q1, q2⟩ | ⟨w, z, q1, q2, _⟩
          · rw [q1]; rw [q2] at q; exact q
          · rw [q1]; rw [q2] at q; exact q
        · cases e
      · cases e
    · cases h2 with | tup k2 rs =>
      split at e
      · rename_i c
        rw [Bool.and_eq_true] at c
        cases e
        refine op_notIn_seq pins s σ H _ _ v u Q I rx ry ⟨_, _, rfl, .inr k2, flatV_of h1 c.1, flatAll rs c.2, ?_⟩
        rw [if_pos rfl, inV_any h1 c.1 rs c.2]; exact q
      · cases e
    · cases e
end
end PF

end

section
set_option Elab.async false
set_option linter.all false
set_option maxRecDepth 100000
set_option maxHeartbeats 2000000
set_option autoImplicit false
/-! PfB3: subscripts, slices, truth, built-in functions and methods. -/
namespace PF
open PySem L2 PySem.Spec PyProof.Rows
section
variable {X : Cx} {A : Ad}
/-! ### truth -/
theorem tru_val {ρ : List Addr} {H : Hp} {st : Store} {x : V} {t : T} {b : Bool} (R : Rel X.K A ρ H st) (h1 : RT X.K A ρ H x t) (e : tru st t = some b) : TruV X.K x H b := by
  cases h1 with
  | non => simp [tru] at e; exact e
  | bl c => simp [tru] at e; exact e.symm
  | int i => simp [tru] at e; exact e.symm
  | str s k =>
    simp only [tru] at e
    split at e
    · rename_i c
      exact ⟨c, (Option.some.inj e).symm⟩
    · cases e
  | tup k q =>
    refine .inr (.inl ⟨_, k, ?_⟩)
    cases e
    cases q <;> rfl
  | rol k q =>
    refine .inl ⟨_, k.sql, ?_⟩
    cases e
    cases q <;> rfl
  | ref k =>
    simp only [tru] at e
    split at e
    · rename_i xs ex
      obtain ⟨vs, g, q⟩ := R.lstAt k ex
      refine .inl ⟨_, SqL.of g, ?_⟩
      cases e
      cases q <;> rfl
    · rename_i kvs ex
      obtain ⟨vs, g, q⟩ := R.dicAt k ex
      refine .inr (.inr ⟨_, g, ?_⟩)
      cases e
      cases q <;> rfl
    · cases e
  | fn k => simp [tru] at e
/-- what is asked of a test's value -/
def rTru (K : PySem.W.Frag) (A : Ad) : V → Hp → (Bool → Hp → Prop) → Prop := fun x H Q => ∃ ρ st t b, Rel K A ρ H st ∧ RT K A ρ H x t ∧ tru st t = some b ∧ Q b H

/-! ### subscripts -/
def ixR (t u : T) (st : Store) : R T := R.ofOpt st (ixT t u st)
theorem ixN_eq (n : Nat) (i : Int) : ixN n i = L2.ixN n i := rfl
theorem ix_all (hu : X.A.units + 1 < cLine) : IxR X (r2 X.K A ixR) := by
  intro value slice pins s σ H x y v u Q I rx ry h hs
  obtain ⟨ρ, st, t, t', W, R, h1, h2, h⟩ := h
  unfold ixR ixT at h
  have go : ∀ {o : Option T}, OkG X.K A (RT X.K A) ρ H (PF.R.ofOpt st o) Q W → ∃ w, o = some w ∧ ∀ z, RT X.K A ρ H z w → Q z H := fun {o} h => by
    cases o with
    | none => exact h.elim
    | some w => exact ⟨w, rfl, fun z hz => OkG.same R hz h⟩
  obtain ⟨w, e, q⟩ := go h
  have lst : ∀ {xs : List T} {vs : List V} {k : Int}, RTs X.K A ρ H vs xs → ((ixN xs.length k).bind fun j => xs[j]?) = some w → ∃ z, L2.atI vs k = some z ∧ RT X.K A ρ H z w := fun {xs vs k} rs e => by
    obtain ⟨j, e1, e2⟩ := Option.bind_eq_some_iff.mp e
    obtain ⟨z, e3, rz⟩ := rs.get e2
    refine ⟨z, ?_, rz⟩
    unfold L2.atI
    rw [rs.length, ← ixN_eq, e1]
    exact e3
  split at e
  · cases h2; cases h1 with | tup k rs =>
    obtain ⟨z, e1, rz⟩ := lst rs e
    exact ix_tup value slice pins s σ H _ _ v u Q I rx ry ⟨_, _, _, z, rfl, rfl, k, e1, q z rz⟩ hs
  · cases h2; cases h1 with | rol k rs =>
    obtain ⟨z, e1, rz⟩ := lst rs e
    exact ix_list value slice pins s σ H _ _ v u Q I rx ry ⟨_, _, _, z, rfl, rfl, k.sql, e1, q z rz⟩ hs
  · cases h1 with | ref k =>
    split at e
    · rename_i xs _ ex
      obtain ⟨vs, g, rs⟩ := R.lstAt k ex
      cases h2
      obtain ⟨z, e1, rz⟩ := lst rs e
      exact ix_list value slice pins s σ H _ _ v u Q I rx ry ⟨_, _, _, z, rfl, rfl, SqL.of g, e1, q z rz⟩ hs
    · rename_i kvs _ ex
      obtain ⟨ks, g, rs⟩ := R.dicAt k ex
      split at e
      · rename_i c
        obtain ⟨j, rfl⟩ := key_of_T h2 c
        rcases dLook_val h2 rs with ⟨q1, q2⟩ | ⟨z, w', q1, q2, q3⟩
        · rw [q2] at e; cases e
        · rw [q2] at e; cases e
          obtain rfl : v = Value.ref _ := rx
          have gt : DGet H _ (kV j) (some z) := .inl ⟨ks, j, .inl g, rfl, q1.symm⟩
          exact tail_any (dict_typeIs I gt) PySem.F.slot_dict_getitem.lookup (d_getItem hu I gt ry fun w2 s2 I2 rw' => ⟨z, H, I2, rw', q z q3⟩) hs
      · cases e
    · cases e
  · cases e

/-! ### stores -/
def rSet (K : PySem.W.Frag) (A : Ad) : TSet := fun o i v H Q => ∃ ρ st t u w W, Rel K A ρ H st ∧ RT K A ρ H o t ∧ RT K A ρ H i u ∧ RT K A ρ H v w ∧ OkG K A (fun _ _ (_ : Unit) (_ : Unit) => True) ρ H (setIx t u w st) (fun _ H' => Q H') W
theorem set_all (hu : X.A.units + 1 < cLine) : PSet X (rSet X.K A) := by
  intro pins s σ H o i v ov iv u Q I ro ri rv h
  obtain ⟨ρ, st, t, t', w, W, R, h1, h2, h3, h⟩ := h
  unfold setIx at h
  split at h
  · cases h1 with | ref k =>
    split at h
    · rename_i xs kk ex
      obtain ⟨vs, g, rs⟩ := R.lstAt k ex
      cases h2
      split at h
      · rename_i j ej
        refine set_list pins s σ H _ _ v ov iv u Q I ro ri rv ⟨_, vs, _, j, rfl, rfl, g, by rw [rs.length, ← ixN_eq]; exact ej, ?_⟩
        exact h () (upd H _ (.lst (vs.set j v))) ρ (Step.write g True.intro) (R.write k g True.intro fun s => ⟨_, upd_same, (rs.step s).set j (h3.step s)⟩) True.intro
      · exact h.elim
    · rename_i kvs ii ex
      obtain ⟨ks, g, rs⟩ := R.dicAt k ex
      split at h
      · rename_i c
        obtain ⟨j, rfl⟩ := key_of_T h2 c.1
        refine set_dict hu pins s σ H _ _ v ov iv u Q I ro ri rv ⟨_, _, rfl, DPut.k g (by rw [rs.length]; exact c.2), ?_⟩
        exact h () (upd H _ (.dK (putK ks j v))) ρ (Step.write g True.intro) (R.write k g True.intro fun s => ⟨_, upd_same, dPut_rel (h2.step s) (h3.step s) (rs.step s)⟩) True.intro
      · exact h.elim
    · exact h.elim
  · exact h.elim

/-! ### slices -/
theorem sIx_eq (n d : Nat) (o : Option Int) : sIx n d o = HT.sIx n d o := by
  cases o with
  | none => rfl
  | some i =>
    show (if i < 0 then (if i + n < 0 then 0 else (i + n).toNat) else if i > n then n else i.toNat) = (if i < 0 then (i + (n : Int)).toNat else min i.toNat n)
    by_cases c : i < 0
    · rw [if_pos c, if_pos c]; split <;> omega
    · rw [if_neg c, if_neg c]; split <;> omega
theorem RTs.cut {K : PySem.W.Frag} {ρ : List Addr} {H : Hp} {vs : List V} {ts : List T} (r : RTs K A ρ H vs ts) (lo hi : Option Int) : RTs K A ρ H (L2.cutV vs lo hi) (cutT ts lo hi) := by
  unfold L2.cutV cutT
  rw [r.length, ← sIx_eq, ← sIx_eq]
  exact (r.drop _).take _
def rSl (K : PySem.W.Frag) (A : Ad) : V → Option Int → Option Int → Hp → VK → Prop := fun x lo hi H Q => ∃ ρ st t W, Rel K A ρ H st ∧ RT K A ρ H x t ∧ OkG K A (RT K A) ρ H (slcT t lo hi st) Q W
theorem cut_all {α : Type} (xs : List α) {lo hi : Option Int} {f : List α → List α} (h0 : HT.sIx xs.length 0 lo = 0) (h1 : HT.sIx xs.length xs.length hi = xs.length) : (xs.drop (HT.sIx xs.length 0 lo)).take (HT.sIx xs.length xs.length hi - HT.sIx xs.length 0 lo) = xs := by
  rw [h0, h1, List.drop_zero, Nat.sub_zero, List.take_length]
theorem sl_all : SlR X (rSl X.K A) := by
  refine fun pins s σ H x v vl vu lo hi sl Q I rx hs p1 p2 h => ?_
  obtain ⟨ρ, st, t, W, R, h1, h⟩ := h
  unfold slcT at h
  split at h
  · rename_i ts
    cases h1 with | tup k rs =>
    refine sl_tupA pins s σ H _ v vl vu lo hi sl Q I rx hs p1 p2 ⟨_, _, rfl, k, fun e => ?_, fun e => ?_⟩
    · have e2 : cutT ts lo hi = ts := by
        unfold cutT
        rw [sIx_eq, sIx_eq]
        rw [rs.length] at e
        exact cut_all (f := id) _ e.1 e.2
      rw [e2] at h
      exact h.same R (.tup k rs)
    · exact h.newTup R (rs.cut lo hi)
  · cases h1 with | ref k =>
    split at h
    · rename_i xs ex
      obtain ⟨vs, g, rs⟩ := R.lstAt k ex
      exact sl_list pins s σ H _ v vl vu lo hi sl Q I rx hs p1 p2 ⟨_, vs, rfl, SqL.of g, h.newLst R (rs.cut lo hi)⟩
    · exact h.elim
  · exact h.elim
end
end PF

end

section
set_option Elab.async false
set_option linter.all false
set_option maxRecDepth 100000
set_option maxHeartbeats 2000000
set_option autoImplicit false
/-! PfB4: built-in functions and methods, by values. -/
namespace PF
open PySem L2 PySem.Spec PyProof.Rows
section
variable {X : Cx} {A : Ad}
theorem ints_rel {K : PySem.W.Frag} {ρ : List Addr} {H : Hp} : ∀ {vs : List V} {ts : List T} {is : List Int}, RTs K A ρ H vs ts → intsOf ts = some is → vs = is.map V.int
  | _, _, _, .nil, e => by simp [intsOf] at e; subst e; rfl
  | _, _, _, .cons r rs, e => by
    cases r <;> simp [intsOf] at e
    obtain ⟨js, e1, rfl⟩ := e
    rw [ints_rel rs e1]; rfl
theorem bools_rel {K : PySem.W.Frag} {ρ : List Addr} {H : Hp} : ∀ {vs : List V} {ts : List T} {is : List Bool}, RTs K A ρ H vs ts → boolsOf ts = some is → vs = is.map V.bl
  | _, _, _, .nil, e => by simp [boolsOf] at e; subst e; rfl
  | _, _, _, .cons r rs, e => by
    cases r <;> simp [boolsOf] at e
    obtain ⟨js, e1, rfl⟩ := e
    rw [bools_rel rs e1]; rfl
theorem Rel.listAt {K : PySem.W.Frag} {ρ : List Addr} {H : Hp} {st : Store} (R : Rel K A ρ H st) {n : Nat} {a : Addr} {xs : List T} (e : ρ[n]? = some a) (h : listAt st n = some xs) : ∃ vs, H a = some (.lst vs) ∧ RTs K A ρ H vs xs := by
  unfold PF.listAt at h
  split at h
  · rename_i ys ey
    cases h
    exact R.lstAt e ey
  · cases h
theorem foldl_min : ∀ (r : List Int) (x : Int), (∀ y ∈ x :: r, r.foldl (fun m y => if y < m then y else m) x ≤ y) ∧ r.foldl (fun m y => if y < m then y else m) x ∈ x :: r
  | [], x => ⟨by simp, by simp⟩
  | z :: r, x => by
    have ih := foldl_min r (if z < x then z else x)
    rw [List.foldl_cons]
    generalize r.foldl (fun m y => if y < m then y else m) (if z < x then z else x) = m at ih
    refine ⟨fun y hy => ?_, ?_⟩
    · have h0 := ih.1 (if z < x then z else x) List.mem_cons_self
      rcases List.mem_cons.mp hy with rfl | hy
      · split at h0 <;> omega
      · rcases List.mem_cons.mp hy with rfl | hy
        · split at h0 <;> omega
        · exact ih.1 y (List.mem_cons_of_mem _ hy)
    · rcases List.mem_cons.mp ih.2 with e | h
      · rw [e]; split
        · exact List.mem_cons_of_mem _ List.mem_cons_self
        · exact List.mem_cons_self
      · exact List.mem_cons_of_mem _ (List.mem_cons_of_mem _ h)
theorem foldl_max : ∀ (r : List Int) (x : Int), (∀ y ∈ x :: r, y ≤ r.foldl (fun m y => if y > m then y else m) x) ∧ r.foldl (fun m y => if y > m then y else m) x ∈ x :: r
  | [], x => ⟨by simp, by simp⟩
  | z :: r, x => by
    have ih := foldl_max r (if z > x then z else x)
    rw [List.foldl_cons]
    generalize r.foldl (fun m y => if y > m then y else m) (if z > x then z else x) = m at ih
    refine ⟨fun y hy => ?_, ?_⟩
    · have h0 := ih.1 (if z > x then z else x) List.mem_cons_self
      rcases List.mem_cons.mp hy with rfl | hy
      · split at h0 <;> omega
      · rcases List.mem_cons.mp hy with rfl | hy
        · split at h0 <;> omega
        · exact ih.1 y (List.mem_cons_of_mem _ hy)
    · rcases List.mem_cons.mp ih.2 with e | h
      · rw [e]; split
        · exact List.mem_cons_of_mem _ List.mem_cons_self
        · exact List.mem_cons_self
      · exact List.mem_cons_of_mem _ (List.mem_cons_of_mem _ h)
theorem minL_is {ns : List Int} {m : Int} (h : ns ≠ []) (h1 : m ∈ ns) (h2 : ∀ y, y ∈ ns → m ≤ y) : minL ns = m := by
  cases ns with
  | nil => exact absurd rfl h
  | cons x r =>
    have q := foldl_min r x
    have a := q.1 m h1
    have b := h2 _ q.2
    show r.foldl (fun m y => if y < m then y else m) x = m
    omega
theorem maxL_is {ns : List Int} {m : Int} (h : ns ≠ []) (h1 : m ∈ ns) (h2 : ∀ y, y ∈ ns → y ≤ m) : maxL ns = m := by
  cases ns with
  | nil => exact absurd rfl h
  | cons x r =>
    have q := foldl_max r x
    have a := q.1 m h1
    have b := h2 _ q.2
    show r.foldl (fun m y => if y > m then y else m) x = m
    omega
theorem reprB_is (b : Bool) : reprB b = (if b then "True" else "False" : Str) := by cases b <;> rfl
theorem call_reprB : CallR X (.builtin "repr") (fun xs H Q => ∃ b, xs = [.bl b] ∧ Q (.str (reprB b)) H) := by
  intro pins s σ H xs us Q I r h
  obtain ⟨b, rfl, q⟩ := h
  obtain ⟨u, rfl, rx⟩ := vals1 r
  cases rx
  exact PySem.P.repr_of_bool ⟨.str (reprB b), H, I.tok _, ⟨_, by rw [reprB_is]⟩, q⟩
theorem reprB_ok (b : Bool) : PyData.strOk (reprB b) = true := by cases b <;> decide +kernel
theorem one_rel {K : PySem.W.Frag} {ρ : List Addr} {H : Hp} {xs : List V} {t : T} (r : RTs K A ρ H xs [t]) : ∃ x, xs = [x] ∧ RT K A ρ H x t := by
  cases r with
  | cons a b => cases b; exact ⟨_, rfl, a⟩
theorem two_rel {K : PySem.W.Frag} {ρ : List Addr} {H : Hp} {xs : List V} {t u : T} (r : RTs K A ρ H xs [t, u]) : ∃ x y, xs = [x, y] ∧ RT K A ρ H x t ∧ RT K A ρ H y u := by
  cases r with
  | cons a b =>
    cases b with
    | cons c d => cases d; exact ⟨_, _, rfl, a, c⟩

/-- the built-in's value -/
def fB : B → Option Value
  | .len => some (.builtin "len")
  | .abs => some (.builtin "abs")
  | .int => some (.type "int")
  | .tuple => some (.type "tuple")
  | .list => some (.type "list")
  | .sum => some (.builtin "sum")
  | .all => some (.builtin "all")
  | .any => some (.builtin "any")
  | .min1 => some (.builtin "min")
  | .max1 => some (.builtin "max")
  | .min2 => some (.builtin "min")
  | .max2 => some (.builtin "max")
  | .repr => some (.builtin "repr")
  | _ => none
theorem call_bfn (hc : X.calm = true) {b : B} {f : Value} (hf : fB b = some f) : CallR X f (rL X.K A (bfn b)) := by
  intro pins s σ H xs us Q I r h
  obtain ⟨ρ, st, ts, W, R, rs, h⟩ := h
  unfold bfn at h
  split at h
  · cases hf; obtain ⟨x, rfl, h1⟩ := one_rel rs; cases h1 with | tup k q =>
    refine call_len_seq pins s σ H _ us Q I r ⟨_, _, rfl, .inr k, ?_⟩
    rw [q.length]; exact h.same R (.int _)
  · cases hf; obtain ⟨x, rfl, h1⟩ := one_rel rs; cases h1 with | rol k q =>
    refine call_len_seq pins s σ H _ us Q I r ⟨_, _, rfl, .inl k.sql, ?_⟩
    rw [q.length]; exact h.same R (.int _)
  · cases hf; obtain ⟨x, rfl, h1⟩ := one_rel rs; cases h1 with | str _ k =>
    split at h
    · rename_i c
      exact call_len_str pins s σ H _ us Q I r ⟨_, rfl, c, h.same R (.int _)⟩
    · exact h.elim
  · cases hf; obtain ⟨x, rfl, h1⟩ := one_rel rs; cases h1 with | ref k =>
    split at h
    · rename_i ys ey
      obtain ⟨vs, g, q⟩ := R.lstAt k ey
      refine call_len_seq pins s σ H _ us Q I r ⟨_, vs, rfl, .inl (SqL.of g), ?_⟩
      rw [q.length]; exact h.same R (.int _)
    · rename_i ys ey
      obtain ⟨vs, g, q⟩ := R.dicAt k ey
      refine call_lenD pins s σ H _ us Q I r ⟨_, vs, rfl, g, ?_⟩
      rw [q.length]; exact h.same R (.int _)
    · exact h.elim
  · cases hf; obtain ⟨x, rfl, h1⟩ := one_rel rs; cases h1
    exact call_abs pins s σ H _ us Q I r ⟨_, rfl, h.same R (.int _)⟩
  · cases hf; obtain ⟨x, rfl, h1⟩ := one_rel rs; cases h1
    exact call_int1 pins s σ H _ us Q I r (.inl ⟨_, rfl, h.same R (.int _)⟩)
  · cases hf; obtain ⟨x, rfl, h1⟩ := one_rel rs; cases h1 with | tup k q =>
    exact call_tuple_of pins s σ H _ us Q I r ⟨_, _, rfl, .inr ⟨k, h.same R (.tup k q)⟩⟩
  · cases hf; obtain ⟨x, rfl, h1⟩ := one_rel rs; cases h1 with | ref k =>
    split at h
    · rename_i ys ey
      obtain ⟨vs, g, q⟩ := R.lstAt k ey
      exact call_tuple_of pins s σ H _ us Q I r ⟨_, _, rfl, .inl ⟨SqL.of g, h.newTup R q⟩⟩
    · exact h.elim
  · cases hf; obtain ⟨x, rfl, h1⟩ := one_rel rs; cases h1 with | tup k q =>
    exact call_list_of pins s σ H _ us Q I r ⟨_, _, rfl, .inr k, h.newLst R q⟩
  · cases hf; obtain ⟨x, rfl, h1⟩ := one_rel rs; cases h1 with | ref k =>
    split at h
    · rename_i ys ey
      obtain ⟨vs, g, q⟩ := R.lstAt k ey
      exact call_list_of pins s σ H _ us Q I r ⟨_, _, rfl, .inl (SqL.of g), h.newLst R q⟩
    · exact h.elim
  · cases hf; obtain ⟨x, rfl, h1⟩ := one_rel rs; cases h1 with | ref k =>
    split at h
    · rename_i is ei
      obtain ⟨ys, e1, e2⟩ := Option.bind_eq_some_iff.mp ei
      obtain ⟨vs, g, q⟩ := R.listAt k e1
      obtain rfl := ints_rel q e2
      exact cr_sum hc pins s σ H _ us Q I r ⟨_, is, rfl, SqL.of g, h.same R (.int _)⟩
    · exact h.elim
  · cases hf; obtain ⟨x, rfl, h1⟩ := one_rel rs; cases h1 with | ref k =>
    split at h
    · rename_i is ei
      obtain ⟨ys, e1, e2⟩ := Option.bind_eq_some_iff.mp ei
      obtain ⟨vs, g, q⟩ := R.listAt k e1
      obtain rfl := bools_rel q e2
      exact cr_all hc pins s σ H _ us Q I r ⟨_, is, rfl, SqL.of g, h.same R (.bl _)⟩
    · exact h.elim
  · cases hf; obtain ⟨x, rfl, h1⟩ := one_rel rs; cases h1 with | ref k =>
    split at h
    · rename_i is ei
      obtain ⟨ys, e1, e2⟩ := Option.bind_eq_some_iff.mp ei
      obtain ⟨vs, g, q⟩ := R.listAt k e1
      obtain rfl := bools_rel q e2
      exact cr_any hc pins s σ H _ us Q I r ⟨_, is, rfl, SqL.of g, h.same R (.bl _)⟩
    · exact h.elim
  · cases hf; obtain ⟨x, rfl, h1⟩ := one_rel rs; cases h1 with | ref k =>
    split at h
    · rename_i is ei
      obtain ⟨ys, e1, e2⟩ := Option.bind_eq_some_iff.mp ei
      obtain ⟨vs, g, q⟩ := R.listAt k e1
      obtain rfl := ints_rel q e2
      split at h
      · exact h.elim
      · rename_i c
        have hne : is ≠ [] := fun z => c (by rw [z]; rfl)
        refine cr_min hc pins s σ H _ us Q I r ⟨_, is, rfl, SqL.of g, List.length_pos_iff.mpr hne, fun m h1 h2 => ?_⟩
        rw [← minL_is hne h1 h2]
        exact h.same R (.int _)
    · exact h.elim
  · cases hf; obtain ⟨x, rfl, h1⟩ := one_rel rs; cases h1 with | ref k =>
    split at h
    · rename_i is ei
      obtain ⟨ys, e1, e2⟩ := Option.bind_eq_some_iff.mp ei
      obtain ⟨vs, g, q⟩ := R.listAt k e1
      obtain rfl := ints_rel q e2
      split at h
      · exact h.elim
      · rename_i c
        have hne : is ≠ [] := fun z => c (by rw [z]; rfl)
        refine cr_max hc pins s σ H _ us Q I r ⟨_, is, rfl, SqL.of g, List.length_pos_iff.mpr hne, fun m h1 h2 => ?_⟩
        rw [← maxL_is hne h1 h2]
        exact h.same R (.int _)
    · exact h.elim
  · cases hf; obtain ⟨x, y, rfl, h1, h2⟩ := two_rel rs; cases h1; cases h2
    exact call_min2 hc pins s σ H _ us Q I r ⟨_, _, rfl, h.same R (.int _)⟩
  · cases hf; obtain ⟨x, y, rfl, h1, h2⟩ := two_rel rs; cases h1; cases h2
    exact call_max2 hc pins s σ H _ us Q I r ⟨_, _, rfl, h.same R (.int _)⟩
  · cases hf; obtain ⟨x, rfl, h1⟩ := one_rel rs; cases h1
    exact call_reprB pins s σ H _ us Q I r ⟨_, rfl, h.same R (.str _ (reprB_ok _))⟩
  · cases hf
  · exact h.elim

/-! ### isinstance -/
def tyName : Ty → String
  | .int => "int"
  | .bool => "bool"
  | .str => "str"
  | .tuple => "tuple"
  | .list => "list"
  | .dict => "dict"
/-- the name of a value's type -/
def tName : T → Option String
  | .non => some "NoneType"
  | .bl _ => some "bool"
  | .int _ => some "int"
  | .str _ => some "str"
  | .tup _ => some "tuple"
  | _ => none
theorem kit_all (ty : Ty) : ∀ n ∈ ["NoneType", "bool", "int", "str", "tuple", "list", "dict"], kitB n (tyName ty) = some (n == tyName ty || (n == "bool" && tyName ty == "int")) := by
  cases ty <;> decide +kernel
theorem SqT.tyX {K : PySem.W.Frag} {H : Hp} {a : Addr} {xs : List V} (h : SqT K H a xs) : TyX K H (.ref a) (.type "tuple") := by
  rcases h with h | ⟨o, its, n, hk, hc, _⟩
  · rcases h with h | ⟨o, h⟩
    · exact .base (.tup h)
    · exact .fTuple h
  · exact .kTuple hk hc
theorem RT.tyX {K : PySem.W.Frag} {ρ : List Addr} {H : Hp} {x : V} {t : T} {n : String} (h : RT K A ρ H x t) (e : tName t = some n) : TyX K H x (.type n) := by
  cases h <;> simp [tName] at e <;> subst e
  · exact .base .non
  · exact .base (.bl _)
  · exact .base (.int _)
  · exact .base (.str _)
  · rename_i k _
    exact SqT.tyX k
def rIs (K : PySem.W.Frag) (A : Ad) (ty : Ty) : List V → Hp → VK → Prop := fun xs H Q => ∃ x, xs = [x, .ty (tyName ty)] ∧ rL K A (isiF ty) [x] H Q
theorem call_isT (ty : Ty) : CallR X (.builtin "isinstance") (rIs X.K A ty) := by
  intro pins s σ H xs us Q I r h
  obtain ⟨x, rfl, ρ, st, ts, W, R, rs, h⟩ := h
  have go : ∀ {n : String} {b : Bool}, n ∈ ["NoneType", "bool", "int", "str", "tuple", "list", "dict"] → TyX X.K H x (.type n) → b = (n == tyName ty || (n == "bool" && tyName ty == "int")) → Q (.bl b) H →
      wpAny (model X.prog X.w) X.A (call (.builtin "isinstance") us) (EP X pins σ Q) X.xe s := fun {n b} hn hT hb q =>
    call_isi pins s σ H _ us Q I r ⟨x, _, _, _, b, rfl, .ty _, hT, kit_ty (by rw [kit_all ty n hn, hb]), q⟩
  unfold isiF at h
  split at h
  · rename_i n'
    obtain ⟨x', e, h1⟩ := one_rel rs
    cases e
    cases h1 with | ref k =>
    have hl : ∀ {xs : List T}, st[n']? = some (.lst xs) → TyX X.K H (.ref _) (.type "list") := fun {xs} e => by
      obtain ⟨vs, g, q⟩ := R.lstAt k e
      exact .base (.lst g)
    have hd : ∀ {xs : List (T × T)}, st[n']? = some (.dic xs) → TyX X.K H (.ref _) (.type "dict") := fun {xs} e => by
      obtain ⟨vs, g, q⟩ := R.dicAt k e
      exact .base (.dK g)
    split at h
    · rename_i e
      exact go (by simp) (hl e) rfl (h.same R (.bl _))
    · rename_i e
      exact go (by simp) (hd e) rfl (h.same R (.bl _))
    · rename_i ty0 ty1 x0 ys e hne
      refine go (by simp) (hl (by assumption)) ?_ (h.same R (.bl _))
      cases ty0 <;> first | rfl | (exfalso; first | exact e rfl | exact hne rfl)
    · rename_i ty0 ty1 x0 ys e hne
      refine go (by simp) (hd (by assumption)) ?_ (h.same R (.bl _))
      cases ty0 <;> first | rfl | (exfalso; first | exact e rfl | exact hne rfl)
    · exact h.elim
  · obtain ⟨x', e, h1⟩ := one_rel rs
    cases e
    obtain ⟨b, eb, q⟩ := okOpt R h
    cases h1 with
    | non => cases eb; exact go (by simp) (RT.tyX (A := A) (ρ := ρ) .non rfl) (by cases ty <;> rfl) q
    | bl c => cases eb; exact go (by simp) (RT.tyX (A := A) (ρ := ρ) (.bl c) rfl) (by cases ty <;> rfl) q
    | int c => cases eb; exact go (by simp) (RT.tyX (A := A) (ρ := ρ) (.int c) rfl) (by cases ty <;> rfl) q
    | str c k => cases eb; exact go (by simp) (RT.tyX (A := A) (ρ := ρ) (.str c k) rfl) (by cases ty <;> rfl) q
    | tup k r' => cases eb; exact go (by simp) (RT.tyX (.tup k r') rfl) (by cases ty <;> rfl) q
    | rol k r => cases eb
    | ref k => cases eb
    | fn k => cases eb
  · exact h.elim
end
end PF

end

section
set_option Elab.async false
set_option linter.all false
set_option maxRecDepth 100000
set_option maxHeartbeats 2000000
set_option autoImplicit false
/-! PfC: from the text's trees to the code. -/
namespace PF
open PySem L2 PySem.Spec PyProof.Rows

/-- the names of the text: defs, classes, constants, methods -/
structure Gn where
  fns : List Str
  cls : List Str
  cst : List Str
  mts : List Str
  blt : List Str
structure Cmp where
  N : List Str
  sc : Scope
  fnB : Str → Bool
  top : Bool
  calm : Bool
  gn : Gn

def visB (sc : Scope) (x : Str) : Bool := match sc.names.lookup x with
  | some .local | some .cell | some .free => true
  | _ => false
def locB (C : Cmp) (x : Str) : Bool := match C.sc.names.lookup x with
  | some .local => true
  | some .cell => C.fnB x
  | _ => false
def glB (sc : Scope) (x : Str) : Bool := match sc.names.lookup x with
  | some .globalImplicit => true
  | _ => false
def idx (l : List Str) (x : Str) : Option Nat := l.findIdx? fun y => decide (y = x)
def bTab : List (Str × Nat × B) := [("len", 1, .len), ("abs", 1, .abs), ("int", 1, .int), ("tuple", 1, .tuple), ("list", 1, .list), ("sum", 1, .sum), ("all", 1, .all), ("any", 1, .any),
  ("min", 1, .min1), ("max", 1, .max1), ("min", 2, .min2), ("max", 2, .max2), ("repr", 1, .repr)]
def bName (x : Str) (n : Nat) : Option B := (bTab.find? fun r => decide (r.1 = x) && r.2.1 == n).map (·.2.2)
def tyTab : List (Str × Ty) := [("int", .int), ("bool", .bool), ("str", .str), ("tuple", .tuple), ("list", .list), ("dict", .dict)]
def tyOfName (x : Str) : Option Ty := (tyTab.find? fun r => decide (r.1 = x)).map (·.2)
def mName (x : Str) (n : Nat) : Option M :=
  if x = "append" ∧ n = 1 then some .append else if x = "extend" ∧ n = 1 then some .extend else if x = "get" ∧ (n = 1 ∨ n = 2) then some .get else none
def constT : Const → Option T
  | .none => some .non
  | .bool b => some (.bl b)
  | .int i => some (.int i)
  | .str s => if PyData.strOk s then some (.str s) else none
  | _ => none
def isMinus1 : Expr → Bool
  | .UnaryOp .USub (.Constant (.int 1) _ _) _ => true
  | _ => false
/-- the slots of a block's own names -/
def ownOf (N : List Str) (scope : Scope) : List (Str × Nat) := scope.names.filterMap fun (x, k) => match k with
  | .local | .cell => (idx N x).map fun i => (x, i)
  | _ => none
mutual
def Tg.slots : Tg → List Nat
  | .nm i => [i]
  | .tup ts => ts.slots
  | _ => []
def Tgs.slots : Tgs → List Nat
  | .nil => []
  | .cons t ts => t.slots ++ ts.slots
end
mutual
def Tg.simple : Tg → Bool
  | .nm _ => true
  | .tup ts => ts.simple
  | _ => false
def Tgs.simple : Tgs → Bool
  | .nil => true
  | .cons t ts => t.simple && ts.simple
end
def isTupE : Expr → Bool
  | .Tuple .. => true
  | _ => false
def isCompE : Expr → Bool
  | .ListComp .. | .DictComp .. | .SetComp .. => true
  | _ => false

mutual
def compE : Nat → Cmp → Expr → Option E
  | 0, _, _ => none
  | n + 1, C, e => match e with
    | .Name x _ => if x = "__debug__" ∨ x = "__classdict__" then none else
        if visB C.sc x then (idx C.N x).map .var else if glB C.sc x then (idx C.gn.cst x).map .glb else none
    | .Constant c _ _ => (constT c).map .cst
    | .Tuple es _ _ => (compEs n C es).map .tup
    | .List es _ => (compEs n C es).map .lst
    | .Dict ks vs _ => if ks.length ≤ 15 then (compKV n C ks vs).map .dct else none
    | .BinOp a op b _ => match compE n C a, compE n C b with
      | some a, some b => some (.bin op a b)
      | _, _ => none
    | .UnaryOp .USub a _ => (compE n C a).map .neg
    | .UnaryOp .Not a _ => (compE n C a).map .not
    | .Compare a [op] [b] _ => match compE n C a, compE n C b with
      | some a, some b => some (.cmp op a b)
      | _, _ => none
    | .Compare a [op, op'] [b, c] _ => match compE n C a, compE n C b, compE n C c with
      | some a, some b, some c => some (.chn op op' a b c)
      | _, _, _ => none
    | .BoolOp .And [a] _ => compE n C a
    | .BoolOp .Or [a] _ => compE n C a
    | .BoolOp .And (a :: b :: r) pos => match compE n C a, compE n C (.BoolOp .And (b :: r) pos) with
      | some a, some b => some (.and a b)
      | _, _ => none
    | .BoolOp .Or (a :: b :: r) pos => match compE n C a, compE n C (.BoolOp .Or (b :: r) pos) with
      | some a, some b => some (.or a b)
      | _, _ => none
    | .IfExp c a b _ => match compE n C c, compE n C a, compE n C b with
      | some c, some a, some b => some (.ite c a b)
      | _, _, _ => none
    | .Call (.Name f _) es [] _ => if glB C.sc f ∧ f ≠ "__debug__" ∧ f ≠ "super" ∧ f ≠ "__name__" ∧ C.calm then match idx C.gn.fns f with
        | some i => (compEs n C es).map (.call i)
        | none => if C.gn.blt.contains f = false then none else if f = "isinstance" then match es with
            | [e, .Name t _] => match compE n C e, tyOfName t with
              | some e, some ty => if glB C.sc t ∧ C.gn.blt.contains t = true then some (.bcall (.isi ty) (.cons e .nil)) else none
              | _, _ => none
            | _ => none
          else match bName f es.length with
            | some b => (compEs n C es).map (.bcall b)
            | none => none
      else none
    | .Call (.Attribute o m ap) es [] cp => if ap.endLine = cp.line ∧ C.calm ∧ es ≠ [] ∧ es.length < 20 then match mName m es.length, compE n C o, compEs n C es with
        | some m, some o, some es => some (.mcall m o es)
        | _, _, _ => none
      else none
    | .Subscript a (.Slice lo hi none _) _ => match compE n C a, compEo n C lo, compEo n C hi with
      | some a, some lo, some hi => some (.slc a lo hi)
      | _, _, _ => none
    | .Subscript a (.Slice none none (some (.UnaryOp .USub (.Constant (.int 1) _ _) _)) _) _ => (compE n C a).map .rev
    | .Subscript a i _ => match compE n C a, compE n C i with
      | some a, some i => some (.ix a i)
      | _, _ => none
    | .ListComp elt [⟨tg, it, ifs, 0⟩] scope _ => if blkC C.N C.sc scope (ownOf C.N scope) && C.calm then
        match compIt n C it tg, compTg n { C with sc := relS scope C.sc, fnB := fun x => scope.names.lookup x == some .cell, top := false } tg,
            compIfs n { C with sc := relS scope C.sc, fnB := fun x => scope.names.lookup x == some .cell, top := false } ifs,
            compE n { C with sc := relS scope C.sc, fnB := fun x => scope.names.lookup x == some .cell, top := false } elt with
        | some it, some tg, some c, some e => if tg.simple && tg.slots.all (fun i => ((ownOf C.N scope).map (·.2)).contains i) then some (.comp tg it c e ((ownOf C.N scope).map (·.2))) else none
        | _, _, _, _ => none
      else none
    | _ => none
def compEs : Nat → Cmp → List Expr → Option Es
  | 0, _, _ => none
  | n + 1, C, es => match es with
    | [] => some .nil
    | e :: r => match compE n C e, compEs n C r with
      | some e, some r => some (.cons e r)
      | _, _ => none
def compKV : Nat → Cmp → List (Option Expr) → List Expr → Option KVs
  | 0, _, _, _ => none
  | n + 1, C, ks, vs => match ks, vs with
    | [], [] => some .nil
    | some k :: ks, v :: vs => match compE n C k, compE n C v, compKV n C ks vs with
      | some k, some v, some r => some (.cons k v r)
      | _, _, _ => none
    | _, _ => none
def compEo : Nat → Cmp → Option Expr → Option Eo
  | 0, _, _ => none
  | n + 1, C, e => match e with
    | none => some .none
    | some e => (compE n C e).map .some
def compIfs : Nat → Cmp → List Expr → Option Eo
  | 0, _, _ => none
  | n + 1, C, es => match es with
    | [] => some .none
    | [e] => (compE n C e).map .some
    | _ => none
def compIt : Nat → Cmp → Expr → Expr → Option It
  | 0, _, _, _ => none
  | n + 1, C, e, tg => match e with
    | .Call (.Name f _) es [] _ => if glB C.sc f ∧ f ≠ "__debug__" ∧ f ≠ "__name__" ∧ (idx C.gn.fns f).isNone ∧ C.gn.blt.contains f = true ∧ C.calm then
        if f = "range" ∧ (es.length = 1 ∨ es.length = 2) then (compEs n C es).map .range
        else if f = "enumerate" ∧ isTupE tg then match es with
          | [a] => (compE n C a).map .enum
          | _ => none
        else if f = "zip" ∧ isTupE tg then match es with
          | [a, b] => match compE n C a, compE n C b with
            | some a, some b => some (.zip a b)
            | _, _ => none
          | _ => none
        else (compE n C e).map .val
      else (compE n C e).map .val
    | _ => (compE n C e).map .val
def compTg : Nat → Cmp → Expr → Option Tg
  | 0, _, _ => none
  | n + 1, C, e => match e with
    | .Name x _ => if locB C x then (idx C.N x).map .nm else none
    | .Tuple es _ _ => if C.calm then (compTgs n C es).map .tup else none
    | .Subscript _ (.Slice ..) _ => none
    | .Subscript o i _ => match compE n C o, compE n C i with
      | some o, some i => some (.sub o i)
      | _, _ => none
    | _ => none
def compTgs : Nat → Cmp → List Expr → Option Tgs
  | 0, _, _ => none
  | n + 1, C, es => match es with
    | [] => some .nil
    | e :: r => match compTg n C e, compTgs n C r with
      | some e, some r => some (.cons e r)
      | _, _ => none
end

/-- two names stored from the right: both are plain local names on one line -/
def parOk (sc : Scope) (x y : Str) (px py : Pos) (a b : Expr) : Bool :=
  (match sc.names.lookup x, sc.names.lookup y with | some .local, some .local => true | _, _ => false) && px.line == py.line && !(decide (x = y)) && !([a, b].all (foldedForSure 8)) && !([a, b].all (constantsAlone 8)) && decide (sc.kind = .function)
mutual
def compS : Nat → Cmp → Stmt → Option S
  | 0, _, _ => none
  | n + 1, C, s => match s with
    | .Assign [.Tuple [.Name x px, .Name y py] _ _] (.Tuple [a, b] _ _) _ =>
        if parOk C.sc x y px py a b && C.calm then match idx C.N x, idx C.N y, compE n C a, compE n C b with
          | some i, some j, some a, some b => if i = j then none else some (.par i j a b)
          | _, _, _, _ => none
        else none
    | .Assign [.Tuple _ _ _] (.Tuple _ _ _) _ => none
    | .Assign [tg] e _ => match compTg n C tg, compE n C e with
      | some tg, some e => some (.asg tg e)
      | _, _ => none
    | .AugAssign (.Name x _) op e _ => match op with
      | .Add | .Sub => if locB C x then match idx C.N x, compE n C e with
          | some i, some e => some (.aug i op e)
          | _, _ => none
        else none
      | _ => none
    | .Expr (.Constant (.str _) _ _) _ => some .pass
    | .Expr e _ => if isCompE e then none else (compE n C e).map .expr
    | .Return (some e) _ => (compE n C e).map .ret
    | .Return none _ => some .retN
    | .Pass _ => some .pass
    | .Break _ => some .brk
    | .Continue _ => some .cnt
    | .If c a b _ => match compE n C c, compSs n C a, compSs n C b with
      | some c, some a, some b => some (.ifS c a b)
      | _, _, _ => none
    | .While c b [] _ => if C.calm then match compE n C c, compSs n C b with
      | some c, some b => some (.whl c b)
      | _, _ => none
      else none
    | .For tg it b [] _ => if C.calm then match compTg n C tg, compIt n C it tg, compSs n C b with
      | some tg, some it, some b => some (.for tg it b)
      | _, _, _ => none
      else none
    | .Raise (some (.Call (.Name x _) [.Constant (.str _) _ _] [] _)) none _ => if glB C.sc x ∧ x ≠ "__debug__" ∧ C.calm then (idx C.gn.cls x).map fun c => .raise c .nil else none
    | .Try b [.ExceptHandler (some (.Name x _)) none (h0 :: hs) _] [] [] _ => if glB C.sc x ∧ x ≠ "__debug__" ∧ C.calm ∧ C.top then
        match compSs n C b, idx C.gn.cls x, compSs n { C with calm := false } (h0 :: hs) with
        | some b, some c, some h => some (.tryS b c none h)
        | _, _, _ => none
      else none
    | _ => none
def compSs : Nat → Cmp → List Stmt → Option Ss
  | 0, _, _ => none
  | n + 1, C, ss => match ss with
    | [] => some .nil
    | s :: r => match compS n C s, compSs n C r with
      | some s, some r => some (.cons s r)
      | _, _ => none
end
end PF

end

section
set_option Elab.async false
set_option linter.all false
set_option maxRecDepth 100000
set_option maxHeartbeats 2000000
set_option autoImplicit false
/-! PfD1: the readings of code, and what a context must know. -/
namespace PF
open PySem L2 PySem.Spec PyProof.Rows

/-- a value that no expression has -/
abbrev WF0 : WX := fun _ _ _ _ => False
section
variable (K : PySem.W.Frag) (A : Ad) (cl : Call) (G : Tab)
def spEv (ar : Nat → Nat) (i : Nat) : Sp := fun vs H Q E => ∃ ρ st ts, Rel K A ρ H st ∧ RTs K A ρ H vs ts ∧ ts.length = ar i ∧ OkG K A (RT K A) ρ H (cl i ts st) Q E
def tE (W : WX) (c : E) : TE := fun σ H Q => ∃ ρ st sl, Rel K A ρ H st ∧ RSl K A ρ H σ sl ∧ OkG K A (RT K A) ρ H (evE cl G c sl st) Q (fun k d H' => W k d σ H')
def tTt (W : WX) (c : E) : TT := fun σ H Q => ∃ ρ st sl, Rel K A ρ H st ∧ RSl K A ρ H σ sl ∧ OkG K A (fun _ _ (b a : Bool) => b = a) ρ H ((evE cl G c sl st).bind fun x st => truR st x) Q (fun k d H' => W k d σ H')
def tEs (W : WX) (c : Es) : TA := fun σ H Q => ∃ ρ st sl, Rel K A ρ H st ∧ RSl K A ρ H σ sl ∧ OkG K A (RTs K A) ρ H (evEs cl G c sl st) Q (fun k d H' => W k d σ H')
def tEo (W : WX) (c : Eo) : TO := fun σ H Q => ∃ ρ st sl, Rel K A ρ H st ∧ RSl K A ρ H σ sl ∧ OkG K A (fun _ _ (b a : Option Int) => b = a) ρ H (evEo cl G c sl st) Q (fun k d H' => W k d σ H')
def tCo (W : WX) (c : Eo) : TT := fun σ H Q => ∃ ρ st sl, Rel K A ρ H st ∧ RSl K A ρ H σ sl ∧ OkG K A (fun _ _ (b a : Bool) => b = a) ρ H (evC cl G c sl st) Q (fun k d H' => W k d σ H')
/-- an iterator stands for what is walked -/
def RJ (ρ : List Addr) (H : Hp) (J : L2.It) (j : Itv) : Prop := ∀ ρ' H' st', Step K ρ H ρ' H' → Rel K A ρ' H' st' →
  (∀ i, j.len st' = some i → J.stop i H') ∧ ∀ i t, j.get st' i = some t → J.go i H' ∧ ∀ x H'', J.yld i H' x H'' → Step K ρ' H' ρ' H'' ∧ Rel K A ρ' H'' st' ∧ RT K A ρ' H'' x t
def tIt (W : WX) (c : It) : TI := fun σ H R => ∃ ρ st sl, Rel K A ρ H st ∧ RSl K A ρ H σ sl ∧ OkG K A (RJ K A) ρ H (evIt cl G c sl st) R (fun k d H' => W k d σ H')
/-- only these slots have changed -/
def Out (l : List Nat) (σ σ' : L2.St) : Prop := ∀ vs : List Nat, (∀ i ∈ l, i ∈ vs) → wipe σ' vs = wipe σ vs
def rTg (l : List Nat) (σ : L2.St) : List Addr → Hp → L2.St → Sl → Prop := fun ρ' H' σ' sl' => RSl K A ρ' H' σ' sl' ∧ Out l σ σ'
def tTg (c : Tg) : TG := fun v σ H Q => ∃ ρ st sl t, Rel K A ρ H st ∧ RSl K A ρ H σ sl ∧ RT K A ρ H v t ∧ OkG K A (rTg K A c.slots σ) ρ H (evTg cl G c t sl st) Q (fun _ _ _ => False)
def tTgs (c : Tgs) : TGs := fun vs σ H Q => ∃ ρ st sl ts, Rel K A ρ H st ∧ RSl K A ρ H σ sl ∧ RTs K A ρ H vs ts ∧ OkG K A (rTg K A c.slots σ) ρ H (evTgs cl G c ts sl st) Q (fun _ _ _ => False)
/-- how a statement's end is wanted -/
def OkS (ρ : List Addr) (H : Hp) (r : RS) (D : Ends) (W : WX) : Prop := match r with
  | .nx sl' st' => ∀ σ' H' ρ', Step K ρ H ρ' H' → Rel K A ρ' H' st' → RSl K A ρ' H' σ' sl' → D.nx σ' H'
  | .bk sl' st' => ∀ σ' H' ρ', Step K ρ H ρ' H' → Rel K A ρ' H' st' → RSl K A ρ' H' σ' sl' → D.bk σ' H'
  | .ct sl' st' => ∀ σ' H' ρ', Step K ρ H ρ' H' → Rel K A ρ' H' st' → RSl K A ρ' H' σ' sl' → D.ct σ' H'
  | .rt t st' => ∀ v H' ρ', Step K ρ H ρ' H' → Rel K A ρ' H' st' → RT K A ρ' H' v t → D.rt v H'
  | .xc x sl' st' => ∀ k d σ' H' ρ', Step K ρ H ρ' H' → Rel K A ρ' H' st' → RSl K A ρ' H' σ' sl' → RX K A ρ' H' x k d → W k d σ' H'
  | .stuck => False
def tS (W : WX) (c : S) : TS := fun D σ H => ∃ ρ st sl, Rel K A ρ H st ∧ RSl K A ρ H σ sl ∧ OkS K A ρ H (evS cl G c sl st) D W
def tSs (W : WX) (c : Ss) : TS := fun D σ H => ∃ ρ st sl, Rel K A ρ H st ∧ RSl K A ρ H σ sl ∧ OkS K A ρ H (evSs cl G c sl st) D W
end

/-- facts of an exception's class -/
structure ExcF (K : PySem.W.Frag) (C : Addr) : Prop where
  ex : PySem.W.excIn K C [.type "ValueError", .type "Exception", .type "BaseException", .type "object"] "ValueError.__new__" = true
  kp : PySem.W.keepIn K (.ref C) = true
  sb : PySem.W.subIn K (.ref C) (.type "BaseException") = some true
  ty : PySem.W.typeIn K (.ref C) = some (.type "type")
  exm : PySem.W.exmOne K (.ref C) (.ref C) = some true

/-- what the code of an expression leans on -/
structure CxE (X : Cx) (A : Ad) (cl : Call) (G : Tab) (ar : Nat → Nat) (C : Cmp) (W : WX) : Prop where
  calm : C.calm = true → X.calm = true
  N : X.N = C.N
  nd : X.N.Nodup
  sc : X.env.scope = C.sc
  fnB : X.fn = C.fnB
  units : X.A.units + 190 < cLine
  tk : Takes X W
  blt : ∀ x : Str, C.gn.blt.contains x = true → X.mg x = none
  fns : ∀ (i : Nat) (x : Str), C.gn.fns[i]? = some x → ∃ f fd ps k, X.mg x = some (.ref f) ∧ PySem.W.keepIn X.K (.ref f) = true ∧ Binds X.K fd ps [] ∧ FnOk X.prog X.w X.K X.mg X.base (L2.CX X.prog X.w) k f fd ps (spEv X.K A cl ar i) ∧ (X.calm = true → Room k X.A)
  art : ∀ i ts st, ts.length ≠ ar i → cl i ts st = .stuck
  cst : ∀ (i : Nat) (x : Str), C.gn.cst[i]? = some x → ∃ u v t, X.mg x = some u ∧ RelV v u ∧ G.consts[i]? = some t ∧ ∀ ρ H, RT X.K A ρ H v t
  cls : ∀ (i : Nat) (x : Str), C.gn.cls[i]? = some x → ∃ Ca, X.mg x = some (.ref Ca) ∧ A.ca i = some Ca ∧ ExcF X.K Ca
structure CxS (X : Cx) (A : Ad) (cl : Call) (G : Tab) (ar : Nat → Nat) (C : Cmp) (W : WX) : Prop where
  e : CxE X A cl G ar C W
  po : PassesOwn (model X.prog X.w) X.A X.env X.xe
  top : C.top = true → X.stack = X.env :: X.outer ∧ X.env.frame = some X.env.locals

section
variable {X : Cx} {A : Ad} {cl : Call} {G : Tab} {ar : Nat → Nat} {C : Cmp} {W : WX}
theorem pe_w {e : Expr} {t t' : TE} (h : PE X e t) (hw : ∀ σ H Q, t' σ H Q → t σ H Q) : PE X e t' := ⟨fun pins s σ H Q I q => h.run pins s σ H Q I (hw σ H Q q)⟩
theorem pt_w {e : Expr} {t t' : TT} (h : PT X e t) (hw : ∀ σ H Q, t' σ H Q → t σ H Q) : PT X e t' := ⟨fun pins s σ H Q I q => h.run pins s σ H Q I (hw σ H Q q)⟩
theorem pw_w {e : Expr} {t t' : TT} (h : PW X e t) (hw : ∀ σ H Q, t' σ H Q → t σ H Q) : PW X e t' := ⟨fun wh pins s σ H Q I q => h.run wh pins s σ H Q I (hw σ H Q q)⟩
theorem pa_w {e : List Expr} {t t' : TA} (h : PA X e t) (hw : ∀ σ H Q, t' σ H Q → t σ H Q) : PA X e t' := ⟨fun pos pins s σ H Q I q => h.run pos pins s σ H Q I (hw σ H Q q)⟩
theorem po_w {e : Option Expr} {t t' : TO} (h : PO X e t) (hw : ∀ σ H Q, t' σ H Q → t σ H Q) : PO X e t' := ⟨fun pins s σ H Q I q => h.run pins s σ H Q I (hw σ H Q q)⟩
theorem pi_w {tg e : Expr} {t t' : TI} (h : PI X tg e t) (hw : ∀ σ H Q, t' σ H Q → t σ H Q) : PI X tg e t' := ⟨fun pins s σ H Q I q => h.run pins s σ H Q I (hw σ H Q q)⟩
theorem pg_w {e : Expr} {t t' : TG} (h : PG X e t) (hw : ∀ v σ H Q, t' v σ H Q → t v σ H Q) : PG X e t' := ⟨fun pins s σ H v u Q I r q => h.run pins s σ H v u Q I r (hw v σ H Q q)⟩
theorem pgs_w {e : List Expr} {t t' : TGs} (h : PGs X e t) (hw : ∀ v σ H Q, t' v σ H Q → t v σ H Q) : PGs X e t' := ⟨fun pins s σ H v u Q I r q => h.run pins s σ H v u Q I r (hw v σ H Q q)⟩
theorem ps_w {e : Stmt} {t t' : TS} (h : PS X e t) (hw : ∀ D σ H, t' D σ H → t D σ H) : PS X e t' := ⟨fun pins s σ H D I q => h.run pins s σ H D I (hw D σ H q)⟩
theorem pss_w {e : List Stmt} {t t' : TS} (h : PSs X e t) (hw : ∀ D σ H, t' D σ H → t D σ H) : PSs X e t' := ⟨fun pins s σ H D I q => h.run pins s σ H D I (hw D σ H q)⟩
theorem pts_w {e : List Expr} {t t' : TT} (h : PTs X e t) (hw : ∀ σ H Q, t' σ H Q → t σ H Q) : PTs X e t' := ⟨fun pins s σ H Q I q => h.run pins s σ H Q I (hw σ H Q q)⟩

theorem idx_some {l : List Str} {x : Str} {i : Nat} (h : idx l x = some i) : l[i]? = some x := by
  unfold idx at h
  rw [List.findIdx?_eq_some_iff_getElem] at h
  obtain ⟨h1, h2, _⟩ := h
  rw [List.getElem?_eq_getElem h1, of_decide_eq_true h2]
theorem vis_of (cx : CxE X A cl G ar C W) {x : Str} (h : visB C.sc x = true) : Vis X.env.scope x := by
  rw [cx.sc]
  unfold visB at h
  unfold Vis
  split at h
  · exact .inl (by assumption)
  · exact .inr (.inl (by assumption))
  · exact .inr (.inr (by assumption))
  · cases h
theorem gl_of (cx : CxE X A cl G ar C W) {x : Str} (h : glB C.sc x = true) : Gl X x := by
  show X.env.scope.names.lookup x = _
  rw [cx.sc]
  unfold glB at h
  split at h
  · assumption
  · cases h
theorem loc_of (cx : CxE X A cl G ar C W) {x : Str} (h : locB C x = true) : L2.Loc X.env.scope x ∧ (X.fn x = true ∨ X.env.scope.names.lookup x = some .local) := by
  unfold L2.Loc
  rw [cx.sc, cx.fnB]
  unfold locB at h
  split at h
  · rename_i e; exact ⟨.inl e, .inr e⟩
  · rename_i e; exact ⟨.inr e, .inl h⟩
  · cases h
theorem neq_of {x y : Str} (h : ¬ x = y) : (x == y) = false := beq_eq_false_iff_ne.mpr h

/-! ### expressions, one form after another -/
abbrev gE (X : Cx) (A : Ad) (cl : Call) (G : Tab) (W : WX) (c : E) : TE := tE X.K A cl G W c
theorem e_var (cx : CxE X A cl G ar C W) {x : Str} {pos : Pos} {i : Nat} (h1 : ¬ (x = "__debug__" ∨ x = "__classdict__")) (h2 : visB C.sc x = true) (h3 : idx C.N x = some i) : PE X (.Name x pos) (gE X A cl G W (.var i)) := by
  refine pe_w (pe_var (i := i) (by rw [cx.N]; exact idx_some h3) (vis_of cx h2) (neq_of fun e => h1 (.inl e)) (neq_of fun e => h1 (.inr e))) fun σ H Q h => ?_
  obtain ⟨ρ, st, sl, R, S, h⟩ := h
  unfold evE at h
  split at h
  · rename_i t e
    obtain ⟨v, e1, r⟩ := S.at_ i t e
    exact ⟨v, e1, h.same R r⟩
  · exact h.elim
theorem e_glb (cx : CxE X A cl G ar C W) {x : Str} {pos : Pos} {i : Nat} (h1 : ¬ (x = "__debug__" ∨ x = "__classdict__")) (h2 : glB C.sc x = true) (h3 : idx C.gn.cst x = some i) : PE X (.Name x pos) (gE X A cl G W (.glb i)) := by
  obtain ⟨u, v, t, e1, e2, e3, e4⟩ := cx.cst i x (idx_some h3)
  refine pe_w (pe_glob (gl_of cx h2) e1 e2 (neq_of fun e => h1 (.inl e))) fun σ H Q h => ?_
  obtain ⟨ρ, st, sl, R, S, h⟩ := h
  unfold evE at h
  rw [e3] at h
  exact h.same R (e4 ρ H)
theorem e_cst {c : Const} {j : Nat} {pos : Pos} {t : T} (h : constT c = some t) : PE X (.Constant c j pos) (gE X A cl G W (.cst t)) := by
  have fin : ∀ {v : V}, (∀ ρ H, RT X.K A ρ H v t) → ∀ σ H Q, gE X A cl G W (.cst t) σ H Q → tC v σ H Q := fun {v} r σ H Q h => by
    obtain ⟨ρ, st, sl, R, S, h⟩ := h
    unfold evE at h
    exact h.same R (r ρ H)
  cases c <;> simp only [constT] at h
  · cases h; exact pe_w pe_non (fin fun _ _ => .non)
  · cases h; exact pe_w pe_bl (fin fun _ _ => .bl _)
  · cases h; exact pe_w pe_int (fin fun _ _ => .int _)
  · cases h
  · cases h
  · split at h
    · rename_i c; cases h; exact pe_w pe_str (fin fun _ _ => .str _ c)
    · cases h
  · cases h
  · cases h
theorem e_bin {a b : Expr} {ca cb : E} {op : Operator} {pos : Pos} (ha : PE X a (gE X A cl G W ca)) (hb : PE X b (gE X A cl G W cb)) : PE X (.BinOp a op b pos) (gE X A cl G W (.bin op ca cb)) := by
  refine pe_w (pe_op (op_binT (A := A) op) ha hb) fun σ H Q h => ?_
  obtain ⟨ρ, st, sl, R, S, h⟩ := h
  unfold evE at h
  refine ⟨ρ, st, sl, R, S, h.seq fun t st1 v H1 ρ1 s1 R1 v1 h1 => ?_⟩
  refine ⟨ρ1, st1, sl, R1, S.step s1, h1.seq fun u st2 w H2 ρ2 s2 R2 w2 h2 => ?_⟩
  exact ⟨ρ2, st2, t, u, _, R2, v1.step s2, w2, h2⟩
theorem e_neg {a : Expr} {ca : E} {pos : Pos} (ha : PE X a (gE X A cl G W ca)) : PE X (.UnaryOp .USub a pos) (gE X A cl G W (.neg ca)) := by
  refine pe_w (pe_un un_neg ha) fun σ H Q h => ?_
  obtain ⟨ρ, st, sl, R, S, h⟩ := h
  unfold evE at h
  refine ⟨ρ, st, sl, R, S, h.seq fun t st1 v H1 ρ1 s1 R1 v1 h1 => ?_⟩
  cases v1 <;> first | exact h1.elim | skip
  exact ⟨_, rfl, h1.same R1 (.int _)⟩
theorem mark_of {b : Expr} {cb : E} {n : Nat} (op : CmpOp) (h : compE n C b = some cb) : behindInMarks op b = false := by
  cases n with
  | zero => simp [compE] at h
  | succ n => cases b <;> first | rfl | (simp [compE] at h)
theorem e_cmp (cx : CxE X A cl G ar C W) {a b : Expr} {ca cb : E} {op : CmpOp} {pos : Pos} (ha : PE X a (gE X A cl G W ca)) (hb : PE X b (gE X A cl G W cb)) (hm : behindInMarks op b = false) : PE X (.Compare a [op] [b] pos) (gE X A cl G W (.cmp op ca cb)) := by
  refine pe_w (pe_cmpR (op_cmpT (A := A) cx.units op) ha hb hm) fun σ H Q h => ?_
  obtain ⟨ρ, st, sl, R, S, h⟩ := h
  unfold evE at h
  refine ⟨ρ, st, sl, R, S, h.seq fun t st1 v H1 ρ1 s1 R1 v1 h1 => ?_⟩
  refine ⟨ρ1, st1, sl, R1, S.step s1, h1.seq fun u st2 w H2 ρ2 s2 R2 w2 h2 => ?_⟩
  exact ⟨ρ2, st2, t, u, _, R2, v1.step s2, w2, h2⟩
/-- a comparison as a test -/
theorem bool_test {r : PF.R T} {ρ : List Addr} {H : Hp} {Q : Bool → Hp → Prop} {W' : Value → Option Addr → Hp → Prop} {K : PySem.W.Frag} (hb : ∀ t st, r = .ok t st → ∃ b, t = .bl b)
    (h : OkG K A (fun _ _ (b a : Bool) => b = a) ρ H (r.bind fun x st => truR st x) Q W') : OkG K A (RT K A) ρ H r (fun x H' => ∃ k, x = .bl k ∧ Q k H') W' := by
  cases r with
  | ok t st =>
    obtain ⟨b, rfl⟩ := hb t st rfl
    intro v H' ρ' s R r
    cases r
    exact ⟨b, rfl, h b H' ρ' s R rfl⟩
  | exc x st => exact h
  | stuck => exact h
theorem ofOpt_bl {st st' : Store} {o : Option Bool} {t : T} (h : PF.R.ofOpt st (o.map .bl) = .ok t st') : ∃ b, t = .bl b := by
  cases o with
  | none => cases h
  | some b => cases h; exact ⟨b, rfl⟩
theorem t_cmp (cx : CxE X A cl G ar C W) {a b : Expr} {ca cb : E} {op : CmpOp} {pos : Pos} (ha : PE X a (gE X A cl G W ca)) (hb : PE X b (gE X A cl G W cb)) (hm : behindInMarks op b = false) : PT X (.Compare a [op] [b] pos) (tTt X.K A cl G W (.cmp op ca cb)) := by
  refine pt_w (pt_cmpR (op_cmpT (A := A) cx.units op) ha hb hm) fun σ H Q h => ?_
  obtain ⟨ρ, st, sl, R, S, h⟩ := h
  have h' := bool_test (fun t st' e => by
    unfold evE at e
    cases ea : evE cl G ca sl st with
    | ok t1 st1 =>
      rw [ea] at e
      cases eb : evE cl G cb sl st1 with
      | ok t2 st2 =>
        rw [PF.R.bind_ok, eb, PF.R.bind_ok] at e
        exact ofOpt_bl e
      | exc x st => rw [PF.R.bind_ok, eb] at e; cases e
      | stuck => rw [PF.R.bind_ok, eb] at e; cases e
    | exc x st => rw [ea] at e; cases e
    | stuck => rw [ea] at e; cases e) h
  unfold evE at h'
  refine ⟨ρ, st, sl, R, S, h'.seq fun t st1 v H1 ρ1 s1 R1 v1 h1 => ?_⟩
  refine ⟨ρ1, st1, sl, R1, S.step s1, h1.seq fun u st2 w H2 ρ2 s2 R2 w2 h2 => ?_⟩
  exact ⟨ρ2, st2, t, u, _, R2, v1.step s2, w2, h2⟩
end
end PF

end

section
set_option Elab.async false
set_option linter.all false
set_option maxRecDepth 100000
set_option maxHeartbeats 2000000
set_option autoImplicit false
/-! PfD2: truth, calls, subscripts. -/
namespace PF
open PySem L2 PySem.Spec PyProof.Rows
theorem R.bind_assoc {α β γ : Type} (r : R α) (f : α → Store → R β) (g : β → Store → R γ) : (r.bind f).bind g = r.bind fun a st => (f a st).bind g := by
  cases r <;> rfl
section
variable {X : Cx} {A : Ad} {cl : Call} {G : Tab} {ar : Nat → Nat} {C : Cmp} {W : WX}
section
variable {K : PySem.W.Frag} {ρ : List Addr} {H : Hp}
/-- a value's truth, then more -/
theorem tru_seq {γ δ : Type} {rs : List Addr → Hp → δ → γ → Prop} {r : PF.R T} {F : Bool → T → Store → PF.R γ} {Q : δ → Hp → Prop} {Q1 : Bool → Hp → Prop} {W' : Value → Option Addr → Hp → Prop}
    (h : OkG K A rs ρ H (r.bind fun x st => (truR st x).bind fun k st => F k x st) Q W')
    (hk : ∀ t st1 k H1 ρ1, Step K ρ H ρ1 H1 → Rel K A ρ1 H1 st1 → tru st1 t = some k → OkG K A rs ρ1 H1 (F k t st1) Q W' → Q1 k H1) :
    OkG K A (fun _ _ (b a : Bool) => b = a) ρ H (r.bind fun x st => truR st x) Q1 W' := by
  cases r with
  | ok t st =>
    rw [PF.R.bind_ok] at h ⊢
    unfold truR at h ⊢
    cases e : tru st t with
    | none => rw [e] at h; exact h.elim
    | some k =>
      rw [e] at h
      rw [PF.R.ofOpt_some, PF.R.bind_ok] at h
      rw [PF.R.ofOpt_some]
      intro b H' ρ' s R eb
      subst eb
      exact hk t st _ H' ρ' s R e (h.base s)
  | exc x st => exact h
  | stuck => exact h
/-- .. keeping the value -/
theorem tru_val_seq {γ δ : Type} {rs : List Addr → Hp → δ → γ → Prop} {r : PF.R T} {F : Bool → T → Store → PF.R γ} {Q : δ → Hp → Prop} {Q1 : V → Bool → Hp → Prop} {W' : Value → Option Addr → Hp → Prop} {X : Cx}
    (h : OkG X.K A rs ρ H (r.bind fun x st => (truR st x).bind fun k st => F k x st) Q W')
    (hk : ∀ t st1 k v H1 ρ1, Step X.K ρ H ρ1 H1 → Rel X.K A ρ1 H1 st1 → RT X.K A ρ1 H1 v t → tru st1 t = some k → OkG X.K A rs ρ1 H1 (F k t st1) Q W' → Q1 v k H1) :
    OkG X.K A (RT X.K A) ρ H r (fun x H1 => ∃ k, TruV X.K x H1 k ∧ Q1 x k H1) W' := by
  refine h.seq fun t st1 v H1 ρ1 s1 R1 v1 h1 => ?_
  unfold truR at h1
  cases e : tru st1 t with
  | none => rw [e] at h1; exact h1.elim
  | some k =>
    rw [e] at h1
    rw [PF.R.ofOpt_some, PF.R.bind_ok] at h1
    exact ⟨k, tru_val R1 v1 e, hk t st1 k v H1 ρ1 s1 R1 v1 e h1⟩
end

theorem t_of_e {e : Expr} {c : E} (h : PE X e (gE X A cl G W c)) (he : ∀ whole, isTrue e X.env whole = (do let v ← whole; standAt e.pos; holding [v] (truthy v))) : PT X e (tTt X.K A cl G W c) := by
  refine pt_w (pt_truth h he) fun σ H Q h => ?_
  obtain ⟨ρ, st, sl, R, S, h⟩ := h
  refine ⟨ρ, st, sl, R, S, h.seq fun t st1 v H1 ρ1 s1 R1 v1 h1 => ?_⟩
  unfold truR at h1
  cases e : tru st1 t with
  | none => rw [e] at h1; exact h1.elim
  | some k =>
    rw [e] at h1
    exact ⟨k, tru_val R1 v1 e, h1 k H1 ρ1 .refl R1 rfl⟩

/-! ### not, and, or, if -/
theorem e_not {a : Expr} {ca : E} {pos : Pos} (ha : PE X a (gE X A cl G W ca)) : PE X (.UnaryOp .Not a pos) (gE X A cl G W (.not ca)) := by
  refine pe_w (pe_notT ha) fun σ H Q h => ?_
  obtain ⟨ρ, st, sl, R, S, h⟩ := h
  unfold evE at h
  exact ⟨ρ, st, sl, R, S, tru_val_seq h fun t st1 k v H1 ρ1 s1 R1 v1 e h1 => h1.same R1 (.bl _)⟩
theorem t_not {a : Expr} {ca : E} {pos : Pos} (ha : PT X a (tTt X.K A cl G W ca)) : PT X (.UnaryOp .Not a pos) (tTt X.K A cl G W (.not ca)) := by
  refine pt_w (pt_not ha) fun σ H Q h => ?_
  obtain ⟨ρ, st, sl, R, S, h⟩ := h
  unfold evE at h
  rw [PF.R.bind_assoc] at h
  simp only [PF.R.bind_assoc] at h
  exact ⟨ρ, st, sl, R, S, tru_seq h fun t st1 k H1 ρ1 s1 R1 e h1 => h1 (!k) H1 ρ1 .refl R1 rfl⟩
theorem e_and {a b : Expr} {r : List Expr} {ca cb : E} {pos : Pos} (ha : PE X a (gE X A cl G W ca)) (hb : PE X (.BoolOp .And (b :: r) pos) (gE X A cl G W cb)) : PE X (.BoolOp .And (a :: b :: r) pos) (gE X A cl G W (.and ca cb)) := by
  refine pe_w (pe_andT ha hb) fun σ H Q h => ?_
  obtain ⟨ρ, st, sl, R, S, h⟩ := h
  unfold evE at h
  refine ⟨ρ, st, sl, R, S, tru_val_seq h fun t st1 k v H1 ρ1 s1 R1 v1 e h1 => ?_⟩
  cases k with
  | true => exact ⟨ρ1, st1, sl, R1, S.step s1, h1⟩
  | false => exact h1.same R1 v1
theorem e_or {a b : Expr} {r : List Expr} {ca cb : E} {pos : Pos} (ha : PE X a (gE X A cl G W ca)) (hb : PE X (.BoolOp .Or (b :: r) pos) (gE X A cl G W cb)) : PE X (.BoolOp .Or (a :: b :: r) pos) (gE X A cl G W (.or ca cb)) := by
  refine pe_w (pe_orT ha hb) fun σ H Q h => ?_
  obtain ⟨ρ, st, sl, R, S, h⟩ := h
  unfold evE at h
  refine ⟨ρ, st, sl, R, S, tru_val_seq h fun t st1 k v H1 ρ1 s1 R1 v1 e h1 => ?_⟩
  cases k with
  | true => exact h1.same R1 v1
  | false => exact ⟨ρ1, st1, sl, R1, S.step s1, h1⟩
theorem truR_again {st : Store} {t : T} {k : Bool} (e : tru st t = some k) : truR st t = .ok k st := by
  unfold truR; rw [e]; rfl
theorem w_and {a b : Expr} {r : List Expr} {ca cb : E} {pos : Pos} (ha : PT X a (tTt X.K A cl G W ca)) (hb : PW X (.BoolOp .And (b :: r) pos) (tTt X.K A cl G W cb)) : PW X (.BoolOp .And (a :: b :: r) pos) (tTt X.K A cl G W (.and ca cb)) := by
  refine pw_w (pw_and ha hb) fun σ H Q h => ?_
  obtain ⟨ρ, st, sl, R, S, h⟩ := h
  unfold evE at h
  rw [PF.R.bind_assoc] at h
  simp only [PF.R.bind_assoc] at h
  refine ⟨ρ, st, sl, R, S, tru_seq h fun t st1 k H1 ρ1 s1 R1 e h1 => ?_⟩
  cases k with
  | true => exact ⟨ρ1, st1, sl, R1, S.step s1, h1⟩
  | false =>
    rw [if_neg Bool.false_ne_true]
    rw [if_neg Bool.false_ne_true, PF.R.bind_ok, truR_again e] at h1
    exact h1 false H1 ρ1 .refl R1 rfl
theorem w_or {a b : Expr} {r : List Expr} {ca cb : E} {pos : Pos} (ha : PT X a (tTt X.K A cl G W ca)) (hb : PW X (.BoolOp .Or (b :: r) pos) (tTt X.K A cl G W cb)) : PW X (.BoolOp .Or (a :: b :: r) pos) (tTt X.K A cl G W (.or ca cb)) := by
  refine pw_w (pw_or ha hb) fun σ H Q h => ?_
  obtain ⟨ρ, st, sl, R, S, h⟩ := h
  unfold evE at h
  rw [PF.R.bind_assoc] at h
  simp only [PF.R.bind_assoc] at h
  refine ⟨ρ, st, sl, R, S, tru_seq h fun t st1 k H1 ρ1 s1 R1 e h1 => ?_⟩
  cases k with
  | false => exact ⟨ρ1, st1, sl, R1, S.step s1, h1⟩
  | true =>
    rw [if_pos rfl]
    rw [if_pos rfl, PF.R.bind_ok, truR_again e] at h1
    exact h1 true H1 ρ1 .refl R1 rfl
theorem e_ite {c a b : Expr} {cc ca cb : E} {pos : Pos} (hc : PT X c (tTt X.K A cl G W cc)) (ha : PE X a (gE X A cl G W ca)) (hb : PE X b (gE X A cl G W cb)) : PE X (.IfExp c a b pos) (gE X A cl G W (.ite cc ca cb)) := by
  refine pe_w (pe_ifExp hc ha hb) fun σ H Q h => ?_
  obtain ⟨ρ, st, sl, R, S, h⟩ := h
  unfold evE at h
  refine ⟨ρ, st, sl, R, S, tru_seq h fun t st1 k H1 ρ1 s1 R1 e h1 => ?_⟩
  cases k with
  | true => exact ⟨ρ1, st1, sl, R1, S.step s1, h1⟩
  | false => exact ⟨ρ1, st1, sl, R1, S.step s1, h1⟩
/-- a conditional expression as a test -/
theorem pt_ifExp {c a b : Expr} {tc ta tb : TT} {pos : Pos} (hc : PT X c tc) (ha : PT X a ta) (hb : PT X b tb) : PT X (.IfExp c a b pos) (fun σ H Q => tc σ H fun k H1 => if k = true then ta σ H1 Q else tb σ H1 Q) := by
  refine ⟨fun pins s σ H Q I h => ?_⟩
  unfold PySem.isTrue
  refine wpAny_bind (thn (hc.run pins s σ H _ I h) fun k s1 ⟨H1, I1, q1⟩ => ?_)
  cases k with
  | true => exact ha.run pins s1 σ H1 Q I1 q1
  | false => exact hb.run pins s1 σ H1 Q I1 q1
theorem t_ite {c a b : Expr} {cc ca cb : E} {pos : Pos} (hc : PT X c (tTt X.K A cl G W cc)) (ha : PT X a (tTt X.K A cl G W ca)) (hb : PT X b (tTt X.K A cl G W cb)) : PT X (.IfExp c a b pos) (tTt X.K A cl G W (.ite cc ca cb)) := by
  refine pt_w (pt_ifExp hc ha hb) fun σ H Q h => ?_
  obtain ⟨ρ, st, sl, R, S, h⟩ := h
  unfold evE at h
  rw [PF.R.bind_assoc] at h
  simp only [PF.R.bind_assoc] at h
  refine ⟨ρ, st, sl, R, S, tru_seq h fun t st1 k H1 ρ1 s1 R1 e h1 => ?_⟩
  cases k with
  | true => exact ⟨ρ1, st1, sl, R1, S.step s1, h1⟩
  | false => exact ⟨ρ1, st1, sl, R1, S.step s1, h1⟩

/-! ### chains -/
theorem marks_of {a b : Expr} {op op' : CmpOp} (h : behindInMarks op' b = false) : lastMarks [op, op'] [a, b] = false := h
theorem chn_seq {ρ : List Addr} {H : Hp} {st : Store} {sl : Sl} {σ : L2.St} {ca cb cc : E} {op op' : CmpOp} {Q : VK} (R : Rel X.K A ρ H st) (S : RSl X.K A ρ H σ sl)
    (h : OkG X.K A (RT X.K A) ρ H (evE cl G (.chn op op' ca cb cc) sl st) Q fun k d H' => W k d σ H') :
    tChain (r2 X.K A (cmpR op)) (r2 X.K A (cmpR op')) (gE X A cl G W ca) (gE X A cl G W cb) (gE X A cl G W cc) σ H Q := by
  unfold evE at h
  refine ⟨ρ, st, sl, R, S, h.seq fun t st1 v H1 ρ1 s1 R1 v1 h1 => ?_⟩
  refine ⟨ρ1, st1, sl, R1, S.step s1, h1.seq fun u st2 w H2 ρ2 s2 R2 w2 h2 => ?_⟩
  have go : OkG X.K A (RT X.K A) ρ2 H2 (cmpR op t u st2) (fun z H3 => ∃ k, z = .bl k ∧ (if k = true then gE X A cl G W cc σ H3 fun w' H4 => r2 X.K A (cmpR op') w w' H4 Q else Q (.bl false) H3)) (fun k d H' => W k d σ H') := by
    unfold cmpR
    cases e : cmpT op t u st2 with
    | none => rw [e] at h2; exact h2.elim
    | some k =>
      rw [e, PF.R.ofOpt_some, PF.R.bind_ok] at h2
      rw [Option.map_some, PF.R.ofOpt_some]
      intro z H3 ρ3 s3 R3 r3
      cases r3
      refine ⟨k, rfl, ?_⟩
      cases k with
      | false =>
        rw [if_neg Bool.false_ne_true] at h2 ⊢
        exact (h2.base s3).same R3 (.bl _)
      | true =>
        rw [if_pos rfl] at h2 ⊢
        refine ⟨ρ3, st2, sl, R3, (S.step s1).step (s2.trans s3), (h2.base s3).seq fun u2 st4 w4 H4 ρ4 s4 R4 r4 h4 => ?_⟩
        exact ⟨ρ4, st4, u, u2, _, R4, w2.step (s3.trans s4), r4, h4⟩
  exact ⟨ρ2, st2, t, u, _, R2, v1.step s2, w2, go⟩
theorem e_chn (cx : CxE X A cl G ar C W) {a b c : Expr} {ca cb cc : E} {op op' : CmpOp} {pos : Pos} (ha : PE X a (gE X A cl G W ca)) (hb : PE X b (gE X A cl G W cb)) (hc : PE X c (gE X A cl G W cc)) (hm : behindInMarks op' c = false) :
    PE X (.Compare a [op, op'] [b, c] pos) (gE X A cl G W (.chn op op' ca cb cc)) := by
  refine pe_w (pe_chain (op_cmpT (A := A) cx.units op) (op_cmpT (A := A) cx.units op') ha hb hc hm) fun σ H Q h => ?_
  obtain ⟨ρ, st, sl, R, S, h⟩ := h
  exact chn_seq R S h
theorem chn_bl {sl : Sl} {st st' : Store} {ca cb cc : E} {op op' : CmpOp} {t : T} (e : evE cl G (.chn op op' ca cb cc) sl st = .ok t st') : ∃ b, t = .bl b := by
  unfold evE at e
  cases ea : evE cl G ca sl st with
  | exc x st => rw [ea] at e; cases e
  | stuck => rw [ea] at e; cases e
  | ok t1 st1 =>
    rw [ea, PF.R.bind_ok] at e
    cases eb : evE cl G cb sl st1 with
    | exc x st => rw [eb] at e; cases e
    | stuck => rw [eb] at e; cases e
    | ok t2 st2 =>
      rw [eb, PF.R.bind_ok] at e
      cases ec : cmpT op t1 t2 st2 with
      | none => rw [ec] at e; cases e
      | some k =>
        rw [ec, PF.R.ofOpt_some, PF.R.bind_ok] at e
        cases k with
        | false => cases e; exact ⟨_, rfl⟩
        | true =>
          rw [if_pos rfl] at e
          cases ed : evE cl G cc sl st2 with
          | exc x st => rw [ed] at e; cases e
          | stuck => rw [ed] at e; cases e
          | ok t3 st3 => rw [ed, PF.R.bind_ok] at e; exact ofOpt_bl e
theorem t_chn (cx : CxE X A cl G ar C W) {a b c : Expr} {ca cb cc : E} {op op' : CmpOp} {pos : Pos} (ha : PE X a (gE X A cl G W ca)) (hb : PE X b (gE X A cl G W cb)) (hc : PE X c (gE X A cl G W cc)) (hm : behindInMarks op' c = false) :
    PT X (.Compare a [op, op'] [b, c] pos) (tTt X.K A cl G W (.chn op op' ca cb cc)) := by
  refine pt_w (pt_chain (op_cmpT (A := A) cx.units op) (op_cmpT (A := A) cx.units op') ha hb hc hm) fun σ H Q h => ?_
  obtain ⟨ρ, st, sl, R, S, h⟩ := h
  exact chn_seq R S (bool_test (fun t st' e => chn_bl e) h)

/-! ### lists of values -/
theorem star_of {n : Nat} {C : Cmp} {e : Expr} {c : E} (h : compE n C e = some c) (es : List Expr) (env : Env) : starEach (e :: es) env = (false, eval e env) :: starEach es env := by
  cases n with
  | zero => simp [compE] at h
  | succ n => cases e <;> first | rfl | (simp [compE] at h)
theorem a_nil : PA X [] (tEs X.K A cl G W .nil) := pa_w pa_nil fun σ H Q h => by
  obtain ⟨ρ, st, sl, R, S, h⟩ := h
  unfold evEs at h
  exact h [] H ρ .refl R .nil
theorem a_cons {e : Expr} {es : List Expr} {c : E} {cs : Es} (he : PE X e (gE X A cl G W c)) (hs : PA X es (tEs X.K A cl G W cs)) (hst : starEach (e :: es) X.env = (false, eval e X.env) :: starEach es X.env) : PA X (e :: es) (tEs X.K A cl G W (.cons c cs)) := by
  refine pa_w (pa_cons he hs hst) fun σ H Q h => ?_
  obtain ⟨ρ, st, sl, R, S, h⟩ := h
  unfold evEs at h
  refine ⟨ρ, st, sl, R, S, h.seq fun t st1 v H1 ρ1 s1 R1 v1 h1 => ?_⟩
  refine ⟨ρ1, st1, sl, R1, S.step s1, h1.seq fun ts st2 vs H2 ρ2 s2 R2 w2 h2 => ?_⟩
  exact h2 (v :: vs) H2 ρ2 .refl R2 (.cons (v1.step s2) w2)
theorem e_tup {es : List Expr} {cs : Es} {k : Nat} {pos : Pos} (h : PA X es (tEs X.K A cl G W cs)) : PE X (.Tuple es k pos) (gE X A cl G W (.tup cs)) := by
  refine pe_w (pe_tup h) fun σ H Q h => ?_
  obtain ⟨ρ, st, sl, R, S, h⟩ := h
  unfold evE at h
  refine ⟨ρ, st, sl, R, S, h.seq fun ts st1 vs H1 ρ1 s1 R1 v1 h1 => ?_⟩
  split at h1
  · rename_i c
    exact ⟨by rw [v1.length]; exact c, h1.newTup R1 v1⟩
  · exact h1.elim
theorem e_lst {es : List Expr} {cs : Es} {pos : Pos} (h : PA X es (tEs X.K A cl G W cs)) : PE X (.List es pos) (gE X A cl G W (.lst cs)) := by
  refine pe_w (pe_lst h) fun σ H Q h => ?_
  obtain ⟨ρ, st, sl, R, S, h⟩ := h
  unfold evE at h
  refine ⟨ρ, st, sl, R, S, h.seq fun ts st1 vs H1 ρ1 s1 R1 v1 h1 => ?_⟩
  split at h1
  · rename_i c
    exact ⟨by rw [v1.length]; exact c, h1.newLst R1 v1⟩
  · exact h1.elim
end
end PF

end

section
set_option Elab.async false
set_option linter.all false
set_option maxRecDepth 100000
set_option maxHeartbeats 2000000
set_option autoImplicit false
/-! PfD3: calls, subscripts, dicts. -/
namespace PF
open PySem L2 PySem.Spec PyProof.Rows
/-- no star among these -/
theorem stars_of : ∀ {n : Nat} {C : Cmp} {es : List Expr} {cs : Es}, compEs n C es = some cs → ∀ env : PySem.Env, (starEach es env).all (fun x => !x.1) = true ∧ (starEach es env).length = es.length
  | 0, _, _, _, h, _ => by simp [compEs] at h
  | n + 1, C, [], _, h, env => ⟨rfl, rfl⟩
  | n + 1, C, e :: r, cs, h, env => by
    simp only [compEs] at h
    split at h
    · rename_i c c' h1 h2
      obtain ⟨p, q⟩ := stars_of h2 env
      rw [star_of h1 r env]
      exact ⟨by simpa using p, by simp [q]⟩
    · cases h
theorem backTo_all (pos : Pos) : ∀ (l : List (Bool × Sem Value)), l.all (fun x => !x.1) = true → (backTo pos l).any (·.1) = false ∧ (backTo pos l).all (fun x => !x.1) = true
  | [], _ => ⟨rfl, rfl⟩
  | (b, t) :: r, h => by
    rw [List.all_cons, Bool.and_eq_true] at h
    obtain ⟨p, q⟩ := backTo_all pos r h.2
    have hb : b = false := by simpa using h.1
    subst hb
    exact ⟨p, q⟩
section
variable {X : Cx} {A : Ad} {cl : Call} {G : Tab} {ar : Nat → Nat} {C : Cmp} {W : WX}
theorem plain_of {n : Nat} {es : List Expr} {cs : Es} (h : compEs n C es = some cs) (pos : Pos) (env : PySem.Env) : (backTo pos (starEach es env)).any (·.1) = false := (backTo_all pos _ (stars_of h env).1).1

/-- f() of an own def -/
theorem pe_callS0 {CX : CXT} {k : Nat} {f : Addr} {fd : FuncData} {ps : List Str} {sp : Sp} {E : L2.St → XK} {x : Str} {p pos : Pos} (F : FnOk X.prog X.w X.K X.mg X.base CX k f fd ps sp) (hr : Room k X.A) (hg : Gl X x) (hm : X.mg x = some (.ref f)) (hk : PySem.W.keepIn X.K (.ref f) = true) (hb : Binds X.K fd ps []) (hx : ∀ σ, PassesAt CX X σ (E σ))
    (hdb : (x == ("__debug__" : Str)) = false) : PE X (.Call (.Name x p) [] [] pos) (tCallS sp E tNil) := by
  refine ⟨fun pins s σ H Q I h => ?_⟩
  refine wpAny_Call_Name_kw (ld_glob I hg hm ?_ hdb)
  exact PySem.W.callWith_K0 I.kIn hk (run_fnS (us := []) F hr hb (hx σ) I .nil h)
theorem e_call (cx : CxE X A cl G ar C W) {x : Str} {p pos : Pos} {es : List Expr} {cs : Es} {i n : Nat} (h1 : glB C.sc x = true) (h2 : ¬ x = "__debug__") (hc : C.calm = true) (h3 : idx C.gn.fns x = some i) (hes : compEs n C es = some cs) (ha : PA X es (tEs X.K A cl G W cs)) :
    PE X (.Call (.Name x p) es [] pos) (gE X A cl G W (.call i cs)) := by
  obtain ⟨f, fd, ps, k, e1, e2, e3, e4, e5⟩ := cx.fns i x (idx_some h3)
  have fin : ∀ σ H Q, gE X A cl G W (.call i cs) σ H Q → tCallS (spEv X.K A cl ar i) (WE W) (tEs X.K A cl G W cs) σ H Q := fun σ H Q h => by
    obtain ⟨ρ, st, sl, R, S, h⟩ := h
    unfold evE at h
    refine ⟨ρ, st, sl, R, S, h.seq fun ts st1 vs H1 ρ1 s1 R1 v1 h1 => ?_⟩
    have hl : ts.length = ar i := by
      by_cases q : ts.length = ar i
      · exact q
      · rw [cx.art i ts st1 q] at h1; exact h1.elim
    exact ⟨ρ1, st1, ts, R1, v1, hl, h1⟩
  cases es with
  | nil =>
    refine pe_w (pe_callS0 e4 (e5 (cx.calm hc)) (gl_of cx h1) e1 e2 e3 (passAt cx.tk) (neq_of h2)) fun σ H Q h => ?_
    have q := fin σ H Q h
    cases n with
    | zero => simp [compEs] at hes
    | succ n =>
      simp only [compEs] at hes
      cases hes
      obtain ⟨ρ, st, sl, R, S, q⟩ := q
      unfold evEs at q
      exact q [] H ρ .refl R .nil
  | cons e es =>
    cases n with
    | zero => simp [compEs] at hes
    | succ n =>
      simp only [compEs] at hes
      split at hes
      · rename_i c c' g1 g2
        exact pe_w (pe_callS e4 (e5 (cx.calm hc)) (gl_of cx h1) e1 e2 e3 (passAt cx.tk) ha (neq_of h2) (star_of g1 es X.env) (plain_of g2 pos X.env)) fin
      · cases hes

/-! ### built-in functions -/
def bId (b : B) : Option (Str × Bool × String) := match b with
  | .len => some ("len", false, "len") | .abs => some ("abs", false, "abs") | .int => some ("int", true, "int") | .tuple => some ("tuple", true, "tuple") | .list => some ("list", true, "list")
  | .sum => some ("sum", false, "sum") | .all => some ("all", false, "all") | .any => some ("any", false, "any") | .min1 => some ("min", false, "min") | .max1 => some ("max", false, "max")
  | .min2 => some ("min", false, "min") | .max2 => some ("max", false, "max") | .repr => some ("repr", false, "repr") | _ => none
theorem bTab_ok : ∀ r ∈ bTab, ∃ ty id, bId r.2.2 = some (r.1, ty, id) ∧ fB r.2.2 = some (if ty then .type id else .builtin id) ∧ bootBuiltins r.1 = some (if ty then .type id else .builtin id) ∧ r.1 ≠ "__name__" ∧ (r.1 == ("__debug__" : Str)) = false ∧ r.2.1 ≠ 0 := by
  intro r hr
  simp only [bTab, List.mem_cons, List.mem_nil_iff, or_false] at hr
  rcases hr with rfl | rfl | rfl | rfl | rfl | rfl | rfl | rfl | rfl | rfl | rfl | rfl | rfl
  all_goals exact ⟨_, _, rfl, rfl, by decide +kernel, by decide, by decide, by decide⟩
theorem bName_ok {x : Str} {n : Nat} {b : B} (h : bName x n = some b) : ∃ (ty : Bool) (id : String), fB b = some (if ty then .type id else .builtin id) ∧ bootBuiltins x = some (if ty then .type id else .builtin id) ∧ x ≠ "__name__" ∧ (x == ("__debug__" : Str)) = false ∧ n ≠ 0 := by
  unfold bName at h
  obtain ⟨r, h1, rfl⟩ := Option.map_eq_some_iff.mp h
  have h2 := List.find?_some h1
  rw [Bool.and_eq_true] at h2
  have h3 := of_decide_eq_true h2.1
  have h4 := eq_of_beq h2.2
  subst h3; subst h4
  obtain ⟨ty, id, _, k⟩ := bTab_ok r (List.mem_of_find?_eq_some h1)
  exact ⟨ty, id, k⟩
theorem e_bcall (cx : CxE X A cl G ar C W) {x : Str} {p pos : Pos} {es : List Expr} {cs : Es} {b : B} {n : Nat} (h1 : glB C.sc x = true) (hc : C.calm = true) (h3 : C.gn.blt.contains x = true) (hb : bName x es.length = some b) (hes : compEs n C es = some cs) (ha : PA X es (tEs X.K A cl G W cs)) :
    PE X (.Call (.Name x p) es [] pos) (gE X A cl G W (.bcall b cs)) := by
  obtain ⟨ty, id, k1, k2, k3, k4, k5⟩ := bName_ok hb
  have fin : ∀ σ H Q, gE X A cl G W (.bcall b cs) σ H Q → tCB (rL X.K A (bfn b)) (tEs X.K A cl G W cs) σ H Q := fun σ H Q h => by
    obtain ⟨ρ, st, sl, R, S, h⟩ := h
    unfold evE at h
    exact ⟨ρ, st, sl, R, S, h.seq fun ts st1 vs H1 ρ1 s1 R1 v1 h1 => ⟨ρ1, st1, ts, _, R1, v1, h1⟩⟩
  cases es with
  | nil => exact absurd rfl k5
  | cons e es =>
    cases n with
    | zero => simp [compEs] at hes
    | succ n =>
      simp only [compEs] at hes
      split at hes
      · rename_i c c' g1 g2
        cases ty with
        | true => exact pe_w (pe_callTy (call_bfn (cx.calm hc) k1) (gl_of cx h1) (cx.blt x h3) k2 ha k3 k4 (star_of g1 es X.env) (plain_of g2 pos X.env)) fin
        | false => exact pe_w (pe_callB (call_bfn (cx.calm hc) k1) (gl_of cx h1) (cx.blt x h3) k2 ha k3 k4 (star_of g1 es X.env) (plain_of g2 pos X.env)) fin
      · cases hes
theorem tyTab_ok : ∀ r ∈ tyTab, bootBuiltins r.1 = some (.type (tyName r.2)) ∧ r.1 ≠ "__name__" ∧ (r.1 == ("__debug__" : Str)) = false := by
  intro r hr
  simp only [tyTab, List.mem_cons, List.mem_nil_iff, or_false] at hr
  rcases hr with rfl | rfl | rfl | rfl | rfl | rfl
  all_goals exact ⟨by decide +kernel, by decide, by decide⟩
theorem tyOf_ok {x : Str} {ty : Ty} (h : tyOfName x = some ty) : bootBuiltins x = some (.type (tyName ty)) ∧ x ≠ "__name__" ∧ (x == ("__debug__" : Str)) = false := by
  unfold tyOfName at h
  obtain ⟨r, h1, rfl⟩ := Option.map_eq_some_iff.mp h
  have h2 := List.find?_some h1
  have h3 := of_decide_eq_true h2
  subst h3
  exact tyTab_ok r (List.mem_of_find?_eq_some h1)
theorem e_isi (cx : CxE X A cl G ar C W) {x : Str} {p pos p2 : Pos} {e : Expr} {c : E} {ty : Ty} {n : Nat} (h1 : glB C.sc "isinstance" = true) (h3 : C.gn.blt.contains "isinstance" = true) (he : compE n C e = some c) (ht : tyOfName x = some ty) (h4 : glB C.sc x = true) (h5 : C.gn.blt.contains x = true) (ha : PE X e (gE X A cl G W c)) :
    PE X (.Call (.Name "isinstance" p) [e, .Name x p2] [] pos) (gE X A cl G W (.bcall (.isi ty) (.cons c .nil))) := by
  obtain ⟨k2, k3, k4⟩ := tyOf_ok ht
  have hn : PE X (.Name x p2) (tC (.ty (tyName ty))) := pe_bltn (gl_of cx h4) (cx.blt x h5) k2 rfl k3 k4
  refine pe_w (pe_callB (call_isT (A := A) ty) (gl_of cx h1) (cx.blt _ h3) (by decide +kernel) (pa_cons ha (pa_cons hn pa_nil) (star_of he _ _)) (by decide) (by decide) (star_of he _ _)) fun σ H Q h => ?_
  obtain ⟨ρ, st, sl, R, S, h⟩ := h
  unfold evE evEs evEs at h
  rw [PF.R.bind_assoc] at h
  refine ⟨ρ, st, sl, R, S, h.seq fun t st1 v H1 ρ1 s1 R1 v1 h1 => ?_⟩
  exact ⟨v, rfl, ρ1, st1, [t], _, R1, .cons v1 .nil, h1⟩

/-! ### methods of built-in types -/
def rM (K : PySem.W.Frag) (A : Ad) (m : M) : V → List V → Hp → VK → Prop := fun x xs H Q => ∃ ρ st t ts W, Rel K A ρ H st ∧ RT K A ρ H x t ∧ RTs K A ρ H xs ts ∧ OkG K A (RT K A) ρ H (mfn m t ts st) Q W
theorem mt_append_T : MtR X "list.append" (rM X.K A .append) := by
  intro pins s σ H x xs v us Q I rx rs h
  obtain ⟨ρ, st, t, ts, W, R, h1, h2, h⟩ := h
  simp only [mfn, mAppend] at h
  split at h
  · cases h1 with | ref k =>
    split at h
    · rename_i ys ey
      obtain ⟨z, rfl, r1⟩ := one_rel h2
      obtain ⟨vs, g, q⟩ := R.lstAt k ey
      split at h
      · rename_i c
        refine mt_append pins s σ H _ _ v us Q I rx rs ⟨_, vs, z, rfl, rfl, g, by rw [q.length]; exact c, ?_⟩
        exact h .non _ ρ (Step.write g True.intro) (R.write k g True.intro fun s => ⟨_, upd_same, (q.step s).append (.cons (r1.step s) .nil)⟩) .non
      · exact h.elim
    · exact h.elim
  · exact h.elim
theorem mt_extend_T : MtR X "list.extend" (rM X.K A .extend) := by
  intro pins s σ H x xs v us Q I rx rs h
  obtain ⟨ρ, st, t, ts, W, R, h1, h2, h⟩ := h
  simp only [mfn, mExtend] at h
  split at h
  · cases h1 with | ref k =>
    obtain ⟨z, rfl, r1⟩ := one_rel h2
    cases r1 with | ref k' =>
    split at h
    · rename_i xs0 ys ex ey
      obtain ⟨vs, g, q⟩ := R.lstAt k ex
      obtain ⟨ws, g2, q2⟩ := R.lstAt k' ey
      split at h
      · rename_i c
        refine mt_extend pins s σ H _ _ v us Q I rx rs ⟨_, _, vs, ws, rfl, rfl, g, g2, by rw [q.length, q2.length]; exact c, ?_⟩
        exact h .non _ ρ (Step.write g True.intro) (R.write k g True.intro fun s => ⟨_, upd_same, (q.step s).append (q2.step s)⟩) .non
      · exact h.elim
    · exact h.elim
  · exact h.elim
theorem mt_get_T (hu : X.A.units + 1 < cLine) : MtR X "dict.get" (rM X.K A .get) := by
  intro pins s σ H x xs v us Q I rx rs h
  obtain ⟨ρ, st, t, ts, W, R, h1, h2, h⟩ := h
  simp only [mfn, mGet] at h
  split at h
  · cases h1 with | ref k =>
    obtain ⟨z, rfl, r1⟩ := one_rel h2
    obtain ⟨u, rfl, ru⟩ := vals1 rs
    split at h
    · rename_i kvs ex
      obtain ⟨ks, g, q⟩ := R.dicAt k ex
      split at h
      · rename_i c
        obtain ⟨j, rfl⟩ := key_of_T r1 c
        obtain rfl : v = Value.ref _ := rx
        refine d_get1 hu I (.inl ⟨ks, j, .inl g, rfl, rfl⟩) ru fun w' s' I' rw' => ⟨_, H, I', rw', ?_⟩
        rcases dLook_val r1 q with ⟨q1, q2⟩ | ⟨w, z, q1, q2, q3⟩
        · rw [q1]; rw [q2] at h; exact h.same R .non
        · rw [q1]; rw [q2] at h; exact h.same R q3
      · exact h.elim
    · exact h.elim
  · cases h1 with | ref k =>
    obtain ⟨z, z2, rfl, r1, r2⟩ := two_rel h2
    obtain ⟨u, u2, rfl, ru, ru2⟩ := vals2 rs
    split at h
    · rename_i kvs ex
      obtain ⟨ks, g, q⟩ := R.dicAt k ex
      split at h
      · rename_i c
        obtain ⟨j, rfl⟩ := key_of_T r1 c
        obtain rfl : v = Value.ref _ := rx
        refine d_get2 hu I (.inl ⟨ks, j, .inl g, rfl, rfl⟩) ru ru2 fun w' s' I' rw' => ⟨_, H, I', rw', ?_⟩
        rcases dLook_val r1 q with ⟨q1, q2⟩ | ⟨w, z, q1, q2, q3⟩
        · rw [q1]; rw [q2] at h; exact h.same R r2
        · rw [q1]; rw [q2] at h; exact h.same R q3
      · exact h.elim
    · exact h.elim
  · exact h.elim
/-- the base of a method call is no super() -/
theorem base_of {n : Nat} {C : Cmp} {o : Expr} {c : E} {m : Str} (h : compE n C o = some c) (env : PySem.Env) : attributeBase o m env (eval o env) = eval o env := by
  cases n with
  | zero => simp [compE] at h
  | succ n =>
    cases o <;> first | rfl | skip
    rename_i f es kws pos
    cases f <;> first | rfl | skip
    rename_i x p
    cases es <;> first | rfl | skip
    cases kws <;> first | rfl | skip
    unfold attributeBase
    simp only [compE] at h
    split at h
    · rename_i c
      have : (x != ("super" : Str)) = true := by simpa using c.2.2.1
      simp only [this, Bool.true_or, if_true]
    · cases h
theorem few_of {n : Nat} {C : Cmp} {es : List Expr} {cs : Es} (h : compEs n C es = some cs) (hl : es.length < 20) (pos : Pos) (env : PySem.Env) :
    ((backTo pos (starEach es env)).all (fun x => !x.1) && (backToKw pos (keywordEach [] env)).all (fun x => x.1.isSome)
      && decide (es.length + ([] : List Keyword).length + (if ([] : List Keyword).isEmpty then 0 else 1) < 30)) = true := by
  rw [(backTo_all pos _ (stars_of h env).1).2]
  have : decide (es.length + ([] : List Keyword).length + (if ([] : List Keyword).isEmpty then 0 else 1) < 30) = true := decide_eq_true (by simp; omega)
  rw [this]; rfl
theorem e_mcall (cx : CxE X A cl G ar C W) {o : Expr} {co : E} {ms : Str} {m : M} {ap cp : Pos} {es : List Expr} {cs : Es} {n n' : Nat} (hl : ap.endLine = cp.line) (hm : mName ms es.length = some m) (hco : compE n' C o = some co) (ho : PE X o (gE X A cl G W co))
    (hne : es ≠ []) (hlen : es.length < 20) (hes : compEs n C es = some cs) (ha : PA X es (tEs X.K A cl G W cs)) : PE X (.Call (.Attribute o ms ap) es [] cp) (gE X A cl G W (.mcall m co cs)) := by
  cases es with
  | nil => exact absurd rfl hne
  | cons e es =>
    cases n with
    | zero => simp [compEs] at hes
    | succ n =>
      have hes' := hes
      simp only [compEs] at hes
      split at hes
      · rename_i c c' g1 g2
        have fin : ∀ {TT : String}, (∀ {ρ : List Addr} {H : Hp} {st : Store} {x : V} {t : T}, Rel X.K A ρ H st → RT X.K A ρ H x t → mOk m t st = true → tyV X.K TT x H) →
            ∀ σ H Q, gE X A cl G W (.mcall m co cs) σ H Q → tBM X.K TT (rM X.K A m) (gE X A cl G W co) (tEs X.K A cl G W cs) σ H Q := fun {TT} hty σ H Q h => by
          obtain ⟨ρ, st, sl, R, S, h⟩ := h
          unfold evE at h
          refine ⟨ρ, st, sl, R, S, h.seq fun t st1 v H1 ρ1 s1 R1 v1 h1 => ?_⟩
          split at h1
          · rename_i hk
            refine ⟨hty R1 v1 hk, ρ1, st1, sl, R1, S.step s1, h1.seq fun ts st2 vs H2 ρ2 s2 R2 v2 h2 => ?_⟩
            exact ⟨ρ2, st2, t, ts, _, R2, v1.step s2, v2, h2⟩
          · exact h1.elim
        have tl : ∀ {ρ : List Addr} {H : Hp} {st : Store} {x : V} {t : T}, Rel X.K A ρ H st → RT X.K A ρ H x t → isLst t st = true → tyV X.K "list" x H := fun {ρ H st x t} R r k => by
          unfold isLst at k
          split at k
          · cases r with | ref r =>
            split at k
            · rename_i ys ey
              obtain ⟨vs, g, q⟩ := R.lstAt r ey
              exact .inl ⟨rfl, vs, SqL.of g⟩
            · cases k
          · cases k
        have td : ∀ {ρ : List Addr} {H : Hp} {st : Store} {x : V} {t : T}, Rel X.K A ρ H st → RT X.K A ρ H x t → isDic t st = true → tyV X.K "dict" x H := fun {ρ H st x t} R r k => by
          unfold isDic at k
          split at k
          · cases r with | ref r =>
            split at k
            · rename_i ys ey
              obtain ⟨vs, g, q⟩ := R.dicAt r ey
              exact .inr (.inr (.inl ⟨rfl, .inl ⟨vs, g⟩⟩))
            · cases k
          · cases k
        have hline : (ap.endLine == cp.line) = true := beq_iff_eq.mpr hl
        unfold mName at hm
        split at hm
        · rename_i q
          cases hm
          obtain ⟨rfl, _⟩ := q
          exact pe_w (pe_bm PySem.F.plainAttrs_list PySem.F.slot_list_append PySem.F.type_list_append mt_append_T ho ha (base_of hco _) (few_of hes' hlen cp _) hline (star_of g1 es X.env) (plain_of g2 cp X.env)) (fin tl)
        · split at hm
          · rename_i q
            cases hm
            obtain ⟨rfl, _⟩ := q
            exact pe_w (pe_bm PySem.F.plainAttrs_list PySem.F.slot_list_extend PySem.F.type_list_extend mt_extend_T ho ha (base_of hco _) (few_of hes' hlen cp _) hline (star_of g1 es X.env) (plain_of g2 cp X.env)) (fin tl)
          · split at hm
            · rename_i q
              cases hm
              obtain ⟨rfl, _⟩ := q
              exact pe_w (pe_bm PySem.F.plainAttrs_dict PySem.F.slot_dict_get PySem.F.type_dict_get (mt_get_T (by have := cx.units; omega)) ho ha (base_of hco _) (few_of hes' hlen cp _) hline (star_of g1 es X.env) (plain_of g2 cp X.env)) (fin td)
            · cases hm
      · cases hes
end
end PF

end

section
set_option Elab.async false
set_option linter.all false
set_option maxRecDepth 100000
set_option maxHeartbeats 2000000
set_option autoImplicit false
/-! PfD4: subscripts, dicts, targets, what is walked. -/
namespace PF
open PySem L2 PySem.Spec PyProof.Rows

/-! ### a tuple turned round -/
section
variable {prog : Program} {w : World} {A : Around} {E : Value → Shared → Prop} {s : Shared}
theorem sliceApplied_rev {sl : Addr} {vs : Value} {n : Nat} {Q : Int × Int × Nat → Shared → Prop} (hs : s.heap.IsSliceOf sl .none .none vs) (ps : IsPart vs (some (-1)))
    (h : Q ((n : Int) - 1, -1, n) s) : wpAny (model prog w) A (Builtin.Slice.sliceApplied (.ref sl) (pure (n : Int))) Q E s := by
  obtain ⟨os, hos, hcs, hds⟩ := id hs
  unfold Builtin.Slice.sliceApplied Builtin.Slice.sliceFields
  refine wpAny_bind (wpAny_bind (wpAny_field hos hds (x := .none) rfl (wpAny_bind (wpAny_field hos hds (x := .none) rfl (wpAny_bind (wpAny_field hos hds (x := vs) rfl (wpAny_pure ?_)))))))
  refine wpAny_bind (HT.slicePart_ ps ?_)
  show wpAny _ _ (if ((-1 : Int) == 0) = true then _ else _) _ _ s
  rw [if_neg (by decide)]
  refine wpAny_bind (HT.slicePart_ .none (wpAny_bind (HT.slicePart_ .none (wpAny_bind (wpAny_pure ?_)))))
  show wpAny _ _ (pure ((n : Int) - 1, (-1 : Int), Builtin.Slice.slicePlaces ((n : Int) - 1) (-1) (-1))) _ _ s
  have e : Builtin.Slice.slicePlaces ((n : Int) - 1) (-1) (-1) = n := by
    unfold Builtin.Slice.slicePlaces
    have h1 : ¬ (-1 : Int) > 0 := by omega
    simp only [h1, if_false]
    split
    · have : (n : Int) - 1 - -1 - 1 = n - 1 := by omega
      rw [this]
      have : (- -1 : Int) = 1 := rfl
      rw [this, Int.ediv_one]; omega
    · omega
  rw [e]
  exact wpAny_pure h
theorem pick_rev (xs : Array Value) : ((List.range xs.size).filterMap fun (m : Nat) => xs[(((xs.size : Nat) : Int) - 1 + (m : Int) * -1).toNat]?).toArray = xs.toList.reverse.toArray := by
  congr 1
  have e : ∀ m ∈ List.range xs.size, xs[(((xs.size : Nat) : Int) - 1 + (m : Int) * -1).toNat]? = (xs.toList.reverse)[m]? := fun m hm => by
    have hm' : m < xs.size := List.mem_range.mp hm
    have h1 : (((xs.size : Nat) : Int) - 1 + (m : Int) * -1).toNat = xs.size - 1 - m := by omega
    rw [h1, List.getElem?_reverse (by simpa using hm')]
    simp
  have : ∀ (l : List Nat), (∀ m ∈ l, m ∈ List.range xs.size) → l.filterMap (fun (m : Nat) => xs[(((xs.size : Nat) : Int) - 1 + (m : Int) * -1).toNat]?) = l.filterMap fun m => (xs.toList.reverse)[m]? := by
    intro l hl
    induction l with
    | nil => rfl
    | cons a l ih =>
      simp only [List.filterMap_cons]
      rw [e a (hl a List.mem_cons_self), ih fun m hm => hl m (List.mem_cons_of_mem _ hm)]
  rw [this _ fun _ h => h]
  have hl : xs.size = xs.toList.reverse.length := by simp
  rw [hl]
  generalize xs.toList.reverse = ys
  have key : ∀ n, n ≤ ys.length → (List.range n).filterMap (fun m => ys[m]?) = ys.take n := by
    intro n
    induction n with
    | zero => intro _; simp
    | succ n ih =>
      intro hn
      have h1 : n < ys.length := by omega
      rw [List.range_succ, List.filterMap_append, ih (by omega), List.take_succ]
      congr 1
  rw [key _ (Nat.le_refl _), List.take_length]
theorem getItem_tuple_rev {t sl : Addr} {items : Array Value} {vs : Value} {Q : Value → Shared → Prop} (ht : IsTup s.heap t items) (hs : s.heap.IsSliceOf sl .none .none vs) (ps : IsPart vs (some (-1)))
    (h : Q (.ref s.heap.objs.size) { s with heap := s.heap.push { cls := .type "tuple", data := .seq items.toList.reverse.toArray } })
    (hsz : items.size ≤ sizeLine) : wpAny (model prog w) A (getItem (.ref t) (.ref sl)) Q E s := by
  have htake : sizeOk (.seq items.toList.reverse.toArray) := by
    show items.toList.reverse.toArray.size ≤ sizeLine
    rw [List.size_toArray, List.length_reverse, Array.length_toList]
    exact hsz
  obtain ⟨os, hos, hcs, hds⟩ := id hs
  have hTs : s.TypeIs (.ref sl) "slice" := ⟨os, hos, hcs⟩
  unfold getItem
  try with_reducible refine wpAny_holding ?_
  first | refine wpAny_bind (wpAny_pure ?_) | skip
  refine wpAny_bind (wpAny_sequenceKey ht.typeIs (by decide) ?_)
  refine wpAny_bind (wpAny_callSpecial?_slot (name := Str.ofString "__getitem__") ht.typeIs PyProof.Rows.slot_tuple_getitem
    (wpAny_call_entry PyProof.Rows.slot_tuple_getitem ht.typeIs entry_tuple_getitem ?_ (args_tuple_getitem _ _)))
  show wpAny _ _ (Builtin.Tuple.tupleItemsOf (.ref t) >>= _) _ _ s
  refine wpAny_bind (tupleItemsOf_ ht ?_)
  refine wpAny_bind (wpAny_typeOf hTs ?_)
  rw [if_pos (by decide)]
  refine wpAny_bind (sliceApplied_rev hs ps ?_)
  have hno : ¬ (((((items.size : Nat) : Int) - 1) == 0 && (-1 : Int) == 1 && items.size == items.size) = true) := by
    intro q
    rw [Bool.and_eq_true, Bool.and_eq_true] at q
    exact absurd q.1.2 (by decide)
  show wpAny _ _ (if ((((items.size : Nat) : Int) - 1) == 0 && (-1 : Int) == 1 && items.size == items.size) = true then _ else _) _ _ s
  rw [if_neg hno, pick_rev]
  first
    | exact wpAny_bind (m := Builtin.Tuple.tupleExact _) (wpAny_newObj_type (wpAny_pure ⟨_, rfl, wpAny_pure h⟩) htake)
    | exact wpAny_bind (m := Builtin.Tuple.tupleExact _) (wpAny_newObj_type (wpAny_bind (wpAny_pure (wpAny_pure ⟨_, rfl, wpAny_pure h⟩))) htake)
    | exact wpAny_bind (wpAny_bind (m := Builtin.Tuple.tupleExact _) (wpAny_newObj_type (wpAny_pure (wpAny_pure ⟨_, rfl, wpAny_pure h⟩)) htake))
    | exact wpAny_bind (wpAny_bind (m := Builtin.Tuple.tupleExact _) (wpAny_newObj_type (wpAny_pure ⟨_, rfl, wpAny_pure h⟩) htake))
end
section
variable {X : Cx} {A : Ad} {cl : Call} {G : Tab} {ar : Nat → Nat} {C : Cmp} {W : WX}
def tRevA (K : PySem.W.Frag) (te : TE) : TE := fun σ H Q => te σ H fun x H1 => ∃ a xs, x = .ref a ∧ ((SqL K H1 a xs ∧ ∀ p, H1 p = none → Q (.ref p) (upd H1 p (.lst xs.reverse))) ∨ (SqT K H1 a xs ∧ ∀ p, H1 p = none → Q (.ref p) (upd H1 p (.tup xs.reverse))))
theorem pe_revA {e : Expr} {te : TE} {k : Nat} {p1 p2 p3 pos : Pos} (he : PE X e te) : PE X (.Subscript e (.Slice none none (some (.UnaryOp .USub (.Constant (.int 1) k p1) p2)) p3) pos) (tRevA X.K te) := by
  refine ⟨fun pins s σ H Q I h => ?_⟩
  refine Subscript_ (thn (he.run pins s σ H _ I h) fun v s1 ⟨x, H1, I1, r1, q1⟩ => ?_)
  obtain ⟨a, xs, ex, hq⟩ := q1
  subst ex
  cases r1
  have hst : PO X (some (.UnaryOp .USub (.Constant (.int 1) k p1) p2)) (tPart (tUn (rU fun i => .int (-i)) (tC (.int 1)))) := po_some (pe_un un_neg pe_int)
  refine wpAny_Slice (thn (po_none.run pins s1 σ H1 (fun o H2 => o = none ∧ H2 = H1) I1 ⟨rfl, rfl⟩) fun vl s2 ⟨l, H2, I2, pl, el, e2⟩ => ?_)
  subst el e2
  refine thn (po_none.run pins s2 σ H2 (fun o H3 => o = none ∧ H3 = H2) I2 ⟨rfl, rfl⟩) fun vu s3 ⟨u, H3, I3, pu, eu, e3⟩ => ?_
  subst eu e3
  refine thn (hst.run pins s3 σ H3 (fun o H4 => o = some (-1) ∧ H4 = H3) I3 ⟨1, rfl, -1, rfl, rfl, rfl⟩) fun vs s4 ⟨o, H4, I4, ps, eo, e4⟩ => ?_
  subst eo e4
  have I5 : L2.Inv X pins σ H4 { s4 with heap := s4.heap.push { cls := .type "slice", data := .fields #[vl, vu, vs] } } := I4.kept (t' := s4.toks) fun b ob q => Heap.get?_push_of_some _ q
  show wpAny (model X.prog X.w) X.A (subscriptTail e (.Slice none none (some (.UnaryOp .USub (.Constant (.int 1) k p1) p2)) p3) (.ref a) (.ref s4.heap.objs.size)) (EP X pins σ Q) X.xe { s4 with heap := s4.heap.push { cls := .type "slice", data := .fields #[vl, vu, vs] } }
  rcases hq with ⟨hx, q⟩ | ⟨hx, q⟩
  · obtain ⟨its, r, ht, hz⟩ := I5.list hx
    have hlen := r.length
    refine tail_any (ops := [.ref a, .ref s4.heap.objs.size]) ht.isList.typeIs (PySem.slot_list_getitem.lookup) ?_ (by with_unfolding_all rfl)
    refine wpAny_getItem_list_slice ht.isList (Heap.IsSliceOf.new _ vl vu vs) pl pu ps (by decide) ?_ (by rw [List.size_toArray]; omega)
    rw [PySem.W.krv_pick]
    refine ⟨.ref _, _, I5.laid (t' := s4.toks) (o := .lst xs.reverse) (fun b ob q => Heap.get?_push_of_some _ q) (Nat.le_refl _) ?_, rfl, q _ (I5.hok.fresh (Nat.le_refl _))⟩
    exact ⟨by rw [List.length_reverse]; exact hz, _, 0, r.reverse, Heap.get?_push_size _ rfl⟩
  · obtain ⟨its, r, ht, hz⟩ := I5.tuple hx
    have hlen := r.length
    cases pl; cases pu
    refine tail_any (ops := [.ref a, .ref s4.heap.objs.size]) ht.typeIs (PyProof.Rows.slot_tuple_getitem.lookup) ?_ (by with_unfolding_all rfl)
    refine getItem_tuple_rev ht (Heap.IsSliceOf.new _ _ _ vs) ps ?_ (by rw [List.size_toArray]; omega)
    refine ⟨.ref _, _, I5.laid (t' := s4.toks) (o := .tup xs.reverse) (fun b ob q => Heap.get?_push_of_some _ q) (Nat.le_refl _) ?_, rfl, q _ (I5.hok.fresh (Nat.le_refl _))⟩
    exact ⟨by rw [List.length_reverse]; exact hz, _, r.reverse, ⟨_, Heap.get?_push_size _ rfl, rfl, _, rfl⟩⟩
theorem e_rev {a : Expr} {ca : E} {k : Nat} {p1 p2 p3 pos : Pos} (ha : PE X a (gE X A cl G W ca)) : PE X (.Subscript a (.Slice none none (some (.UnaryOp .USub (.Constant (.int 1) k p1) p2)) p3) pos) (gE X A cl G W (.rev ca)) := by
  refine pe_w (pe_revA ha) fun σ H Q h => ?_
  obtain ⟨ρ, st, sl, R, S, h⟩ := h
  unfold evE at h
  refine ⟨ρ, st, sl, R, S, h.seq fun t st1 v H1 ρ1 s1 R1 v1 h1 => ?_⟩
  unfold revT at h1
  split at h1
  · cases v1 with | tup k r => exact ⟨_, _, rfl, .inr ⟨k, h1.newTup R1 r.rev⟩⟩
  · cases v1 with | ref k =>
    split at h1
    · rename_i ys ey
      obtain ⟨vs, g, q⟩ := R1.lstAt k ey
      exact ⟨_, vs, rfl, .inl ⟨SqL.of g, h1.newLst R1 q.rev⟩⟩
    · exact h1.elim
  · exact h1.elim
theorem plainIx_of {n : Nat} {C : Cmp} {i : Expr} {c : E} (h : compE n C i = some c) : PlainIx i := by
  cases n with
  | zero => simp [compE] at h
  | succ n => cases i <;> first | (intro o i; rfl) | (simp [compE] at h)
theorem e_ix (cx : CxE X A cl G ar C W) {a i : Expr} {ca ci : E} {pos : Pos} (ha : PE X a (gE X A cl G W ca)) (hi : PE X i (gE X A cl G W ci)) (hp : PlainIx i) : PE X (.Subscript a i pos) (gE X A cl G W (.ix ca ci)) := by
  refine pe_w (pe_ix (ix_all (A := A) (by have := cx.units; omega)) ha hi hp) fun σ H Q h => ?_
  obtain ⟨ρ, st, sl, R, S, h⟩ := h
  unfold evE at h
  refine ⟨ρ, st, sl, R, S, h.seq fun t st1 v H1 ρ1 s1 R1 v1 h1 => ?_⟩
  refine ⟨ρ1, st1, sl, R1, S.step s1, h1.seq fun u st2 w H2 ρ2 s2 R2 w2 h2 => ?_⟩
  exact ⟨ρ2, st2, t, u, _, R2, v1.step s2, w2, h2⟩
theorem o_none : PO X none (tEo X.K A cl G W .none) := po_w po_none fun σ H Q h => by
  obtain ⟨ρ, st, sl, R, S, h⟩ := h
  unfold evEo at h
  exact h none H ρ .refl R rfl
theorem o_some {e : Expr} {c : E} (he : PE X e (gE X A cl G W c)) : PO X (some e) (tEo X.K A cl G W (.some c)) := po_w (po_some he) fun σ H Q h => by
  obtain ⟨ρ, st, sl, R, S, h⟩ := h
  unfold evEo at h
  refine ⟨ρ, st, sl, R, S, h.seq fun t st1 v H1 ρ1 s1 R1 v1 h1 => ?_⟩
  cases v1 <;> first | exact h1.elim | skip
  exact ⟨_, rfl, h1 _ H1 ρ1 .refl R1 rfl⟩
theorem e_slc {a : Expr} {lo hi : Option Expr} {ca : E} {cl' ch : Eo} {p pos : Pos} (ha : PE X a (gE X A cl G W ca)) (hl : PO X lo (tEo X.K A cl G W cl')) (hh : PO X hi (tEo X.K A cl G W ch)) : PE X (.Subscript a (.Slice lo hi none p) pos) (gE X A cl G W (.slc ca cl' ch)) := by
  refine pe_w (pe_slice (sl_all (A := A)) ha hl hh) fun σ H Q h => ?_
  obtain ⟨ρ, st, sl, R, S, h⟩ := h
  unfold evE at h
  refine ⟨ρ, st, sl, R, S, h.seq fun t st1 v H1 ρ1 s1 R1 v1 h1 => ?_⟩
  refine ⟨ρ1, st1, sl, R1, S.step s1, h1.seq fun u st2 w H2 ρ2 s2 R2 w2 h2 => ?_⟩
  subst w2
  refine ⟨ρ2, st2, sl, R2, (S.step s1).step s2, h2.seq fun u3 st3 w3 H3 ρ3 s3 R3 w3' h3 => ?_⟩
  subst w3'
  exact ⟨ρ3, st3, t, _, R3, (v1.step s2).step s3, h3⟩

/-! ### dicts -/
inductive RPs (K : PySem.W.Frag) (A : Ad) (ρ : List Addr) (H : Hp) : List (V × V) → List (T × T) → Prop
  | nil : RPs K A ρ H [] []
  | cons {x y : V} {ps : List (V × V)} {t u : T} {kvs : List (T × T)} : RT K A ρ H x t → isKey t = true → RT K A ρ H y u → RPs K A ρ H ps kvs → RPs K A ρ H ((x, y) :: ps) ((t, u) :: kvs)
def trs (K : PySem.W.Frag) (A : Ad) (cl : Call) (G : Tab) (W : WX) : KVs → List (TE × TE)
  | .nil => []
  | .cons k v r => (tE K A cl G W k, tE K A cl G W v) :: trs K A cl G W r
theorem pairs_seq : ∀ (c : KVs) {ρ : List Addr} {H : Hp} {st : Store} {sl : Sl} {σ : L2.St} {Q : List (V × V) → Hp → Prop} {W' : Value → Option Addr → Hp → Prop}, Rel X.K A ρ H st → RSl X.K A ρ H σ sl → (∀ k d H', W' k d H' → W k d σ H') →
    OkG X.K A (RPs X.K A) ρ H (evKV cl G c sl st) Q W' → tPairs (trs X.K A cl G W c) σ H Q
  | .nil, ρ, H, st, sl, σ, Q, W', R, S, hw, h => by
    unfold evKV at h
    exact h [] H ρ .refl R .nil
  | .cons k v r, ρ, H, st, sl, σ, Q, W', R, S, hw, h => by
    unfold evKV at h
    have h := h.mono (fun _ _ q => q) hw
    refine ⟨ρ, st, sl, R, S, h.seq fun t st1 x H1 ρ1 s1 R1 v1 h1 => ?_⟩
    refine ⟨ρ1, st1, sl, R1, S.step s1, h1.seq fun u st2 y H2 ρ2 s2 R2 v2 h2 => ?_⟩
    refine pairs_seq r R2 ((S.step s1).step s2) (fun _ _ _ q => q) (h2.seq (rr := RPs X.K A) fun kvs st3 ps H3 ρ3 s3 R3 v3 h3 => ?_)
    split at h3
    · rename_i c
      exact h3 _ H3 ρ3 .refl R3 (.cons ((v1.step s2).step s3) c (v2.step s3) v3)
    · exact h3.elim
theorem RPs.keys {K : PySem.W.Frag} {ρ : List Addr} {H : Hp} : ∀ {ps : List (V × V)} {kvs : List (T × T)}, RPs K A ρ H ps kvs → ∃ ks : List (Key × V), ps = ks.map (fun kv => (kV kv.1, kv.2)) ∧ RKs K A ρ H ks kvs ∧ ks.length = kvs.length
  | _, _, .nil => ⟨[], rfl, .nil, rfl⟩
  | _, _, .cons a b c r => by
    obtain ⟨ks, e, q, l⟩ := RPs.keys r
    obtain ⟨j, rfl⟩ := key_of_T a b
    exact ⟨(j, _) :: ks, by rw [e]; rfl, .cons a c q, by simp [l]⟩
theorem RKs.merge {K : PySem.W.Frag} {ρ : List Addr} {H : Hp} : ∀ {ks js : List (Key × V)} {kvs jvs : List (T × T)}, RKs K A ρ H ks kvs → RKs K A ρ H js jvs → RKs K A ρ H (mergeK js ks) (kvs.foldl (fun acc p => dPut p.1 p.2 acc) jvs)
  | _, _, _, _, .nil, h => h
  | _, _, _, _, .cons a b r, h => by
    have q := RKs.merge r (dPut_rel a b h)
    exact q
theorem e_dct {ks : List (Option Expr)} {vs : List Expr} {c : KVs} {pos : Pos} (hp : PPs X pos ks vs (trs X.K A cl G W c)) (hall : ks.all (·.isSome) = true) (hl : ks.length = vs.length) (h15 : ks.length ≤ 15) (hc : ks = [] → c = .nil) : PE X (.Dict ks vs pos) (gE X A cl G W (.dct c)) := by
  have core : ∀ σ H Q, gE X A cl G W (.dct c) σ H Q → tDisp (trs X.K A cl G W c) σ H Q := fun σ H Q h p hpn => by
    obtain ⟨ρ, st, sl, R, S, h⟩ := h
    unfold evE at h
    have s0 : Step X.K ρ H (ρ ++ [p]) (upd H p (.dK [])) := Step.push (Step.new hpn)
    refine pairs_seq c (R.alloc (c := .dic []) hpn fun ρ' s => ⟨[], upd_same, .nil⟩) (S.step s0) (fun _ _ _ q => q) ((h.base s0).seq (rr := RPs X.K A) fun kvs st' ps H2 ρ2 s2 R2 r2 h2 => ?_)
    split at h2
    · rename_i ed
      have ei : ρ2[st.length]? = some p := pre_get s2.pre R.idx
      obtain ⟨ks0, g, q⟩ := R2.dicAt ei ed
      cases q
      obtain ⟨ks', e1, q', l'⟩ := r2.keys
      split at h2
      · rename_i c15
        refine ⟨g, ks', e1, by rw [l']; exact c15, ?_⟩
        exact h2 (.ref p) _ ρ2 (Step.write g True.intro) (R2.write ei g True.intro fun s => ⟨_, upd_same, RKs.merge (q'.step s) .nil⟩) (.ref ei)
      · exact h2.elim
    · exact h2.elim
  by_cases h0 : ks = []
  · subst h0
    have hv : vs = [] := by cases vs with | nil => rfl | cons _ _ => cases hl
    subst hv
    refine pe_w pe_dnewK fun σ H Q h p hpn => ?_
    have q := core σ H Q h p hpn
    have hc := hc rfl
    subst hc
    obtain ⟨g, ks', e, _, q⟩ := q
    have : ks' = [] := by cases ks' with | nil => rfl | cons _ _ => cases e
    subst this
    have q : Q (.ref p) (upd (upd H p (.dK [])) p (.dK [])) := q
    rw [upd_upd] at q
    exact q
  · exact pe_w (pe_disp hp hall hl h0 h15) core
end
end PF

end

section
set_option Elab.async false
set_option linter.all false
set_option maxRecDepth 100000
set_option maxHeartbeats 2000000
set_option autoImplicit false
/-! PfD5: what is walked, targets, comprehensions. -/
namespace PF
open PySem L2 PySem.Spec PyProof.Rows
section
variable {X : Cx} {A : Ad} {cl : Call} {G : Tab} {ar : Nat → Nat} {C : Cmp} {W : WX}
section
variable {K : PySem.W.Frag} {ρ : List Addr} {H : Hp} {st : Store}
theorem rj_list {n : Nat} {a : Addr} (e : ρ[n]? = some a) : RJ K A ρ H (Itl K a) (.lst n) := by
  intro ρ' H' st' s R
  have e' : ρ'[n]? = some a := pre_get s.pre e
  refine ⟨fun i h => ?_, fun i t h => ?_⟩
  · simp only [Itv.len] at h
    obtain ⟨xs, e1, rfl⟩ := Option.map_eq_some_iff.mp h
    obtain ⟨vs, g, q⟩ := R.listAt e' e1
    exact ⟨vs, SqL.of g, by rw [q.length]; exact Nat.le_refl _⟩
  · simp only [Itv.get] at h
    obtain ⟨xs, e1, e2⟩ := Option.bind_eq_some_iff.mp h
    obtain ⟨vs, g, q⟩ := R.listAt e' e1
    obtain ⟨v, e3, r⟩ := q.get e2
    refine ⟨⟨vs, v, SqL.of g, e3⟩, fun x H'' y => ?_⟩
    obtain ⟨rfl, y⟩ := y
    have : x = v := Option.some.inj ((y vs (SqL.of g)).symm.trans e3)
    subst this
    exact ⟨.refl, R, r⟩
theorem rj_tup {a : Addr} {vs : List V} {xs : List T} (k : SqT K H a vs) (q : RTs K A ρ H vs xs) : RJ K A ρ H (Itt K a) (.tup xs) := by
  intro ρ' H' st' s R
  have k' := s.tup _ _ k
  have q' := q.step s
  refine ⟨fun i h => ?_, fun i t h => ?_⟩
  · simp only [Itv.len, Option.some.injEq] at h
    subst h
    exact ⟨vs, k', by rw [q.length]; exact Nat.le_refl _⟩
  · simp only [Itv.get] at h
    obtain ⟨v, e3, r⟩ := q'.get h
    refine ⟨⟨vs, v, k', e3⟩, fun x H'' y => ?_⟩
    obtain ⟨rfl, y⟩ := y
    have : x = v := Option.some.inj ((y vs k').symm.trans e3)
    subst this
    exact ⟨.refl, R, r⟩
theorem rj_rol {a : Addr} {vs : List V} {xs : List T} (k : RoL K H a vs) (q : RTs K A ρ H vs xs) : RJ K A ρ H (Itl K a) (.rol xs) := by
  intro ρ' H' st' s R
  have k' := (s.rol _ _ k).sql
  have q' := q.step s
  refine ⟨fun i h => ?_, fun i t h => ?_⟩
  · simp only [Itv.len, Option.some.injEq] at h
    subst h
    exact ⟨vs, k', by rw [q.length]; exact Nat.le_refl _⟩
  · simp only [Itv.get] at h
    obtain ⟨v, e3, r⟩ := q'.get h
    refine ⟨⟨vs, v, k', e3⟩, fun x H'' y => ?_⟩
    obtain ⟨rfl, y⟩ := y
    have : x = v := Option.some.inj ((y vs k').symm.trans e3)
    subst this
    exact ⟨.refl, R, r⟩
theorem rj_rng {lo : Int} {n : Nat} : RJ K A ρ H (Itr lo n) (.rng lo n) := by
  intro ρ' H' st' s R
  refine ⟨fun i h => ?_, fun i t h => ?_⟩
  · simp only [Itv.len, Option.some.injEq] at h
    subst h
    exact Nat.le_refl _
  · simp only [Itv.get] at h
    split at h
    · rename_i c
      cases h
      refine ⟨c, fun x H'' y => ?_⟩
      obtain ⟨rfl, rfl⟩ := y
      exact ⟨.refl, R, .int _⟩
    · cases h
theorem pair_new {ρ' : List Addr} {H' : Hp} {st' : Store} {T0 : Addr} {x y : V} {t u : T} (R : Rel K A ρ' H' st') (h : H' T0 = none) (r1 : RT K A ρ' H' x t) (r2 : RT K A ρ' H' y u) :
    Step K ρ' H' ρ' (upd H' T0 (.tup [x, y])) ∧ Rel K A ρ' (upd H' T0 (.tup [x, y])) st' ∧ RT K A ρ' (upd H' T0 (.tup [x, y])) (.ref T0) (.tup [t, u]) :=
  ⟨Step.new h, R.new h, .tup (SqT.of upd_same) (.cons (r1.step (Step.new h)) (.cons (r2.step (Step.new h)) .nil))⟩
theorem pairT_some {a b : Option T} {p : T} (h : pairT a b = some p) : ∃ t u, a = some t ∧ b = some u ∧ p = .tup [t, u] := by
  cases a with
  | none => cases h
  | some t => cases b with
    | none => cases h
    | some u => cases h; exact ⟨t, u, rfl, rfl, rfl⟩
theorem rj_enum {n : Nat} {a : Addr} (e : ρ[n]? = some a) : RJ K A ρ H (Ite K a) (.enumL n) := by
  intro ρ' H' st' s R
  have e' : ρ'[n]? = some a := pre_get s.pre e
  refine ⟨fun i h => ?_, fun i t h => ?_⟩
  · simp only [Itv.len] at h
    obtain ⟨xs, e1, rfl⟩ := Option.map_eq_some_iff.mp h
    obtain ⟨vs, g, q⟩ := R.listAt e' e1
    exact ⟨vs, SqL.of g, by rw [q.length]; exact Nat.le_refl _⟩
  · simp only [Itv.get] at h
    obtain ⟨t1, t2, h1, h2, rfl⟩ := pairT_some h
    obtain ⟨xs, e1, e2⟩ := Option.bind_eq_some_iff.mp h2
    obtain ⟨vs, g, q⟩ := R.listAt e' e1
    obtain ⟨v, e3, r⟩ := q.get e2
    cases h1
    refine ⟨⟨vs, v, SqL.of g, e3⟩, fun x H'' y => ?_⟩
    obtain ⟨T0, x0, rfl, hn, rfl, y⟩ := y
    have : x0 = v := Option.some.inj ((y vs (SqL.of g)).symm.trans e3)
    subst this
    exact pair_new R hn (.int _) r
theorem rj_zip {m n : Nat} {a b : Addr} (e : ρ[m]? = some a) (f : ρ[n]? = some b) : RJ K A ρ H (Itz K a b) (.zipL m n) := by
  intro ρ' H' st' s R
  have e' : ρ'[m]? = some a := pre_get s.pre e
  have f' : ρ'[n]? = some b := pre_get s.pre f
  refine ⟨fun i h => ?_, fun i t h => ?_⟩
  · simp only [Itv.len] at h
    split at h
    · rename_i xs ys e1 e2
      obtain ⟨vs, g, q⟩ := R.listAt e' e1
      obtain ⟨ws, g2, q2⟩ := R.listAt f' e2
      cases h
      refine ⟨vs, ws, SqL.of g, SqL.of g2, ?_⟩
      rw [q.length, q2.length]; omega
    · cases h
  · simp only [Itv.get] at h
    obtain ⟨t1, t2, h1, h2, rfl⟩ := pairT_some h
    obtain ⟨xs, e1, e2⟩ := Option.bind_eq_some_iff.mp h1
    obtain ⟨ys, e3, e4⟩ := Option.bind_eq_some_iff.mp h2
    obtain ⟨vs, g, q⟩ := R.listAt e' e1
    obtain ⟨v, e5, r⟩ := q.get e2
    obtain ⟨ws, g2, q2⟩ := R.listAt f' e3
    obtain ⟨w, e6, r2⟩ := q2.get e4
    refine ⟨⟨vs, ws, v, w, SqL.of g, SqL.of g2, e5, e6⟩, fun x H'' y => ?_⟩
    obtain ⟨T0, x0, y0, rfl, hn, rfl, y1, y2⟩ := y
    have h1 : x0 = v := Option.some.inj ((y1 vs (SqL.of g)).symm.trans e5)
    have h2 : y0 = w := Option.some.inj ((y2 ws (SqL.of g2)).symm.trans e6)
    subst h1; subst h2
    exact pair_new R hn r r2
theorem rj_zipT {a b : Addr} {vs ws : List V} {xs ys : List T} (k : SqT K H a vs) (q : RTs K A ρ H vs xs) (k2 : SqT K H b ws) (q2 : RTs K A ρ H ws ys) : RJ K A ρ H (RZ.ItzT K a b) (.zipT xs ys) := by
  intro ρ' H' st' s R
  have k' := s.tup _ _ k
  have q' := q.step s
  have k2' := s.tup _ _ k2
  have q2' := q2.step s
  refine ⟨fun i h => ?_, fun i t h => ?_⟩
  · simp only [Itv.len, Option.some.injEq] at h
    subst h
    refine ⟨vs, ws, k', k2', ?_⟩
    rw [q.length, q2.length]; omega
  · simp only [Itv.get] at h
    obtain ⟨t1, t2, h1, h2, rfl⟩ := pairT_some h
    obtain ⟨v, e5, r⟩ := q'.get h1
    obtain ⟨w, e6, r2⟩ := q2'.get h2
    refine ⟨⟨vs, ws, v, w, k', k2', e5, e6⟩, fun x H'' y => ?_⟩
    obtain ⟨T0, x0, y0, rfl, hn, rfl, y1, y2⟩ := y
    have h1 : x0 = v := Option.some.inj ((y1 vs k').symm.trans e5)
    have h2 : y0 = w := Option.some.inj ((y2 ws k2').symm.trans e6)
    subst h1; subst h2
    exact pair_new R hn r r2
end

theorem PI_or {tg e : Expr} {t u : TI} (h : PI X tg e t) (h' : PI X tg e u) : PI X tg e (fun σ H R => t σ H R ∨ u σ H R) := ⟨fun pins s σ H R I q => q.elim (h.run pins s σ H R I) (h'.run pins s σ H R I)⟩
theorem i_val {tg e : Expr} {c : E} (he : PE X e (gE X A cl G W c)) : PI X tg e (tIt X.K A cl G W (.val c)) := by
  refine pi_w (PI_or (pi_list he) (pi_tup he)) fun σ H Q h => ?_
  obtain ⟨ρ, st, sl, R, S, h⟩ := h
  unfold evIt at h
  cases ev : evE cl G c sl st with
  | stuck => rw [ev] at h; exact h.elim
  | exc x st1 =>
    rw [ev] at h
    exact .inl ⟨ρ, st, sl, R, S, by rw [ev]; exact h⟩
  | ok t st1 =>
    rw [ev, PF.R.bind_ok] at h
    unfold itVal at h
    split at h
    · rename_i n
      split at h
      · rename_i xs ex
        refine .inl ⟨ρ, st, sl, R, S, ?_⟩
        rw [ev]
        intro v H1 ρ1 s1 R1 v1
        cases v1 with | ref k =>
        obtain ⟨vs, g, q⟩ := R1.lstAt k ex
        exact ⟨_, rfl, ⟨vs, SqL.of g⟩, h _ H1 ρ1 s1 R1 (rj_list k)⟩
      · exact h.elim
    · refine .inr ⟨ρ, st, sl, R, S, ?_⟩
      rw [ev]
      intro v H1 ρ1 s1 R1 v1
      cases v1 with | tup k q => exact ⟨_, rfl, ⟨_, k⟩, h _ H1 ρ1 s1 R1 (rj_tup k q)⟩
    · refine .inl ⟨ρ, st, sl, R, S, ?_⟩
      rw [ev]
      intro v H1 ρ1 s1 R1 v1
      cases v1 with | rol k q => exact ⟨_, rfl, ⟨_, k.sql⟩, h _ H1 ρ1 s1 R1 (rj_rol k q)⟩
    · exact h.elim
theorem range_seq {ρ : List Addr} {H : Hp} {st : Store} {sl : Sl} {σ : L2.St} {cs : Es} {R' : L2.It → Hp → Prop} (R : Rel X.K A ρ H st) (S : RSl X.K A ρ H σ sl)
    (h : OkG X.K A (RJ X.K A) ρ H (evIt cl G (.range cs) sl st) R' fun k d H' => W k d σ H') :
    OkG X.K A (RTs X.K A) ρ H (evEs cl G cs sl st) (fun vs H1 => (∃ j : Int, vs = [.int j] ∧ -(2 ^ 62) ≤ j ∧ j < 2 ^ 62 ∧ R' (Itr 0 j.toNat) H1) ∨ ∃ i j : Int, vs = [.int i, .int j] ∧ (-(2 ^ 62) ≤ i ∧ i < 2 ^ 62 ∧ -(2 ^ 62) ≤ j ∧ j < 2 ^ 62) ∧ R' (Itr i (j - i).toNat) H1) (fun k d H' => W k d σ H') := by
  unfold evIt at h
  refine h.seq fun ts st1 vs H1 ρ1 s1 R1 v1 h1 => ?_
  unfold itRange at h1
  split at h1
  · rename_i j
    obtain ⟨x, rfl, r⟩ := one_rel v1
    cases r
    split at h1
    · rename_i c
      unfold bnd62 at c
      have c := inS_iff.mp c
      unfold P62 at c
      exact .inl ⟨j, rfl, by omega, by omega, h1 _ H1 ρ1 .refl R1 rj_rng⟩
    · exact h1.elim
  · rename_i i j
    obtain ⟨x, y, rfl, r, r'⟩ := two_rel v1
    cases r; cases r'
    split at h1
    · rename_i c
      rw [Bool.and_eq_true] at c
      unfold bnd62 at c
      have c1 := inS_iff.mp c.1
      have c2 := inS_iff.mp c.2
      unfold P62 at c1 c2
      exact .inr ⟨i, j, rfl, ⟨by omega, by omega, by omega, by omega⟩, h1 _ H1 ρ1 .refl R1 rj_rng⟩
    · exact h1.elim
  · exact h1.elim
theorem pa_len {es : List Expr} {t : TA} (h : PA X es t) {pins : List (Addr × Obj)} {s : Shared} {σ : L2.St} {H : Hp} {Q : List V → Hp → Prop} : True := trivial
theorem i_range {tg : Expr} {es : List Expr} {cs : Es} {p pos : Pos} {n : Nat} (cx : CxE X A cl G ar C W) (hg : glB C.sc "range" = true) (hm : C.gn.blt.contains "range" = true) (hl : es.length = 1 ∨ es.length = 2) (hes : compEs n C es = some cs) (ha : PA X es (tEs X.K A cl G W cs)) :
    PI X tg (.Call (.Name "range" p) es [] pos) (tIt X.K A cl G W (.range cs)) := by
  have one : ∀ {a : Expr} {t : TA}, PA X [a] t → ∀ {pins : List (Addr × Obj)} {s : Shared} {σ : L2.St} {H : Hp} {Q : List V → Hp → Prop}, True := fun _ => trivial
  match es, hl, hes, ha with
  | [a], _, hes, ha =>
    cases n with
    | zero => simp [compEs] at hes
    | succ n =>
      simp only [compEs] at hes
      split at hes
      · rename_i c c' g1 g2
        cases hes
        have hc' : c' = .nil := by
          cases n with
          | zero => simp [compEs] at g2
          | succ n => simp only [compEs] at g2; exact (Option.some.inj g2).symm
        subst hc'
        refine pi_w (pi_range1 (gl_of cx hg) (cx.blt _ hm) ha (star_of g1 [] X.env)) fun σ H Q h => ?_
        obtain ⟨ρ, st, sl, R, S, h⟩ := h
        have q := range_seq R S h
        refine ⟨ρ, st, sl, R, S, ?_⟩
        unfold evEs evEs at q ⊢
        rw [show ∀ {α : Type} (r : PF.R T) (f : T → Store → PF.R α), r.bind f = r.bind f from fun _ _ => rfl]
        cases ev : evE cl G c sl st with
        | stuck => rw [ev] at q; exact q.elim
        | exc x st1 => rw [ev] at q; exact q
        | ok t st1 =>
          rw [ev] at q
          intro vs H1 ρ1 s1 R1 v1
          obtain ⟨x, rfl, r⟩ := one_rel v1
          rcases q [x] H1 ρ1 s1 R1 v1 with q | ⟨i, j, e, _⟩
          · exact q
          · cases e
      · cases hes
  | [a, b], _, hes, ha =>
    cases n with
    | zero => simp [compEs] at hes
    | succ n =>
      simp only [compEs] at hes
      split at hes
      · rename_i c c' g1 g2
        cases hes
        cases n with
        | zero => simp [compEs] at g2
        | succ n =>
          simp only [compEs] at g2
          split at g2
          · rename_i c2 c3 g3 g4
            cases g2
            have hc' : c3 = .nil := by
              cases n with
              | zero => simp [compEs] at g4
              | succ n => simp only [compEs] at g4; exact (Option.some.inj g4).symm
            subst hc'
            refine pi_w (pi_range2 (gl_of cx hg) (cx.blt _ hm) ha (by rw [star_of g1, star_of g3]; rfl) (by rw [star_of g3]; rfl)) fun σ H Q h => ?_
            obtain ⟨ρ, st, sl, R, S, h⟩ := h
            have q := range_seq R S h
            refine ⟨ρ, st, sl, R, S, ?_⟩
            cases ev : evEs cl G (.cons c (.cons c2 .nil)) sl st with
            | stuck => rw [ev] at q; exact q.elim
            | exc x st1 => rw [ev] at q; exact q
            | ok ts st1 =>
              rw [ev] at q
              intro vs H1 ρ1 s1 R1 v1
              rcases q vs H1 ρ1 s1 R1 v1 with ⟨j, e, _⟩ | q
              · exfalso
                have l2 : ts.length = 2 := by
                  unfold evEs evEs evEs at ev
                  cases e1 : evE cl G c sl st with
                  | stuck => rw [e1] at ev; cases ev
                  | exc x st1 => rw [e1] at ev; cases ev
                  | ok t1 st2 =>
                    rw [e1, PF.R.bind_ok] at ev
                    cases e2 : evE cl G c2 sl st2 with
                    | stuck => rw [e2] at ev; cases ev
                    | exc x st1 => rw [e2] at ev; cases ev
                    | ok t2 st3 => rw [e2] at ev; cases ev; rfl
                have := v1.length
                rw [e, l2] at this
                cases this
              · exact q
          · cases g2
      · cases hes
theorem i_enum {elts : List Expr} {kk : Nat} {tp : Pos} {a : Expr} {c : E} {p pos : Pos} {n : Nat} (cx : CxE X A cl G ar C W) (hg : glB C.sc "enumerate" = true) (hm : C.gn.blt.contains "enumerate" = true) (hc : compE n C a = some c) (ha : PE X a (gE X A cl G W c)) :
    PI X (.Tuple elts kk tp) (.Call (.Name "enumerate" p) [a] [] pos) (tIt X.K A cl G W (.enum c)) := by
  refine pi_w (pi_enum (gl_of cx hg) (cx.blt _ hm) (pa_cons ha pa_nil (star_of hc [] X.env)) (star_of hc [] X.env)) fun σ H Q h => ?_
  obtain ⟨ρ, st, sl, R, S, h⟩ := h
  unfold evIt at h
  refine ⟨ρ, st, sl, R, S, h.seq fun t st1 v H1 ρ1 s1 R1 v1 h1 => ?_⟩
  unfold itEnum at h1
  split at h1
  · rename_i n
    split at h1
    · rename_i xs ex
      cases v1 with | ref k =>
      obtain ⟨vs, g, q⟩ := R1.lstAt k ex
      exact ⟨_, vs, rfl, SqL.of g, h1 _ H1 ρ1 .refl R1 (rj_enum k)⟩
    · exact h1.elim
  · exact h1.elim
theorem i_zip {elts : List Expr} {kk : Nat} {tp : Pos} {a b : Expr} {c d : E} {p pos : Pos} {n m : Nat} (cx : CxE X A cl G ar C W) (hg : glB C.sc "zip" = true) (hm : C.gn.blt.contains "zip" = true) (hc : compE n C a = some c) (ha : PE X a (gE X A cl G W c)) (hd : compE m C b = some d) (hb : PE X b (gE X A cl G W d)) :
    PI X (.Tuple elts kk tp) (.Call (.Name "zip" p) [a, b] [] pos) (tIt X.K A cl G W (.zip c d)) := by
  refine pi_w (RZ.pi_zipA (gl_of cx hg) (cx.blt _ hm) (pa_cons ha (pa_cons hb pa_nil (star_of hd [] X.env)) (star_of hc [b] X.env)) (star_of hc [b] X.env) (by rw [star_of hd [] X.env]; rfl)) fun σ H Q h => ?_
  obtain ⟨ρ, st, sl, R, S, h⟩ := h
  unfold evIt at h
  refine ⟨ρ, st, sl, R, S, h.seq fun t st1 v H1 ρ1 s1 R1 v1 h1 => ?_⟩
  refine ⟨ρ1, st1, sl, R1, S.step s1, h1.seq fun u st2 w H2 ρ2 s2 R2 w2 h2 => ?_⟩
  have v2 := v1.step s2
  unfold itZip at h2
  split at h2
  · cases v2 with | ref k => cases w2 with | ref k2 =>
    split at h2
    · rename_i xs ys e1 e2
      obtain ⟨vs, g, q⟩ := R2.lstAt k e1
      obtain ⟨ws, g2, q2⟩ := R2.lstAt k2 e2
      exact ⟨_, _, vs, ws, rfl, .inl ⟨SqL.of g, SqL.of g2, h2 _ H2 ρ2 .refl R2 (rj_zip k k2)⟩⟩
    · exact h2.elim
  · cases v2 with | tup k q => cases w2 with | tup k2 q2 =>
    exact ⟨_, _, _, _, rfl, .inr ⟨k, k2, h2 _ H2 ρ2 .refl R2 (rj_zipT k q k2 q2)⟩⟩
  · exact h2.elim

/-! ### slots -/
theorem wipe_get (σ : L2.St) : ∀ (vs : List Nat) (j : Nat), (wipe σ vs)[j]? = if j ∈ vs then (if j < σ.length then some none else none) else σ[j]?
  | [], j => by simp [wipe]
  | v :: vs, j => by
    have ih := wipe_get σ vs j
    unfold wipe
    by_cases e : v = j
    · subst e
      rw [if_pos List.mem_cons_self]
      by_cases hl : v < σ.length
      · rw [if_pos hl, List.getElem?_set_self (by rw [wipe_length]; exact hl)]
      · rw [if_neg hl, List.getElem?_eq_none (by rw [List.length_set, wipe_length]; omega)]
    · rw [List.getElem?_set_ne e, ih]
      have : (j ∈ v :: vs) ↔ j ∈ vs := by simp [List.mem_cons, Ne.symm e]
      by_cases h : j ∈ vs
      · rw [if_pos h, if_pos (this.mpr h)]
      · rw [if_neg h, if_neg (fun q => h (this.mp q))]
theorem wipe_set {σ : L2.St} {i : Nat} {x : Option V} {vs : List Nat} (h : i ∈ vs) : wipe (σ.set i x) vs = wipe σ vs := by
  apply List.ext_getElem?
  intro j
  rw [wipe_get, wipe_get]
  by_cases hj : j ∈ vs
  · rw [if_pos hj, if_pos hj, List.length_set]
  · rw [if_neg hj, if_neg hj, List.getElem?_set_ne (fun e => hj (by rw [← e]; exact h))]
theorem wipeL_length (sl : Sl) : ∀ vs : List Nat, (wipeL sl vs).length = sl.length
  | [] => rfl
  | v :: vs => by unfold wipeL; rw [List.length_set, wipeL_length sl vs]
theorem wipeL_some {sl : Sl} {i : Nat} {x : T} : ∀ {vs : List Nat}, (wipeL sl vs)[i]? = some (some x) → sl[i]? = some (some x) ∧ i ∉ vs
  | [], h => ⟨h, by simp⟩
  | v :: vs, h => by
    unfold wipeL at h
    by_cases hi : v = i
    · subst hi
      by_cases hv : v < (wipeL sl vs).length
      · rw [List.getElem?_set_self hv] at h; cases h
      · rw [List.getElem?_eq_none (by simpa using hv)] at h; cases h
    · rw [List.getElem?_set_ne hi] at h
      obtain ⟨h1, h2⟩ := wipeL_some h
      exact ⟨h1, by simp only [List.mem_cons, not_or]; exact ⟨fun e => hi e.symm, h2⟩⟩
theorem RSl.wipe {K : PySem.W.Frag} {ρ : List Addr} {H : Hp} {σ : L2.St} {sl : Sl} (S : RSl K A ρ H σ sl) (vs : List Nat) : RSl K A ρ H (L2.wipe σ vs) (wipeL sl vs) := by
  refine ⟨by rw [wipe_length, wipeL_length]; exact S.len, fun i t e => ?_⟩
  obtain ⟨e1, e2⟩ := wipeL_some e
  obtain ⟨v, e3, r⟩ := S.at_ i t e1
  exact ⟨v, by rw [wipe_get, if_neg e2]; exact e3, r⟩
theorem RSl.set {K : PySem.W.Frag} {ρ : List Addr} {H : Hp} {σ : L2.St} {sl : Sl} {v : V} {t : T} (S : RSl K A ρ H σ sl) (i : Nat) (r : RT K A ρ H v t) : RSl K A ρ H (σ.set i (some v)) (sl.set i (some t)) := by
  refine ⟨by rw [List.length_set, List.length_set]; exact S.len, fun j u e => ?_⟩
  by_cases hi : i = j
  · subst hi
    have hl : i < sl.length := by
      by_cases q : i < sl.length
      · exact q
      · rw [List.getElem?_eq_none (by rw [List.length_set]; omega)] at e; cases e
    rw [List.getElem?_set_self hl] at e
    cases e
    exact ⟨v, List.getElem?_set_self (by rw [S.len]; exact hl), r⟩
  · rw [List.getElem?_set_ne hi] at e
    obtain ⟨w, e1, q⟩ := S.at_ j u e
    exact ⟨w, by rw [List.getElem?_set_ne hi]; exact e1, q⟩
theorem Out.refl {l : List Nat} {σ : L2.St} : Out l σ σ := fun _ _ => rfl
theorem Out.trans {l l' : List Nat} {σ σ1 σ2 : L2.St} (a : Out l σ σ1) (b : Out l' σ1 σ2) : Out (l ++ l') σ σ2 := fun vs h => (b vs fun i hi => h i (List.mem_append_right _ hi)).trans (a vs fun i hi => h i (List.mem_append_left _ hi))

/-! ### targets -/
theorem OkG.seq' {K : PySem.W.Frag} {ρ : List Addr} {H : Hp} {α β : Type} {rr rs : List Addr → Hp → β → α → Prop} {r : PF.R α} {Q : β → Hp → Prop} {W' : Value → Option Addr → Hp → Prop} (h : OkG K A rs ρ H r Q W') (hk : ∀ b H' ρ' a, rr ρ' H' b a → rs ρ' H' b a) : OkG K A rr ρ H r Q W' := by
  cases r with
  | ok a st' => exact fun b H' ρ' s' R' q => h b H' ρ' s' R' (hk _ _ _ _ q)
  | exc x st' => exact h
  | stuck => exact h
theorem g_nm (cx : CxE X A cl G ar C W) {x : Str} {pos : Pos} {i : Nat} (h1 : locB C x = true) (h2 : idx C.N x = some i) : PG X (.Name x pos) (tTg X.K A cl G (.nm i)) := by
  obtain ⟨l1, l2⟩ := loc_of cx h1
  refine pg_w (pg_name (i := i) cx.nd (by rw [cx.N]; exact idx_some h2) l1 l2) fun v σ H Q h => ?_
  obtain ⟨ρ, st, sl, t, R, S, r, h⟩ := h
  unfold evTg at h
  exact h (σ.set i (some v)) H ρ .refl R ⟨S.set i r, fun vs hv => wipe_set (hv i (by simp [Tg.slots]))⟩
theorem gs_nil : PGs X [] (tTgs X.K A cl G .nil) := pgs_w pgs_nil fun v σ H Q h => by
  obtain ⟨ρ, st, sl, ts, R, S, r, h⟩ := h
  cases r with
  | nil =>
    unfold evTgs at h
    exact ⟨rfl, h σ H ρ .refl R ⟨S, .refl⟩⟩
  | cons a b => unfold evTgs at h; exact h.elim
theorem tstar_of {n : Nat} {C : Cmp} {e : Expr} {c : Tg} (h : compTg n C e = some c) (es : List Expr) (env : PySem.Env) : assignEach (e :: es) env = (false, assign e env) :: assignEach es env := by
  cases n with
  | zero => simp [compTg] at h
  | succ n => cases e <;> first | rfl | (simp [compTg] at h)
theorem gs_cons {e : Expr} {es : List Expr} {c : Tg} {cs : Tgs} (he : PG X e (tTg X.K A cl G c)) (hs : PGs X es (tTgs X.K A cl G cs)) (hst : assignEach (e :: es) X.env = (false, assign e X.env) :: assignEach es X.env) : PGs X (e :: es) (tTgs X.K A cl G (.cons c cs)) := by
  refine pgs_w (pgs_cons he hs (by rw [hst]; rfl)) fun v σ H Q h => ?_
  obtain ⟨ρ, st, sl, ts, R, S, r, h⟩ := h
  cases r with
  | nil => unfold evTgs at h; exact h.elim
  | cons a b =>
    unfold evTgs at h
    refine ⟨_, _, rfl, ρ, st, sl, _, R, S, a, h.seq fun sl1 st1 σ1 H1 ρ1 s1 R1 v1 h1 => ?_⟩
    refine ⟨ρ1, st1, sl1, _, R1, v1.1, b.step s1, h1.seq' fun σ2 H2 ρ2 sl2 r2 => ⟨r2.1, v1.2.trans r2.2⟩⟩
theorem g_tup {es : List Expr} {k : Nat} {pos : Pos} {cs : Tgs} {n : Nat} (hc : X.calm = true) (h : PGs X es (tTgs X.K A cl G cs)) (hl : (assignEach es X.env).length = es.length) (hst : (assignEach es X.env).findIdx? (·.1) = none) (hlen : cs.len = es.length) : PG X (.Tuple es k pos) (tTg X.K A cl G (.tup cs)) := by
  refine pg_w (pg_tup hc h hl hst) fun v σ H Q h => ?_
  obtain ⟨ρ, st, sl, t, R, S, r, h⟩ := h
  unfold evTg at h
  split at h
  · rename_i xs
    cases r with | tup k q =>
    split at h
    · rename_i c
      exact ⟨_, _, rfl, k, by rw [q.length, ← hlen]; exact c, ρ, st, sl, xs, R, S, q, h⟩
    · exact h.elim
  · exact h.elim
end
end PF

end

section
set_option Elab.async false
set_option linter.all false
set_option maxRecDepth 100000
set_option maxHeartbeats 4000000
set_option autoImplicit false
/-! PfD6: comprehensions, and all expressions. -/
namespace PF
open PySem L2 PySem.Spec PyProof.Rows
section
variable {X : Cx} {A : Ad} {cl : Call} {G : Tab} {ar : Nat → Nat} {C : Cmp} {W : WX}
theorem g_sub (cx : CxE X A cl G ar C W) {o i : Expr} {co ci : E} {pos : Pos} (ho : PE X o (gE X A cl G W co)) (hi : PE X i (gE X A cl G W ci))
    (ha : ∀ v, assign (.Subscript o i pos) X.env v = (do
      let ov ← holding [v] (eval o X.env)
      let iv ← holding [v, ov] (eval i X.env)
      standAt pos
      holding [v, ov, iv] (setItem ov iv v)
      release [v, ov, iv] [])) : PG X (.Subscript o i pos) (tTg X.K A cl G (.sub co ci)) := by
  refine pg_w (pg_sub ho hi (set_all (A := A) (by have := cx.units; omega)) ha) fun v σ H Q h => ?_
  obtain ⟨ρ, st, sl, t, R, S, r, h⟩ := h
  unfold evTg at h
  have h := h.mono (fun _ _ q => q) (W' := fun k d H' => W k d σ H') fun _ _ _ z => False.elim z
  refine ⟨ρ, st, sl, R, S, h.seq fun t1 st1 v1 H1 ρ1 s1 R1 r1 h1 => ?_⟩
  refine ⟨ρ1, st1, sl, R1, S.step s1, h1.seq fun t2 st2 v2 H2 ρ2 s2 R2 r2 h2 => ?_⟩
  refine ⟨ρ2, st2, t1, t2, t, _, R2, r1.step s2, r2, (r.step s1).step s2, h2.seq fun _ st3 _ H3 ρ3 s3 R3 _ h3 => ?_⟩
  exact h3 σ H3 ρ3 .refl R3 ⟨((S.step s1).step s2).step s3, .refl⟩

/-! ### comprehensions -/
theorem c_none : PTs X [] (tCo X.K A cl G W .none) := pts_w pts_nil fun σ H Q h => by
  obtain ⟨ρ, st, sl, R, S, h⟩ := h
  unfold evC at h
  exact h true H ρ .refl R rfl
theorem c_some {e : Expr} {c : E} (he : PT X e (tTt X.K A cl G W c)) : PTs X [e] (tCo X.K A cl G W (.some c)) := pts_w (pts_one he) fun σ H Q h => by
  obtain ⟨ρ, st, sl, R, S, h⟩ := h
  unfold evC at h
  exact ⟨ρ, st, sl, R, S, h⟩
/-- the loop of a comprehension -/
theorem comp_loop {J : L2.It} {j : Itv} {own : List Nat} {tg : Tg} {c : Eo} {e : E} {σ : L2.St} {D : Addr} {ρ1 : List Addr} {H1 : Hp} {sl : Sl} {d : Nat} {Q : VK} (hj : RJ X.K A ρ1 H1 J j) (S : RSl X.K A ρ1 H1 σ sl) (hsl : ∀ i ∈ tg.slots, i ∈ own)
    {ρ0 : List Addr} {H0 : Hp} {st0 : Store} {k : Nat} (s0 : Step X.K ρ1 H1 ρ0 H0) (R0 : Rel X.K A ρ0 H0 st0) (hD : ρ0[d]? = some D)
    (h : OkG X.K A (fun _ _ (_ : Unit) (_ : Unit) => True) ρ0 H0 (compL j d (fun x st => (evTg cl G tg x (wipeL sl own) st).bind fun sl' st => (evC cl G c sl' st).bind fun b st =>
        if b then (evE cl G e sl' st).bind fun y st => .ok (some y) st else .ok none st) k 0 st0) (fun _ H' => Q (.ref D) H') (fun _ _ _ => False)) :
    ∃ Wn : Nat → Nat → Hp → Prop, (∃ m, Wn 0 m H0) ∧ ∀ i m H, Wn i m H →
      (J.stop i H ∧ Q (.ref D) H) ∨ (J.go i H ∧ ∃ Nx : Hp → Prop, (∀ H', Nx H' → ∃ m', m' < m ∧ Wn (i + 1) m' H') ∧ ∀ x H', J.yld i H x H' → tTg X.K A cl G tg x (wipe σ own) H' fun σ2 H2 => wipe σ2 own = wipe σ own ∧ tCo X.K A cl G WF0 c σ2 H2 fun b H3 =>
        if b = true then tE X.K A cl G WF0 e σ2 H3 fun y H4 => ∃ acc, H4 D = some (.lst acc) ∧ acc.length < sizeLine ∧ Nx (upd H4 D (.lst (acc ++ [y]))) else Nx H3) := by
  refine ⟨fun i m H => ∃ ρ st, Step X.K ρ1 H1 ρ H ∧ Rel X.K A ρ H st ∧ ρ[d]? = some D ∧ OkG X.K A (fun _ _ (_ : Unit) (_ : Unit) => True) ρ H (compL j d (fun x st => (evTg cl G tg x (wipeL sl own) st).bind fun sl' st => (evC cl G c sl' st).bind fun b st =>
        if b then (evE cl G e sl' st).bind fun y st => .ok (some y) st else .ok none st) m i st) (fun _ H' => Q (.ref D) H') (fun _ _ _ => False), ⟨k, ρ0, st0, s0, R0, hD, h⟩, ?_⟩
  rintro i m H ⟨ρ, st, s, R, hd, h⟩
  obtain ⟨hstop, hgo⟩ := hj ρ H st s R
  cases m with
  | zero =>
    unfold compL at h
    split at h
    · rename_i e0
      exact .inl ⟨hstop i e0, h () H ρ .refl R True.intro⟩
    · exact h.elim
  | succ m =>
    unfold compL at h
    split at h
    · rename_i t et
      obtain ⟨g1, g2⟩ := hgo i t et
      refine .inr ⟨g1, fun H' => ∃ ρ st, Step X.K ρ1 H1 ρ H' ∧ Rel X.K A ρ H' st ∧ ρ[d]? = some D ∧ OkG X.K A (fun _ _ (_ : Unit) (_ : Unit) => True) ρ H' (compL j d (fun x st => (evTg cl G tg x (wipeL sl own) st).bind fun sl' st => (evC cl G c sl' st).bind fun b st =>
        if b then (evE cl G e sl' st).bind fun y st => .ok (some y) st else .ok none st) m (i + 1) st) (fun _ H' => Q (.ref D) H') (fun _ _ _ => False), fun H' q => ⟨m, Nat.lt_succ_self _, q⟩, fun x H' y => ?_⟩
      obtain ⟨sy, Ry, rx⟩ := g2 x H' y
      have h := h.base sy
      simp only [PF.R.bind_assoc] at h
      refine ⟨ρ, st, wipeL sl own, t, Ry, (S.step (s.trans sy)).wipe own, rx, h.seq fun sl2 st2 σ2 H2 ρ2 s2 R2 r2 h2 => ?_⟩
      have ew : wipe σ2 own = wipe σ own := by
        rw [r2.2 own hsl]
        apply List.ext_getElem?
        intro q
        rw [wipe_get, wipe_get]
        by_cases hq : q ∈ own
        · rw [if_pos hq, if_pos hq, wipe_length]
        · simp [hq, wipe_get]
      refine ⟨ew, ρ2, st2, sl2, R2, r2.1, h2.seq fun b st3 b' H3 ρ3 s3 R3 eb h3 => ?_⟩
      subst eb
      have s03 : Step X.K ρ1 H1 ρ3 H3 := (s.trans sy).trans (s2.trans s3)
      have hd3 : ρ3[d]? = some D := pre_get (s2.trans s3).pre hd
      cases b' with
      | false =>
        rw [if_neg Bool.false_ne_true]
        rw [if_neg Bool.false_ne_true, PF.R.bind_ok] at h3
        exact ⟨ρ3, st3, s03, R3, hd3, h3⟩
      | true =>
        rw [if_pos rfl]
        rw [if_pos rfl] at h3
        simp only [PF.R.bind_assoc] at h3
        refine ⟨ρ3, st3, sl2, R3, r2.1.step s3, h3.seq fun u st4 y4 H4 ρ4 s4 R4 r4 h4 => ?_⟩
        rw [PF.R.bind_ok] at h4
        have hd4 : ρ4[d]? = some D := pre_get s4.pre hd3
        simp only at h4
        split at h4
        · rename_i acc ea
          obtain ⟨vs, g, q⟩ := R4.lstAt hd4 ea
          split at h4
          · rename_i c4
            refine ⟨vs, g, by rw [q.length]; exact c4, ρ4, _, s03.trans (s4.trans (Step.write g True.intro)), R4.write (c := .lst (acc ++ [u])) hd4 g True.intro fun s5 => ⟨_, upd_same, (q.step s5).append (.cons (r4.step s5) .nil)⟩, hd4, h4.base (Step.write g True.intro)⟩
          · exact h4.elim
        · exact h4.elim
    · exact h.elim
theorem blkE (cx : CxE X A cl G ar C W) {scope : Scope} (s : Shared) (H : Hp) (Cc : Addr) (cls : List (Str × Addr)) (fp : List Addr) :
    CxE (X.blk s H scope (compEnvC scope cls Cc X.env) fp) A cl G ar { C with sc := relS scope C.sc, fnB := fun x => scope.names.lookup x == some .cell, top := false } WF0 :=
  ⟨cx.calm, cx.N, cx.nd, by rw [← cx.sc]; rfl, rfl, cx.units, takes0, cx.blt, cx.fns, cx.art, cx.cst, cx.cls⟩
theorem e_comp (cx : CxE X A cl G ar C W) (hc : C.calm = true) {elt tg it : Expr} {ifs : List Expr} {scope : Scope} {pos : Pos} {cit : PF.It} {ctg : Tg} {cc : Eo} {ce : E} (hb : blkC C.N C.sc scope (ownOf C.N scope) = true)
    (hi : PI X tg it (tIt X.K A cl G W cit)) (hsl : ∀ i ∈ ctg.slots, i ∈ (ownOf C.N scope).map (·.2))
    (hg : ∀ (s : Shared) (H : Hp) (Cc : Addr) (cls : List (Str × Addr)) (fp : List Addr), PG (X.blk s H scope (compEnvC scope cls Cc X.env) fp) tg (tTg X.K A cl G ctg))
    (ht : ∀ (s : Shared) (H : Hp) (Cc : Addr) (cls : List (Str × Addr)) (fp : List Addr), PTs (X.blk s H scope (compEnvC scope cls Cc X.env) fp) ifs (tCo X.K A cl G WF0 cc))
    (he : ∀ (s : Shared) (H : Hp) (Cc : Addr) (cls : List (Str × Addr)) (fp : List Addr), PE (X.blk s H scope (compEnvC scope cls Cc X.env) fp) elt (tE X.K A cl G WF0 ce))
    (hs : ∀ x, foldedSetIterable it X.env x = pure x) :
    BlkOk X.N X.env.scope scope (ownOf C.N scope) ∧ ∀ σ H Q, gE X A cl G W (.comp ctg cit cc ce ((ownOf C.N scope).map (·.2))) σ H Q → tLc (tIt X.K A cl G W cit) (tTg X.K A cl G ctg) (tCo X.K A cl G WF0 cc) (tE X.K A cl G WF0 ce) ((ownOf C.N scope).map (·.2)) σ H Q := by
  refine ⟨by rw [cx.N, cx.sc]; exact blkOk_by hb, fun σ H Q h => ?_⟩
  obtain ⟨ρ, st, sl, R, S, h⟩ := h
  unfold evE at h
  refine ⟨ρ, st, sl, R, S, h.seq fun j st1 J H1 ρ1 s1 R1 rj h1 D hD => ?_⟩
  split at h1
  · rename_i k ek
    refine comp_loop (own := (ownOf C.N scope).map (·.2)) (k := k) (d := st1.length) rj (S.step s1) hsl (Step.push (Step.new hD)) (R1.alloc (c := .lst []) hD fun ρ' s => ⟨[], upd_same, .nil⟩) R1.idx ?_
    have sD : Step X.K ρ1 H1 (ρ1 ++ [D]) (upd H1 D (.lst [])) := Step.push (Step.new hD)
    have iD : (ρ1 ++ [D])[st1.length]? = some D := R1.idx
    revert h1
    generalize compL j st1.length _ k 0 (st1 ++ [.lst []]) = r
    intro h1
    cases r with
    | ok u st2 => exact fun _ H' ρ' s' R' _ => h1 (.ref D) H' ρ' (sD.trans s') R' (.ref (pre_get s'.pre iD))
    | exc x st2 => exact h1.elim
    | stuck => exact h1.elim
  · exact h1.elim
theorem fold_of {n : Nat} {C : Cmp} {e tg : Expr} {c : PF.It} (h : compIt n C e tg = some c) (env : PySem.Env) (x : Value) : foldedSetIterable e env x = pure x := by
  cases n with
  | zero => simp [compIt] at h
  | succ n =>
    cases e <;> first | rfl | skip
    simp only [compIt] at h
    cases n with
    | zero => simp [compE] at h
    | succ n => simp [compE] at h

/-! ### all expressions -/
structure AllE (n : Nat) : Prop where
  ex : ∀ {C : Cmp} {e : Expr} {c : E}, compE n C e = some c → ∀ {X : Cx} {A : Ad} {cl : Call} {G : Tab} {ar : Nat → Nat} {W : WX}, CxE X A cl G ar C W → PE X e (gE X A cl G W c) ∧ PT X e (tTt X.K A cl G W c)
  bl : ∀ {C : Cmp} {op : BoolOp} {es : List Expr} {pos : Pos} {c : E}, compE n C (.BoolOp op es pos) = some c → ∀ {X : Cx} {A : Ad} {cl : Call} {G : Tab} {ar : Nat → Nat} {W : WX}, CxE X A cl G ar C W → PW X (.BoolOp op es pos) (tTt X.K A cl G W c)
  es : ∀ {C : Cmp} {es : List Expr} {c : Es}, compEs n C es = some c → ∀ {X : Cx} {A : Ad} {cl : Call} {G : Tab} {ar : Nat → Nat} {W : WX}, CxE X A cl G ar C W → PA X es (tEs X.K A cl G W c)
  kv : ∀ {C : Cmp} {ks : List (Option Expr)} {vs : List Expr} {c : KVs}, compKV n C ks vs = some c → ∀ {X : Cx} {A : Ad} {cl : Call} {G : Tab} {ar : Nat → Nat} {W : WX}, CxE X A cl G ar C W → ∀ pos, PPs X pos ks vs (trs X.K A cl G W c) ∧ ks.all (·.isSome) = true ∧ ks.length = vs.length ∧ (ks = [] → c = .nil)
  eo : ∀ {C : Cmp} {e : Option Expr} {c : Eo}, compEo n C e = some c → ∀ {X : Cx} {A : Ad} {cl : Call} {G : Tab} {ar : Nat → Nat} {W : WX}, CxE X A cl G ar C W → PO X e (tEo X.K A cl G W c)
  fs : ∀ {C : Cmp} {es : List Expr} {c : Eo}, compIfs n C es = some c → ∀ {X : Cx} {A : Ad} {cl : Call} {G : Tab} {ar : Nat → Nat} {W : WX}, CxE X A cl G ar C W → PTs X es (tCo X.K A cl G W c)
  it : ∀ {C : Cmp} {e tg : Expr} {c : PF.It}, compIt n C e tg = some c → ∀ {X : Cx} {A : Ad} {cl : Call} {G : Tab} {ar : Nat → Nat} {W : WX}, CxE X A cl G ar C W → PI X tg e (tIt X.K A cl G W c)
  tg : ∀ {C : Cmp} {e : Expr} {c : Tg}, compTg n C e = some c → ∀ {X : Cx} {A : Ad} {cl : Call} {G : Tab} {ar : Nat → Nat} {W : WX}, CxE X A cl G ar C W → PG X e (tTg X.K A cl G c)
  ts : ∀ {C : Cmp} {es : List Expr} {c : Tgs}, compTgs n C es = some c → ∀ {X : Cx} {A : Ad} {cl : Call} {G : Tab} {ar : Nat → Nat} {W : WX}, CxE X A cl G ar C W → PGs X es (tTgs X.K A cl G c) ∧ (assignEach es X.env).length = es.length ∧ (assignEach es X.env).findIdx? (·.1) = none ∧ c.len = es.length
end
end PF

end

section
set_option Elab.async false
set_option linter.all false
set_option maxRecDepth 100000
set_option maxHeartbeats 8000000
set_option autoImplicit false
/-! PfD7: every expression that is compiled is run as the code is. -/
namespace PF
open PySem L2 PySem.Spec PyProof.Rows
section
theorem both {X : Cx} {A : Ad} {cl : Call} {G : Tab} {W : WX} {e : Expr} {c : E} (q : PE X e (gE X A cl G W c)) (he : ∀ whole, PySem.isTrue e X.env whole = (do let v ← whole; standAt e.pos; holding [v] (truthy v))) : PE X e (gE X A cl G W c) ∧ PT X e (tTt X.K A cl G W c) := ⟨q, t_of_e q he⟩
theorem allE : ∀ n, AllE n
  | 0 => ⟨fun h => by simp [compE] at h, fun h => by simp [compE] at h, fun h => by simp [compEs] at h, fun h => by simp [compKV] at h, fun h => by simp [compEo] at h, fun h => by simp [compIfs] at h,
      fun h => by simp [compIt] at h, fun h => by simp [compTg] at h, fun h => by simp [compTgs] at h⟩
  | n + 1 => by
    have ih := allE n
    constructor
    · intro C e c h X A cl G ar W cx
      simp only [compE] at h
      split at h
      · -- a name
        split at h
        · cases h
        · rename_i c1
          split at h
          · rename_i c2
            obtain ⟨i, e1, rfl⟩ := Option.map_eq_some_iff.mp h
            have q := e_var cx (pos := by assumption) c1 c2 e1
            exact ⟨q, t_of_e q fun _ => rfl⟩
          · split at h
            · rename_i c2
              obtain ⟨i, e1, rfl⟩ := Option.map_eq_some_iff.mp h
              have q := e_glb cx (pos := by assumption) c1 c2 e1
              exact ⟨q, t_of_e q fun _ => rfl⟩
            · cases h
      · obtain ⟨t, e1, rfl⟩ := Option.map_eq_some_iff.mp h
        exact ⟨e_cst e1, t_of_e (e_cst e1) fun _ => rfl⟩
      · obtain ⟨t, e1, rfl⟩ := Option.map_eq_some_iff.mp h
        exact ⟨e_tup (ih.es e1 cx), t_of_e (e_tup (ih.es e1 cx)) fun _ => rfl⟩
      · obtain ⟨t, e1, rfl⟩ := Option.map_eq_some_iff.mp h
        exact ⟨e_lst (ih.es e1 cx), t_of_e (e_lst (ih.es e1 cx)) fun _ => rfl⟩
      · split at h
        · rename_i c15
          obtain ⟨t, e1, rfl⟩ := Option.map_eq_some_iff.mp h
          obtain ⟨p1, p2, p3, p4⟩ := ih.kv e1 cx (by assumption)
          exact ⟨e_dct p1 p2 p3 c15 p4, t_of_e (e_dct p1 p2 p3 c15 p4) fun _ => rfl⟩
        · cases h
      · split at h
        · rename_i e1 e2
          cases h
          exact ⟨e_bin (ih.ex e1 cx).1 (ih.ex e2 cx).1, t_of_e (e_bin (ih.ex e1 cx).1 (ih.ex e2 cx).1) fun _ => rfl⟩
        · cases h
      · obtain ⟨t, e1, rfl⟩ := Option.map_eq_some_iff.mp h
        exact ⟨e_neg (ih.ex e1 cx).1, t_of_e (e_neg (ih.ex e1 cx).1) fun _ => rfl⟩
      · obtain ⟨t, e1, rfl⟩ := Option.map_eq_some_iff.mp h
        exact ⟨e_not (ih.ex e1 cx).1, t_not (ih.ex e1 cx).2⟩
      · split at h
        · rename_i e1 e2
          cases h
          exact ⟨e_cmp cx (ih.ex e1 cx).1 (ih.ex e2 cx).1 (mark_of _ e2), t_cmp cx (ih.ex e1 cx).1 (ih.ex e2 cx).1 (mark_of _ e2)⟩
        · cases h
      · split at h
        · rename_i e1 e2 e3
          cases h
          exact ⟨e_chn cx (ih.ex e1 cx).1 (ih.ex e2 cx).1 (ih.ex e3 cx).1 (mark_of _ e3), t_chn cx (ih.ex e1 cx).1 (ih.ex e2 cx).1 (ih.ex e3 cx).1 (mark_of _ e3)⟩
        · cases h
      · exact ⟨pe_one (ih.ex h cx).1, (pw_and1 (ih.ex h cx).2).pt⟩
      · exact ⟨pe_one (ih.ex h cx).1, (pw_or1 (ih.ex h cx).2).pt⟩
      · split at h
        · rename_i e1 e2
          cases h
          exact ⟨e_and (ih.ex e1 cx).1 (ih.ex e2 cx).1, (w_and (ih.ex e1 cx).2 (ih.bl e2 cx)).pt⟩
        · cases h
      · split at h
        · rename_i e1 e2
          cases h
          exact ⟨e_or (ih.ex e1 cx).1 (ih.ex e2 cx).1, (w_or (ih.ex e1 cx).2 (ih.bl e2 cx)).pt⟩
        · cases h
      · split at h
        · rename_i e1 e2 e3
          cases h
          exact ⟨e_ite (ih.ex e1 cx).2 (ih.ex e2 cx).1 (ih.ex e3 cx).1, t_ite (ih.ex e1 cx).2 (ih.ex e2 cx).2 (ih.ex e3 cx).2⟩
        · cases h
      · -- calls by name
        split at h
        · rename_i c1
          split at h
          · rename_i i ei
            obtain ⟨t, e1, rfl⟩ := Option.map_eq_some_iff.mp h
            exact both (e_call cx c1.1 c1.2.1 c1.2.2.2.2 ei e1 (ih.es e1 cx)) fun _ => rfl
          · rename_i ei
            split at h
            · cases h
            · rename_i hb
              have hb := eq_true_of_ne_false hb
              split at h
              · rename_i en
                subst en
                split at h
                · split at h
                  · rename_i e1 e2
                    split at h
                    · rename_i c3
                      cases h
                      exact both (e_isi cx c1.1 hb e1 e2 c3.1 c3.2 (ih.ex e1 cx).1) fun _ => rfl
                    · cases h
                  · cases h
                · cases h
              · split at h
                · rename_i eb
                  obtain ⟨t, e1, rfl⟩ := Option.map_eq_some_iff.mp h
                  exact both (e_bcall cx c1.1 c1.2.2.2.2 hb eb e1 (ih.es e1 cx)) fun _ => rfl
                · cases h
        · cases h
      · split at h
        · rename_i c1
          split at h
          · rename_i e1 e2 e3
            cases h
            exact both (e_mcall cx c1.1 e1 e2 (ih.ex e2 cx).1 c1.2.2.1 c1.2.2.2 e3 (ih.es e3 cx)) fun _ => rfl
          · cases h
        · cases h
      · split at h
        · rename_i e1 e2 e3
          cases h
          exact both (e_slc (ih.ex e1 cx).1 (ih.eo e2 cx) (ih.eo e3 cx)) fun _ => rfl
        · cases h
      · obtain ⟨t, e1, rfl⟩ := Option.map_eq_some_iff.mp h
        exact both (e_rev (ih.ex e1 cx).1) fun _ => rfl
      · split at h
        · rename_i e1 e2
          cases h
          exact both (e_ix cx (ih.ex e1 cx).1 (ih.ex e2 cx).1 (plainIx_of e2)) fun _ => rfl
        · cases h
      · split at h
        · rename_i c1
          rw [Bool.and_eq_true] at c1
          split at h
          · rename_i e1 e2 e3 e4
            split at h
            · rename_i c2
              cases h
              rw [Bool.and_eq_true] at c2
              have hin : ∀ i ∈ Tg.slots _, i ∈ (ownOf C.N _).map (·.2) := fun i hi => by
                have q := List.all_eq_true.mp c2.2 i hi
                simpa using q
              have hgg := fun s H Cc cls fp => ih.tg e2 (blkE cx s H Cc cls fp)
              have htt := fun s H Cc cls fp => ih.fs e3 (blkE cx s H Cc cls fp)
              have hee := fun s H Cc cls fp => (ih.ex e4 (blkE cx s H Cc cls fp)).1
              have hff := fun x => fold_of e1 X.env x
              obtain ⟨q1, q2⟩ := e_comp (pos := ⟨0, 0, 0, 0⟩) cx c1.2 c1.1 (ih.it e1 cx) hin hgg htt hee hff
              exact both (pe_w (pe_lc (cx.calm c1.2) cx.nd (ih.it e1 cx) q1 hgg htt hee hff) q2) fun _ => rfl
            · cases h
          · cases h
        · cases h
      · cases h
    · -- and, or as tests
      intro C op es pos c h X A cl G ar W cx
      cases op with
      | And =>
        match es, h with
        | [], h => simp [compE] at h
        | [a], h => simp only [compE] at h; exact pw_and1 (ih.ex h cx).2
        | a :: b :: r, h =>
          simp only [compE] at h
          split at h
          · rename_i e1 e2
            cases h
            exact w_and (ih.ex e1 cx).2 (ih.bl e2 cx)
          · cases h
      | Or =>
        match es, h with
        | [], h => simp [compE] at h
        | [a], h => simp only [compE] at h; exact pw_or1 (ih.ex h cx).2
        | a :: b :: r, h =>
          simp only [compE] at h
          split at h
          · rename_i e1 e2
            cases h
            exact w_or (ih.ex e1 cx).2 (ih.bl e2 cx)
          · cases h
    · intro C es c h X A cl G ar W cx
      simp only [compEs] at h
      split at h
      · cases h; exact a_nil
      · split at h
        · rename_i e1 e2
          cases h
          exact a_cons (ih.ex e1 cx).1 (ih.es e2 cx) (star_of e1 _ _)
        · cases h
    · intro C ks vs c h X A cl G ar W cx pos
      simp only [compKV] at h
      split at h
      · cases h; exact ⟨pps_nil, rfl, rfl, fun _ => rfl⟩
      · split at h
        · rename_i e1 e2 e3
          cases h
          obtain ⟨p1, p2, p3, p4⟩ := ih.kv e3 cx pos
          exact ⟨pps_cons (ih.ex e1 cx).1 (ih.ex e2 cx).1 p1, by simp [p2], by simp [p3], fun q => by cases q⟩
        · cases h
      · cases h
    · intro C e c h X A cl G ar W cx
      simp only [compEo] at h
      split at h
      · cases h; exact o_none
      · obtain ⟨t, e1, rfl⟩ := Option.map_eq_some_iff.mp h
        exact o_some (ih.ex e1 cx).1
    · intro C es c h X A cl G ar W cx
      simp only [compIfs] at h
      split at h
      · cases h; exact c_none
      · obtain ⟨t, e1, rfl⟩ := Option.map_eq_some_iff.mp h
        exact c_some (ih.ex e1 cx).2
      · cases h
    · intro C e tg c h X A cl G ar W cx
      simp only [compIt] at h
      split at h
      · split at h
        · rename_i c1
          split at h
          · rename_i c2
            obtain ⟨t, e1, rfl⟩ := Option.map_eq_some_iff.mp h
            obtain ⟨rfl, c2⟩ := c2
            exact i_range cx c1.1 c1.2.2.2.2.1 c2 e1 (ih.es e1 cx)
          · split at h
            · rename_i c2
              obtain ⟨rfl, c2⟩ := c2
              split at h
              · obtain ⟨t, e1, rfl⟩ := Option.map_eq_some_iff.mp h
                cases tg <;> simp [isTupE] at c2
                exact i_enum cx c1.1 c1.2.2.2.2.1 e1 (ih.ex e1 cx).1
              · cases h
            · split at h
              · rename_i c2
                obtain ⟨rfl, c2⟩ := c2
                split at h
                · split at h
                  · rename_i e1 e2
                    cases h
                    cases tg <;> simp [isTupE] at c2
                    exact i_zip cx c1.1 c1.2.2.2.2.1 e1 (ih.ex e1 cx).1 e2 (ih.ex e2 cx).1
                  · cases h
                · cases h
              · obtain ⟨t, e1, rfl⟩ := Option.map_eq_some_iff.mp h
                exact i_val (ih.ex e1 cx).1
        · obtain ⟨t, e1, rfl⟩ := Option.map_eq_some_iff.mp h
          exact i_val (ih.ex e1 cx).1
      · obtain ⟨t, e1, rfl⟩ := Option.map_eq_some_iff.mp h
        exact i_val (ih.ex e1 cx).1
    · intro C e c h X A cl G ar W cx
      simp only [compTg] at h
      split at h
      · split at h
        · rename_i c1
          obtain ⟨t, e1, rfl⟩ := Option.map_eq_some_iff.mp h
          exact g_nm cx c1 e1
        · cases h
      · split at h
        · rename_i c1
          obtain ⟨t, e1, rfl⟩ := Option.map_eq_some_iff.mp h
          obtain ⟨p1, p2, p3, p4⟩ := ih.ts e1 cx
          exact g_tup (n := 0) (cx.calm c1) p1 p2 p3 p4
        · cases h
      · cases h
      · rename_i hns
        split at h
        · rename_i e1 e2
          cases h
          refine g_sub cx (ih.ex e1 cx).1 (ih.ex e2 cx).1 ?_
          intro v
          rename_i i _ _ _ _ _
          cases i <;> first | rfl | (exact (hns _ _ _ _ rfl).elim)
        · cases h
      · cases h
    · intro C es c h X A cl G ar W cx
      simp only [compTgs] at h
      split at h
      · cases h; exact ⟨gs_nil, rfl, rfl, rfl⟩
      · split at h
        · rename_i e1 e2
          cases h
          obtain ⟨p1, p2, p3, p4⟩ := ih.ts e2 cx
          refine ⟨gs_cons (ih.tg e1 cx) p1 (tstar_of e1 _ _), ?_, ?_, ?_⟩
          · rw [tstar_of e1 _ _]; simp [p2]
          · rw [tstar_of e1 _ _, List.findIdx?_cons, p3]; rfl
          · simp [Tgs.len, p4]
        · cases h
end
end PF

end

section
set_option Elab.async false
set_option linter.all false
set_option maxRecDepth 100000
set_option maxHeartbeats 8000000
set_option autoImplicit false
/-! PfE1: statements. -/
namespace PF
open PySem L2 PySem.Spec PyProof.Rows
section
variable {K : PySem.W.Frag} {A : Ad} {ρ ρ1 : List Addr} {H H1 : Hp}
theorem OkS.base {r : RS} {D : Ends} {W : WX} (h : OkS K A ρ H r D W) (s : Step K ρ H ρ1 H1) : OkS K A ρ1 H1 r D W := by
  cases r with
  | nx sl st => exact fun σ' H' ρ' s' => h σ' H' ρ' (s.trans s')
  | bk sl st => exact fun σ' H' ρ' s' => h σ' H' ρ' (s.trans s')
  | ct sl st => exact fun σ' H' ρ' s' => h σ' H' ρ' (s.trans s')
  | rt t st => exact fun v H' ρ' s' => h v H' ρ' (s.trans s')
  | xc x sl st => exact fun k d σ' H' ρ' s' => h k d σ' H' ρ' (s.trans s')
  | stuck => exact h
theorem thenS_seq {α β : Type} {rr : List Addr → Hp → β → α → Prop} {r : PF.R α} {f : α → Store → RS} {sl : Sl} {D : Ends} {W : WX} {σ : L2.St} {Q1 : β → Hp → Prop} (h : OkS K A ρ H (r.thenS sl f) D W) (S : RSl K A ρ H σ sl)
    (hk : ∀ a st1 b H1 ρ1, Step K ρ H ρ1 H1 → Rel K A ρ1 H1 st1 → rr ρ1 H1 b a → OkS K A ρ1 H1 (f a st1) D W → Q1 b H1) : OkG K A rr ρ H r Q1 (fun k d H' => W k d σ H') := by
  cases r with
  | ok a st' => exact fun b H' ρ' s' R' q => hk a st' b H' ρ' s' R' q (OkS.base h s')
  | exc x st' => exact fun k d H' ρ' s' R' q => h k d σ H' ρ' s' R' (S.step s') q
  | stuck => exact h
theorem noExc_seq {α β : Type} {rr : List Addr → Hp → β → α → Prop} {r : PF.R α} {f : α → Store → RS} {sl : Sl} {D : Ends} {W : WX} {Q1 : β → Hp → Prop} (h : OkS K A ρ H (r.noExc.thenS sl f) D W)
    (hk : ∀ a st1 b H1 ρ1, Step K ρ H ρ1 H1 → Rel K A ρ1 H1 st1 → rr ρ1 H1 b a → OkS K A ρ1 H1 (f a st1) D W → Q1 b H1) : OkG K A rr ρ H r Q1 (fun _ _ _ => False) := by
  cases r with
  | ok a st' => exact fun b H' ρ' s' R' q => hk a st' b H' ρ' s' R' q (OkS.base h s')
  | exc x st' => exact h.elim
  | stuck => exact h
end
section
variable {X : Cx} {A : Ad} {cl : Call} {G : Tab} {ar : Nat → Nat} {C : Cmp} {W : WX}
abbrev gS (X : Cx) (A : Ad) (cl : Call) (G : Tab) (W : WX) (c : S) : TS := tS X.K A cl G W c
abbrev gSs (X : Cx) (A : Ad) (cl : Call) (G : Tab) (W : WX) (c : Ss) : TS := tSs X.K A cl G W c
theorem ss_nil : PSs X [] (gSs X A cl G W .nil) := pss_w pss_nil fun D σ H h => by
  obtain ⟨ρ, st, sl, R, S, h⟩ := h
  unfold evSs at h
  exact h σ H ρ .refl R S
theorem ss_cons {s : Stmt} {ss : List Stmt} {c : S} {cs : Ss} (hs : PS X s (gS X A cl G W c)) (hss : PSs X ss (gSs X A cl G W cs)) : PSs X (s :: ss) (gSs X A cl G W (.cons c cs)) := by
  refine pss_w (pss_cons hs hss) fun D σ H h => ?_
  obtain ⟨ρ, st, sl, R, S, h⟩ := h
  unfold evSs at h
  refine ⟨ρ, st, sl, R, S, ?_⟩
  cases ev : evS cl G c sl st with
  | nx sl1 st1 =>
    rw [ev] at h
    exact fun σ' H' ρ' s' R' S' => ⟨ρ', st1, sl1, R', S', OkS.base h s'⟩
  | bk sl1 st1 => rw [ev] at h; exact h
  | ct sl1 st1 => rw [ev] at h; exact h
  | rt t st1 => rw [ev] at h; exact h
  | xc x sl1 st1 => rw [ev] at h; exact h
  | stuck => rw [ev] at h; exact h
theorem asg_red {e : Expr} {ce : E} {tg : Tg} (D : Ends) (σ : L2.St) (H : Hp) (h : gS X A cl G W (.asg tg ce) D σ H) : gE X A cl G W ce σ H fun x H1 => tTg X.K A cl G tg x σ H1 D.nx := by
  obtain ⟨ρ, st, sl, R, S, h⟩ := h
  unfold evS at h
  refine ⟨ρ, st, sl, R, S, thenS_seq h S fun t st1 v H1 ρ1 s1 R1 v1 h1 => ?_⟩
  refine ⟨ρ1, st1, sl, t, R1, S.step s1, v1, noExc_seq h1 fun sl2 st2 σ2 H2 ρ2 s2 R2 r2 h2 => ?_⟩
  exact h2 σ2 H2 ρ2 .refl R2 r2.1
/-- what kind of store a comprehension's value has -/
theorem swaps_comp {elt : Expr} {gs : List Comprehension} {scope : Scope} {p : Pos} {t : Str} {pt : Pos} {l : Nat} {env : PySem.Env} :
    swapsWith (.ListComp elt gs scope p) (some (.Name t pt)) l env = pure (env.blockKind == .function && env.kindOf t == some .local && pt.line == p.line && !(scope.names.any fun (n, k) => n == t && (k == .local || k == .cell))) := rfl
theorem noswap_of {n : Nat} {C : Cmp} {e : Expr} {c : E} {l : Nat} {env : PySem.Env} {o : Option Expr} (h : compE n C e = some c) (hne : isCompE e = false) : swapsWith e o l env = pure false := by
  cases n with
  | zero => simp [compE] at h
  | succ n => cases e <;> first | rfl | (simp [isCompE] at hne) | (simp [compE] at h)
theorem s_asg (cx : CxE X A cl G ar C W) {tg e : Expr} {ct : Tg} {ce : E} {pos : Pos} {n m : Nat} (hce : compE n C e = some ce) (hct : compTg m C tg = some ct) (he : PE X e (gE X A cl G W ce)) (hg : PG X tg (tTg X.K A cl G ct))
    (hnt : isTupE tg = true → isTupE e = false)
    (hlc : ∀ {elt : Expr} {gs : List Comprehension} {scope : Scope} {p : Pos} {t : Str} {pt : Pos}, e = .ListComp elt gs scope p → tg = .Name t pt →
      X.env.scope.names.lookup t = some .local → swapsWith (.ListComp elt gs scope p) (some (.Name t pt)) pos.line X.env = pure true → PS X (.Assign [.Name t pt] (.ListComp elt gs scope p) pos) (gS X A cl G W (.asg ct ce))) : PS X (.Assign [tg] e pos) (gS X A cl G W (.asg ct ce)) := by
  have hw : swappedStores [tg] e X.env = pure none := by
    cases m with
    | zero => simp [compTg] at hct
    | succ m =>
      cases tg <;> first | rfl | (simp [compTg] at hct; done) | skip
      cases e <;> first | rfl | (have q := hnt rfl; cases q)
  have h1 : (assignEach [tg] X.env).map (·.2) = [assign tg X.env] := by rw [tstar_of hct [] X.env]; rfl
  have ord : swapsWith e (some tg) pos.line X.env = pure false → PS X (.Assign [tg] e pos) (gS X A cl G W (.asg ct ce)) := fun hs => ps_w (ps_asg he hg hs hw h1) fun D σ H h => asg_red (e := e) D σ H h
  by_cases hc : isCompE e = false
  · exact ord (noswap_of hce hc)
  · cases n with
    | zero => simp [compE] at hce
    | succ n =>
      cases e <;> first | (exact absurd rfl hc) | (simp [compE] at hce; done) | skip
      rename_i elt gs scope p
      cases tg <;> first | (exact ord rfl) | skip
      rename_i t pt
      have q := swaps_comp (elt := elt) (gs := gs) (scope := scope) (p := p) (t := t) (pt := pt) (l := pos.line) (env := X.env)
      cases hb : (X.env.blockKind == .function && X.env.kindOf t == some .local && pt.line == p.line && !(scope.names.any fun (n, k) => n == t && (k == .local || k == .cell))) with
      | true =>
        rw [hb] at q
        simp only [Bool.and_eq_true] at hb
        exact hlc rfl rfl (eq_of_beq hb.1.1.2) q
      | false => rw [hb] at q; exact ord q
theorem s_par (cx : CxE X A cl G ar C W) (hc : C.calm = true) {x y : Str} {px py pt pos p2 : Pos} {kt k2 : Nat} {a b : Expr} {ca cb : E} {i j n m : Nat} (hp : parOk C.sc x y px py a b = true) (hi : idx C.N x = some i) (hj : idx C.N y = some j) (hij : i ≠ j)
    (hca : compE n C a = some ca) (hcb : compE m C b = some cb) (ha : PE X a (gE X A cl G W ca)) (hb : PE X b (gE X A cl G W cb)) :
    PS X (.Assign [.Tuple [.Name x px, .Name y py] kt pt] (.Tuple [a, b] k2 p2) pos) (gS X A cl G W (.par i j ca cb)) := by
  unfold parOk at hp
  simp only [Bool.and_eq_true, Bool.not_eq_true'] at hp
  obtain ⟨⟨⟨⟨⟨h1, h2⟩, h3⟩, h4⟩, h5⟩, h6⟩ := hp
  have hxy : C.sc.names.lookup x = some .local ∧ C.sc.names.lookup y = some .local := by
    split at h1
    · exact ⟨by assumption, by assumption⟩
    · cases h1
  have hx : X.env.scope.names.lookup x = some .local := by rw [cx.sc]; exact hxy.1
  have hy : X.env.scope.names.lookup y = some .local := by rw [cx.sc]; exact hxy.2
  have hpa : PA X [a, b] (tEs X.K A cl G W (.cons ca (.cons cb .nil))) := a_cons ha (a_cons hb a_nil (star_of hcb _ _)) (star_of hca _ _)
  have hk : X.env.scope.kind = .function := by rw [cx.sc]; exact of_decide_eq_true h6
  have h3' : ¬ x = y := of_decide_eq_false h3
  have h2' : px.line = py.line := eq_of_beq h2
  have nst : ∀ {n : Nat} {C : Cmp} {e : Expr} {c : E}, compE n C e = some c → (match e with | .Starred .. => true | _ => false) = false := fun {n C e c} h => by
    cases n with
    | zero => simp [compE] at h
    | succ n => cases e <;> first | rfl | (simp [compE] at h)
  have hsw : swappedStores [.Tuple [.Name x px, .Name y py] kt pt] (.Tuple [a, b] k2 p2) X.env = pure (some [x, y]) := by
    unfold swappedStores
    have hb : X.env.blockKind = .function := by unfold PySem.Env.blockKind; rw [hk]; rfl
    have kx : X.env.kindOf x = some .local := hx
    have ky : X.env.kindOf y = some .local := hy
    have n1 := nst hca
    have n2 := nst hcb
    have f1 : ([a, b].any fun | .Starred .. => true | _ => false) = false := by rw [List.any_cons, List.any_cons, List.any_nil, n1, n2]; rfl
    have f2 : ([Expr.Name x px, Expr.Name y py].filterMap fun
        | .Name id pos => if X.env.kindOf id == some .local && pos.line == px.line then some id else none
        | _ => none) = [x, y] := by
      simp [kx, ky, h2']
    have f3 : [x, y].eraseDups.length = 2 := by
      have : (y == x) = false := beq_eq_false_iff_ne.mpr fun e => h3' e.symm
      simp [List.eraseDups_cons, this]
    show (if (!([Expr.Name x px, Expr.Name y py].length == 2 || [Expr.Name x px, Expr.Name y py].length == 3) || [a, b].length != [Expr.Name x px, Expr.Name y py].length || X.env.blockKind != .function) = true then pure none else _) = _
    rw [hb, if_neg (by simp)]
    show (if ([a, b].any fun | .Starred .. => true | _ => false) = true then pure none else _) = _
    rw [f1, if_neg Bool.false_ne_true]
    show (if (([Expr.Name x px, Expr.Name y py].filterMap fun
        | .Name id pos => if X.env.kindOf id == some .local && pos.line == px.line then some id else none
        | _ => none).length != [Expr.Name x px, Expr.Name y py].length || ([Expr.Name x px, Expr.Name y py].filterMap fun
        | .Name id pos => if X.env.kindOf id == some .local && pos.line == px.line then some id else none
        | _ => none).eraseDups.length != ([Expr.Name x px, Expr.Name y py].filterMap fun
        | .Name id pos => if X.env.kindOf id == some .local && pos.line == px.line then some id else none
        | _ => none).length) = true then pure none else _) = _
    rw [f2, f3, if_neg (by simp)]
    rw [h4, h5]
    exact congrArg (fun l => (pure (some l) : Sem (Option (List Str)))) f2
  have hr : PS X (.Assign [.Tuple [.Name x px, .Name y py] kt pt] (.Tuple [a, b] k2 p2) pos) (tPar i j (tEs X.K A cl G W (.cons ca (.cons cb .nil)))) :=
    ps_par (cx.calm hc) cx.nd (by rw [cx.N]; exact idx_some hi) (by rw [cx.N]; exact idx_some hj) hij hx hy hpa hsw rfl
  refine ps_w hr fun D σ H h => ?_
  obtain ⟨ρ, st, sl, R, S, h⟩ := h
  unfold evS at h
  have h' : OkS X.K A ρ H ((evEs cl G (.cons ca (.cons cb .nil)) sl st).thenS sl fun ts st => match ts with
      | [x, y] => .nx ((sl.set i (some x)).set j (some y)) st
      | _ => .stuck) D W := by
    unfold evEs evEs evEs
    cases e1 : evE cl G ca sl st with
    | stuck => rw [e1] at h; exact h
    | exc x st1 => rw [e1] at h; exact h
    | ok t st1 =>
      rw [e1] at h
      rw [PF.R.thenS_ok] at h
      rw [PF.R.bind_ok]
      cases e2 : evE cl G cb sl st1 with
      | stuck => rw [e2] at h; exact h
      | exc x st1 => rw [e2] at h; exact h
      | ok t2 st2 => rw [e2] at h; exact h
  refine ⟨ρ, st, sl, R, S, thenS_seq h' S fun ts st1 vs H1 ρ1 s1 R1 v1 h1 => ?_⟩
  split at h1
  · obtain ⟨v, w, rfl, r1, r2⟩ := two_rel v1
    exact ⟨v, w, rfl, h1 _ H1 ρ1 .refl R1 (((S.step s1).set i r1).set j r2)⟩
  · exact h1.elim
theorem s_aug (cx : CxE X A cl G ar C W) {x : Str} {px pos : Pos} {op : Operator} {e : Expr} {ce : E} {i : Nat} (hop : op = .Add ∨ op = .Sub) (h1 : locB C x = true) (h2 : idx C.N x = some i) (he : PE X e (gE X A cl G W ce)) : PS X (.AugAssign (.Name x px) op e pos) (gS X A cl G W (.aug i op ce)) := by
  obtain ⟨l1, l2⟩ := loc_of cx h1
  have hN : X.N[i]? = some x := by rw [cx.N]; exact idx_some h2
  have red : ∀ {f : Int → Int → Int}, (∀ a b st, binT op (.int a) (.int b) st = .ok (.int (f a b)) st) → ∀ D σ H, gS X A cl G W (.aug i op ce) D σ H → tAug i (gE X A cl G W ce) (ipI f) D σ H := fun {f} hf D σ H h => by
    obtain ⟨ρ, st, sl, R, S, h⟩ := h
    unfold evS at h
    split at h
    · rename_i t et
      obtain ⟨v, ev, rv⟩ := S.at_ i t et
      refine ⟨v, ev, ρ, st, sl, R, S, thenS_seq h S fun u st1 w H1 ρ1 s1 R1 r1 h1 => ?_⟩
      split at h1
      · cases rv; cases r1
        refine ⟨_, _, rfl, rfl, ?_⟩
        rw [hf] at h1
        rw [PF.R.thenS_ok] at h1
        exact h1 _ H1 ρ1 .refl R1 ((S.step s1).set i (.int _))
      · exact h1.elim
    · exact h.elim
  rcases hop with rfl | rfl
  · exact ps_w (ps_aug cx.nd hN l1 he ip_add l2) (red fun _ _ _ => rfl)
  · exact ps_w (ps_aug cx.nd hN l1 he ip_sub l2) (red fun _ _ _ => rfl)
theorem s_expr {e : Expr} {ce : E} {pos : Pos} {n : Nat} (hce : compE n C e = some ce) (hne : isCompE e = false) (he : PE X e (gE X A cl G W ce)) : PS X (.Expr e pos) (gS X A cl G W (.expr ce)) := by
  refine ps_w (ps_expr he (noswap_of hce hne)) fun D σ H h => ?_
  obtain ⟨ρ, st, sl, R, S, h⟩ := h
  unfold evS at h
  exact ⟨ρ, st, sl, R, S, thenS_seq h S fun t st1 v H1 ρ1 s1 R1 v1 h1 => h1 σ H1 ρ1 .refl R1 (S.step s1)⟩
theorem s_ret {e : Expr} {ce : E} {pos : Pos} (he : PE X e (gE X A cl G W ce)) : PS X (.Return (some e) pos) (gS X A cl G W (.ret ce)) := by
  refine ps_w (ps_ret he) fun D σ H h => ?_
  obtain ⟨ρ, st, sl, R, S, h⟩ := h
  unfold evS at h
  exact ⟨ρ, st, sl, R, S, thenS_seq h S fun t st1 v H1 ρ1 s1 R1 v1 h1 => h1 v H1 ρ1 .refl R1 v1⟩
theorem s_retN {pos : Pos} : PS X (.Return none pos) (gS X A cl G W .retN) := ps_w ps_retN fun D σ H h => by
  obtain ⟨ρ, st, sl, R, S, h⟩ := h
  unfold evS at h
  exact h .non H ρ .refl R .non
theorem s_pass {s : Stmt} (hs : PS X s tNext) : PS X s (gS X A cl G W .pass) := ps_w hs fun D σ H h => by
  obtain ⟨ρ, st, sl, R, S, h⟩ := h
  unfold evS at h
  exact h σ H ρ .refl R S
theorem s_brk {pos : Pos} : PS X (.Break pos) (gS X A cl G W .brk) := ps_w ps_break fun D σ H h => by
  obtain ⟨ρ, st, sl, R, S, h⟩ := h
  unfold evS at h
  exact h σ H ρ .refl R S
theorem s_cnt {pos : Pos} : PS X (.Continue pos) (gS X A cl G W .cnt) := ps_w ps_continue fun D σ H h => by
  obtain ⟨ρ, st, sl, R, S, h⟩ := h
  unfold evS at h
  exact h σ H ρ .refl R S
theorem s_if {c : Expr} {a b : List Stmt} {cc : E} {ca cb : Ss} {pos : Pos} (hc : PT X c (tTt X.K A cl G W cc)) (ha : PSs X a (gSs X A cl G W ca)) (hb : PSs X b (gSs X A cl G W cb)) : PS X (.If c a b pos) (gS X A cl G W (.ifS cc ca cb)) := by
  refine ps_w (ps_if hc ha hb) fun D σ H h => ?_
  obtain ⟨ρ, st, sl, R, S, h⟩ := h
  unfold evS at h
  refine ⟨ρ, st, sl, R, S, thenS_seq h S fun k st1 k' H1 ρ1 s1 R1 e h1 => ?_⟩
  subst e
  cases k' with
  | true => exact ⟨ρ1, st1, sl, R1, S.step s1, h1⟩
  | false => exact ⟨ρ1, st1, sl, R1, S.step s1, h1⟩
theorem s_while (hp : PassesOwn (model X.prog X.w) X.A X.env X.xe) {c : Expr} {b : List Stmt} {cc : E} {cb : Ss} {pos : Pos} (hc : PT X c (tTt X.K A cl G W cc)) (hb : PSs X b (gSs X A cl G W cb)) : PS X (.While c b [] pos) (gS X A cl G W (.whl cc cb)) := by
  refine ps_w (ps_while hp hc hb) fun D σ H h => ?_
  obtain ⟨ρ, st, sl, R, S, h⟩ := h
  unfold evS at h
  refine ⟨fun m σ H => ∃ ρ st sl, Rel X.K A ρ H st ∧ RSl X.K A ρ H σ sl ∧ OkS X.K A ρ H (whileL (fun sl st => (evE cl G cc sl st).bind fun x st => truR st x) (fun sl st => evSs cl G cb sl st) m sl st) D W, ⟨WF, ρ, st, sl, R, S, h⟩, ?_⟩
  rintro m σ H ⟨ρ, st, sl, R, S, h⟩
  cases m with
  | zero => exact h.elim
  | succ m =>
    unfold whileL at h
    refine ⟨ρ, st, sl, R, S, thenS_seq h S fun k st1 k' H1 ρ1 s1 R1 e h1 => ?_⟩
    subst e
    cases k' with
    | false =>
      rw [if_neg Bool.false_ne_true] at h1 ⊢
      exact h1 σ H1 ρ1 .refl R1 (S.step s1)
    | true =>
      rw [if_pos rfl] at h1 ⊢
      refine ⟨fun σ H => ∃ ρ st sl, Rel X.K A ρ H st ∧ RSl X.K A ρ H σ sl ∧ OkS X.K A ρ H (whileL (fun sl st => (evE cl G cc sl st).bind fun x st => truR st x) (fun sl st => evSs cl G cb sl st) m sl st) D W, fun σ' H' q => ⟨m, Nat.lt_succ_self _, q⟩, ρ1, st1, sl, R1, S.step s1, ?_⟩
      cases ev : evSs cl G cb sl st1 with
      | nx sl2 st2 => rw [ev] at h1; exact fun σ' H' ρ' s' R' S' => ⟨ρ', st2, sl2, R', S', OkS.base h1 s'⟩
      | ct sl2 st2 => rw [ev] at h1; exact fun σ' H' ρ' s' R' S' => ⟨ρ', st2, sl2, R', S', OkS.base h1 s'⟩
      | bk sl2 st2 => rw [ev] at h1; exact h1
      | rt t st2 => rw [ev] at h1; exact h1
      | xc x sl2 st2 => rw [ev] at h1; exact h1
      | stuck => rw [ev] at h1; exact h1
theorem s_for (hp : PassesOwn (model X.prog X.w) X.A X.env X.xe) (hc : X.calm = true) {tg it : Expr} {b : List Stmt} {ct : Tg} {ci : PF.It} {cb : Ss} {pos : Pos} (hi : PI X tg it (tIt X.K A cl G W ci)) (hg : PG X tg (tTg X.K A cl G ct)) (hb : PSs X b (gSs X A cl G W cb))
    (hs : ∀ x, foldedSetIterable it X.env x = pure x) : PS X (.For tg it b [] pos) (gS X A cl G W (.for ct ci cb)) := by
  refine ps_w (ps_for hp hc hi hg hb hs) fun D σ H h => ?_
  obtain ⟨ρ, st, sl, R, S, h⟩ := h
  unfold evS at h
  refine ⟨ρ, st, sl, R, S, thenS_seq h S fun j st1 J H1 ρ1 s1 R1 rj h1 => ?_⟩
  split at h1
  · rename_i k ek
    refine ⟨fun i m σ H => ∃ ρ st sl, Step X.K ρ1 H1 ρ H ∧ Rel X.K A ρ H st ∧ RSl X.K A ρ H σ sl ∧ OkS X.K A ρ H (forL j (fun x sl st => (evTg cl G ct x sl st).noExc.thenS sl fun sl st => evSs cl G cb sl st) m i sl st) D W, ⟨k, ρ1, st1, sl, .refl, R1, S.step s1, h1⟩, ?_⟩
    rintro i m σ H ⟨ρ, st, sl, s, R, S, h⟩
    obtain ⟨hstop, hgo⟩ := rj ρ H st s R
    cases m with
    | zero =>
      unfold forL at h
      split at h
      · rename_i e0
        exact .inl ⟨hstop i e0, h σ H ρ .refl R S⟩
      · exact h.elim
    | succ m =>
      unfold forL at h
      split at h
      · rename_i t et
        obtain ⟨g1, g2⟩ := hgo i t et
        refine .inr ⟨g1, fun σ H => ∃ ρ st sl, Step X.K ρ1 H1 ρ H ∧ Rel X.K A ρ H st ∧ RSl X.K A ρ H σ sl ∧ OkS X.K A ρ H (forL j (fun x sl st => (evTg cl G ct x sl st).noExc.thenS sl fun sl st => evSs cl G cb sl st) m (i + 1) sl st) D W, fun σ' H' q => ⟨m, Nat.lt_succ_self _, q⟩, fun x H' y => ?_⟩
        obtain ⟨sy, Ry, rx⟩ := g2 x H' y
        have h := OkS.base h sy
        refine ⟨ρ, st, sl, t, Ry, S.step sy, rx, ?_⟩
        cases et2 : evTg cl G ct t sl st with
        | stuck => rw [et2] at h; exact h
        | exc x st2 => rw [et2] at h; exact h.elim
        | ok sl2 st2 =>
          rw [et2] at h
          intro σ2 H2 ρ2 s2 R2 r2
          have h := OkS.base h s2
          refine ⟨ρ2, st2, sl2, R2, r2.1, ?_⟩
          have s02 : Step X.K ρ1 H1 ρ2 H2 := (s.trans sy).trans s2
          cases ev : evSs cl G cb sl2 st2 with
          | nx sl3 st3 => simp only [PF.R.noExc, PF.R.thenS_ok, ev] at h; exact fun σ' H' ρ' s' R' S' => ⟨ρ', st3, sl3, s02.trans s', R', S', OkS.base h s'⟩
          | ct sl3 st3 => simp only [PF.R.noExc, PF.R.thenS_ok, ev] at h; exact fun σ' H' ρ' s' R' S' => ⟨ρ', st3, sl3, s02.trans s', R', S', OkS.base h s'⟩
          | bk sl3 st3 => simp only [PF.R.noExc, PF.R.thenS_ok, ev] at h; exact h
          | rt t st3 => simp only [PF.R.noExc, PF.R.thenS_ok, ev] at h; exact h
          | xc x sl3 st3 => simp only [PF.R.noExc, PF.R.thenS_ok, ev] at h; exact h
          | stuck => simp only [PF.R.noExc, PF.R.thenS_ok, ev] at h; exact h
      · exact h.elim
  · exact h1.elim
theorem s_raise (cx : CxE X A cl G ar C W) (hc : C.calm = true) {x m : Str} {p p2 p3 pos : Pos} {j : Nat} {i : Nat} (h1 : glB C.sc x = true) (h2 : ¬ x = "__debug__") (h3 : idx C.gn.cls x = some i) :
    PS X (.Raise (some (.Call (.Name x p) [.Constant (.str m) j p2] [] p3)) none pos) (gS X A cl G W (.raise i .nil)) := by
  obtain ⟨Ca, e1, e2, F⟩ := cx.cls i x (idx_some h3)
  refine ps_w (ps_raise (cx.calm hc) cx.tk (pmk_own PySem.F.excBase_ValueError F.ex e1 F.kp (raises_own F.sb F.ty) (gl_of cx h1) (neq_of h2))) fun D σ H h => ?_
  obtain ⟨ρ, st, sl, R, S, h⟩ := h
  unfold evS at h
  exact h (.ref Ca) none σ H ρ .refl R S ⟨Ca, e2, rfl, .inl ⟨rfl, rfl⟩⟩
theorem s_try (cx : CxS X A cl G ar C W) (ht : C.top = true) {x : Str} {np pos pos' : Pos} {b hs : List Stmt} {h0 : Stmt} {cb ch : Ss} {i : Nat} (h1 : glB C.sc x = true) (h2 : ¬ x = "__debug__") (h3 : idx C.gn.cls x = some i)
    (hb : ∀ (W : WX) (pn : List (Addr × Obj)) (xe : Value → Shared → Prop), Takes (X.tr pn xe) W → PassesOwn (model X.prog X.w) X.A X.env xe → PSs (X.tr pn xe) b (tSs X.K A cl G W cb))
    (hsu : ∀ (a : Addr) (oe : Obj) (pn : List (Addr × Obj)), PSs (X.suite a ((a, oe) :: pn)) (h0 :: hs) (tSs X.K A cl G WF0 ch)) :
    PS X (.Try b [.ExceptHandler (some (.Name x np)) none (h0 :: hs) pos'] [] [] pos) (gS X A cl G W (.tryS cb i none ch)) := by
  obtain ⟨Ca, e1, e2, F⟩ := cx.e.cls i x (idx_some h3)
  obtain ⟨t1, t2⟩ := cx.top ht
  refine ps_w (ps_try_only (ts := fun _ _ _ => tSs X.K A cl G WF0 ch) (tb := fun W => tSs X.K A cl G W cb) t1 t2 ⟨gl_of cx.e h1, neq_of h2, .inl e1⟩ cx.e.tk hb fun a oe cls d pn _ _ => hsu a oe pn) fun D σ H h => ?_
  obtain ⟨ρ, st, sl, R, S, h⟩ := h
  unfold evS at h
  refine ⟨ρ, st, sl, R, S, ?_⟩
  cases ev : evSs cl G cb sl st with
  | xc x sl1 st1 =>
    rw [ev] at h
    intro k d σ' H' ρ' s' R' S' rx
    obtain ⟨Cb, q1, rfl, _⟩ := rx
    simp only at h
    split at h
    · rename_i c
      rw [c.1, e2] at q1
      cases q1
      refine ⟨true, F.exm, fun _ a ha => ⟨ρ', st1, sl1, R', S', ?_⟩, fun z => by cases z⟩
      have h := OkS.base h s'
      revert h
      generalize evSs cl G ch sl1 st1 = r
      intro h
      cases r with
      | xc x sl2 st2 => exact h.elim
      | nx sl2 st2 => exact h
      | bk sl2 st2 => exact h
      | ct sl2 st2 => exact h
      | rt t st2 => exact h
      | stuck => exact h
    · exact h.elim
  | nx sl2 st2 => rw [ev] at h; exact h
  | bk sl2 st2 => rw [ev] at h; exact h
  | ct sl2 st2 => rw [ev] at h; exact h
  | rt t st2 => rw [ev] at h; exact h
  | stuck => rw [ev] at h; exact h
theorem trE (cx : CxE X A cl G ar C W) {W' : WX} {pn : List (Addr × Obj)} {xe : Value → Shared → Prop} (tk : Takes (X.tr pn xe) W') : CxE (X.tr pn xe) A cl G ar C W' :=
  ⟨cx.calm, cx.N, cx.nd, cx.sc, cx.fnB, cx.units, tk, cx.blt, cx.fns, cx.art, cx.cst, cx.cls⟩
theorem suiteE (cx : CxE X A cl G ar C W) {a : Addr} {pn : List (Addr × Obj)} : CxE (X.suite a pn) A cl G ar { C with calm := false } WF0 :=
  have hf : ∀ (i : Nat) (x : Str), C.gn.fns[i]? = some x → ∃ f fd ps k, X.mg x = some (.ref f) ∧ PySem.W.keepIn X.K (.ref f) = true ∧ Binds X.K fd ps [] ∧ FnOk X.prog X.w X.K X.mg X.base (L2.CX X.prog X.w) k f fd ps (spEv X.K A cl ar i) ∧ ((X.suite a pn).calm = true → Room k (X.suite a pn).A) := fun i x e => by
    obtain ⟨f, fd, ps, k, q1, q2, q3, q4, q5⟩ := cx.fns i x e
    exact ⟨f, fd, ps, k, q1, q2, q3, q4, fun z => by cases z⟩
  ⟨(fun z => by cases z), cx.N, cx.nd, cx.sc, cx.fnB, cx.units, takes0, cx.blt, hf, cx.art, cx.cst, cx.cls⟩
structure AllS (n : Nat) : Prop where
  s : ∀ {C : Cmp} {s : Stmt} {c : S}, compS n C s = some c → ∀ {X : Cx} {A : Ad} {cl : Call} {G : Tab} {ar : Nat → Nat} {W : WX}, CxS X A cl G ar C W → PS X s (gS X A cl G W c)
  ss : ∀ {C : Cmp} {ss : List Stmt} {c : Ss}, compSs n C ss = some c → ∀ {X : Cx} {A : Ad} {cl : Call} {G : Tab} {ar : Nat → Nat} {W : WX}, CxS X A cl G ar C W → PSs X ss (gSs X A cl G W c)
end
end PF

end

section
set_option Elab.async false
set_option linter.all false
set_option maxRecDepth 100000
set_option maxHeartbeats 8000000
set_option autoImplicit false
/-! PfE2: all statements; defs. -/
namespace PF
open PySem L2 PySem.Spec PyProof.Rows
theorem lc_inv {n : Nat} (ie : ∀ m, AllE m) {C : Cmp} {elt : Expr} {gs : List Comprehension} {scope : Scope} {p : Pos} {c : E} (h : compE n C (.ListComp elt gs scope p) = some c)
    {X : Cx} {A : Ad} {cl : Call} {G : Tab} {ar : Nat → Nat} {W : WX} (cx : CxE X A cl G ar C W) : ∃ (tg it : Expr) (ifs : List Expr) (own : List (Str × Nat)) (wi : TI) (g : TG) (tt : TT) (te : TE), gs = [⟨tg, it, ifs, 0⟩] ∧ X.calm = true ∧ PI X tg it wi ∧ BlkOk X.N X.env.scope scope own ∧
      (∀ (s : Shared) (H : Hp) (Cc : Addr) (cls : List (Str × Addr)) (fp : List Addr), PG (X.blk s H scope (compEnvC scope cls Cc X.env) fp) tg g) ∧ (∀ (s : Shared) (H : Hp) (Cc : Addr) (cls : List (Str × Addr)) (fp : List Addr), PTs (X.blk s H scope (compEnvC scope cls Cc X.env) fp) ifs tt) ∧
      (∀ (s : Shared) (H : Hp) (Cc : Addr) (cls : List (Str × Addr)) (fp : List Addr), PE (X.blk s H scope (compEnvC scope cls Cc X.env) fp) elt te) ∧ (∀ x, foldedSetIterable it X.env x = pure x) ∧ ∀ σ H Q, gE X A cl G W c σ H Q → tLc wi g tt te (own.map (·.2)) σ H Q := by
  cases n with
  | zero => simp [compE] at h
  | succ n =>
    have ih := ie n
    simp only [compE] at h
    split at h
    all_goals first | (rename_i q; cases q; done) | (rename_i q _; cases q; done) | (cases h; done) | skip
    rename_i q
    injection q with q1 q2 q3 q4
    subst q1; subst q2; subst q3; subst q4
    split at h
    · rename_i c1
      rw [Bool.and_eq_true] at c1
      split at h
      · rename_i e1 e2 e3 e4
        split at h
        · rename_i c2
          cases h
          rw [Bool.and_eq_true] at c2
          have hin : ∀ i ∈ Tg.slots _, i ∈ (ownOf C.N _).map (·.2) := fun i hi => by
            have q := List.all_eq_true.mp c2.2 i hi
            simpa using q
          have hgg := fun s H Cc cls fp => ih.tg e2 (blkE cx s H Cc cls fp)
          have htt := fun s H Cc cls fp => ih.fs e3 (blkE cx s H Cc cls fp)
          have hee := fun s H Cc cls fp => (ih.ex e4 (blkE cx s H Cc cls fp)).1
          have hff := fun x => fold_of e1 X.env x
          obtain ⟨q1, q2⟩ := e_comp (pos := ⟨0, 0, 0, 0⟩) cx c1.2 c1.1 (ih.it e1 cx) hin hgg htt hee hff
          exact ⟨_, _, _, _, _, _, _, _, rfl, cx.calm c1.2, ih.it e1 cx, q1, hgg, htt, hee, hff, q2⟩
        · cases h
      · cases h
    · cases h
theorem s_setLc {n m : Nat} (ie : ∀ m, AllE m) {C : Cmp} {X : Cx} {A : Ad} {cl : Call} {G : Tab} {ar : Nat → Nat} {W : WX} (cx : CxE X A cl G ar C W) {elt : Expr} {gs : List Comprehension} {scope : Scope} {p : Pos} {t : Str} {pt pos : Pos} {ce : E} {ct : Tg}
    (h : compE n C (.ListComp elt gs scope p) = some ce) (h2 : compTg m C (.Name t pt) = some ct) (hl : X.env.scope.names.lookup t = some .local) (hsw : swapsWith (.ListComp elt gs scope p) (some (.Name t pt)) pos.line X.env = pure true) :
    PS X (.Assign [.Name t pt] (.ListComp elt gs scope p) pos) (gS X A cl G W (.asg ct ce)) := by
  obtain ⟨tg, it, ifs, own, wi, g, tt, te, rfl, hc, hi, ok, hg, ht, he, hs, red⟩ := lc_inv ie h cx
  cases m with
  | zero => simp [compTg] at h2
  | succ m =>
    simp only [compTg] at h2
    split at h2
    · obtain ⟨i, e1, rfl⟩ := Option.map_eq_some_iff.mp h2
      refine ps_w (ps_setLc hc cx.nd (by rw [cx.N]; exact idx_some e1) hl hsw hi ok hg ht he hs) fun D σ H q => ?_
      have q := asg_red (e := .Name t pt) D σ H q
      refine red σ H _ ?_
      obtain ⟨ρ, st, sl, R, S, q⟩ := q
      refine ⟨ρ, st, sl, R, S, q.mono (fun x H1 z => ?_) fun _ _ _ z => z⟩
      obtain ⟨ρ, st, sl, t, R, S, r, h⟩ := z
      unfold evTg at h
      exact h (σ.set i (some x)) H1 ρ .refl R ⟨S.set i r, fun vs hv => wipe_set (hv i (by simp [Tg.slots]))⟩
    · cases h2
theorem allS : ∀ n, AllS n
  | 0 => ⟨fun h => by simp [compS] at h, fun h => by simp [compSs] at h⟩
  | n + 1 => by
    have ih := allS n
    have ie' := allE
    have ie := allE n
    constructor
    · intro C s c h X A cl G ar W cx
      simp only [compS] at h
      split at h
      · split at h
        · rename_i c1
          rw [Bool.and_eq_true] at c1
          split at h
          · rename_i e1 e2 e3 e4
            split at h
            · cases h
            · rename_i c2
              cases h
              exact s_par cx.e c1.2 c1.1 e1 e2 c2 e3 e4 (ie.ex e3 cx.e).1 (ie.ex e4 cx.e).1
          · cases h
        · cases h
      · cases h
      · rename_i hn1 hn2
        split at h
        · rename_i e1 e2
          cases h
          rename_i tg0 e0 _ _ _ ct0 ce0
          refine s_asg cx.e e2 e1 (ie.ex e2 cx.e).1 (ie.tg e1 cx.e) (fun z => ?_) ?_
          · cases tg0 <;> first | (cases z; done) | skip
            cases e0 <;> first | rfl | (exact (hn2 _ _ _ _ _ _ rfl rfl).elim)
          · intro elt gs scope p t pt he ht hl hsw
            subst he; subst ht
            exact s_setLc ie' cx.e e2 e1 hl hsw
        · cases h
      · split at h
        · split at h
          · rename_i c1
            split at h
            · rename_i e1 e2
              cases h
              exact s_aug cx.e (.inl rfl) c1 e1 (ie.ex e2 cx.e).1
            · cases h
          · cases h
        · split at h
          · rename_i c1
            split at h
            · rename_i e1 e2
              cases h
              exact s_aug cx.e (.inr rfl) c1 e1 (ie.ex e2 cx.e).1
            · cases h
          · cases h
        · cases h
      · cases h; exact s_pass ps_doc
      · split at h
        · cases h
        · rename_i c1
          obtain ⟨t, e1, rfl⟩ := Option.map_eq_some_iff.mp h
          exact s_expr e1 (by simpa using c1) (ie.ex e1 cx.e).1
      · obtain ⟨t, e1, rfl⟩ := Option.map_eq_some_iff.mp h
        exact s_ret (ie.ex e1 cx.e).1
      · cases h; exact s_retN
      · cases h; exact s_pass ps_pass
      · cases h; exact s_brk
      · cases h; exact s_cnt
      · split at h
        · rename_i e1 e2 e3
          cases h
          exact s_if (ie.ex e1 cx.e).2 (ih.ss e2 cx) (ih.ss e3 cx)
        · cases h
      · split at h
        · split at h
          · rename_i e1 e2
            cases h
            exact s_while cx.po (ie.ex e1 cx.e).2 (ih.ss e2 cx)
          · cases h
        · cases h
      · split at h
        · rename_i c1
          split at h
          · rename_i e1 e2 e3
            cases h
            exact s_for cx.po (cx.e.calm c1) (ie.it e2 cx.e) (ie.tg e1 cx.e) (ih.ss e3 cx) (fold_of e2 _)
          · cases h
        · cases h
      · split at h
        · rename_i c1
          obtain ⟨t, e1, rfl⟩ := Option.map_eq_some_iff.mp h
          exact s_raise cx.e c1.2.2 c1.1 c1.2.1 e1
        · cases h
      · split at h
        · rename_i c1
          split at h
          · rename_i e1 e2 e3
            cases h
            refine s_try cx c1.2.2.2 c1.1 c1.2.1 e2 (fun W' pn xe tk po => ?_) (fun a oe pn => ?_)
            · exact ih.ss e1 (X := X.tr pn xe) ⟨trE cx.e tk, po, fun _ => cx.top c1.2.2.2⟩
            · exact ih.ss e3 (X := X.suite a ((a, oe) :: pn)) ⟨suiteE cx.e, PassesOwn.never, fun _ => cx.top c1.2.2.2⟩
          · cases h
        · cases h
      · cases h
    · intro C ss c h X A cl G ar W cx
      simp only [compSs] at h
      split at h
      · cases h; exact ss_nil
      · split at h
        · rename_i e1 e2
          cases h
          exact ss_cons (ih.s e1 cx) (ih.ss e2 cx)
        · cases h
end PF

end

section
set_option Elab.async false
set_option linter.all false
set_option maxRecDepth 100000
set_option maxHeartbeats 8000000
set_option autoImplicit false
/-! PfE3: what a call forgets; the defs of a text, all at once; the law's end. -/
namespace PF
open PySem L2 PySem.Spec PyProof.Rows
section
variable {K : PySem.W.Frag} {A : Ad} {ρ : List Addr} {H : Hp} {st : Store}
mutual
theorem RT.limit {n : Nat} : ∀ {v : V} {t : T}, RT K A ρ H v t → t.lim n = true → RT K A (ρ.take n) H v t
  | _, _, .non, _ => .non
  | _, _, .bl b, _ => .bl b
  | _, _, .int i, _ => .int i
  | _, _, .str x h, _ => .str x h
  | _, _, .tup h r, e => .tup h (RTs.limit r (by simpa [T.lim] using e))
  | _, _, .rol h r, e => .rol h (RTs.limit r (by simpa [T.lim] using e))
  | _, _, .ref (n := m) h, e => .ref (by
      have hm : m < n := by simpa [T.lim] using e
      rw [List.getElem?_take_of_lt hm]; exact h)
  | _, _, .fn h, _ => .fn h
theorem RTs.limit {n : Nat} : ∀ {vs : List V} {ts : List T}, RTs K A ρ H vs ts → T.lims n ts = true → RTs K A (ρ.take n) H vs ts
  | _, _, .nil, _ => .nil
  | _, _, .cons r rs, e => by
    have e' := e
    simp only [T.lims, Bool.and_eq_true] at e'
    exact .cons (RT.limit r e'.1) (RTs.limit rs e'.2)
end
theorem lims_all {n : Nat} : ∀ {ts : List T}, ts.all (·.lim n) = true → T.lims n ts = true
  | [], _ => rfl
  | t :: ts, h => by
    rw [List.all_cons, Bool.and_eq_true] at h
    simp only [T.lims, Bool.and_eq_true]
    exact ⟨h.1, lims_all h.2⟩
theorem RKs.limit {n : Nat} : ∀ {ks : List (Key × V)} {kvs : List (T × T)}, RKs K A ρ H ks kvs → (kvs.all fun p => p.1.lim n && p.2.lim n) = true → RKs K A (ρ.take n) H ks kvs
  | _, _, .nil, _ => .nil
  | _, _, .cons a b r, h => by
    rw [List.all_cons, Bool.and_eq_true, Bool.and_eq_true] at h
    exact .cons (a.limit h.1.1) (b.limit h.1.2) (RKs.limit r h.2)
theorem RFs.limit {n : Nat} : ∀ {gs : List (Str × V)} {fs : List (Str × T)}, RFs K A ρ H gs fs → (fs.all (·.2.lim n)) = true → RFs K A (ρ.take n) H gs fs
  | _, _, .nil, _ => .nil
  | _, _, .cons a r, h => by
    rw [List.all_cons, Bool.and_eq_true] at h
    exact .cons (a.limit h.1) (RFs.limit r h.2)
theorem RC.limit {n : Nat} {a : Addr} : ∀ {c : Cell}, RC K A ρ H a c → c.lim n = true → RC K A (ρ.take n) H a c
  | .lst ts, ⟨xs, h, r⟩, e => ⟨xs, h, r.limit (lims_all e)⟩
  | .dic kvs, ⟨ks, h, r⟩, e => ⟨ks, h, r.limit e⟩
  | .set _, h, _ => h.elim
  | .ins c fs, ⟨C, dx, gs, k, h, r⟩, e => ⟨C, dx, gs, k, h, r.limit e⟩
  | .dead, ⟨o, h⟩, _ => ⟨o, h⟩
theorem Rel.limit {n : Nat} (R : Rel K A ρ H st) (h : Closed (st.take n) n = true) : Rel K A (ρ.take n) H (st.take n) := by
  refine ⟨by rw [List.length_take, List.length_take, R.len], R.nd.sublist (List.take_sublist _ _), fun i a c e1 e2 => ?_⟩
  have hi : i < n := by
    have := (List.getElem?_eq_some_iff.mp e2).1
    rw [List.length_take] at this
    omega
  rw [List.getElem?_take_of_lt hi] at e1 e2
  refine (R.cell i a c e1 e2).limit ?_
  unfold Closed at h
  exact List.all_eq_true.mp h c (List.mem_of_getElem? (by rw [List.getElem?_take_of_lt hi]; exact e2))
theorem take_pre {α : Type} {l l' : List α} (h : l <+: l') : l'.take l.length = l := by
  obtain ⟨r, rfl⟩ := h
  rw [List.take_left]
theorem gc_ok {r : R T} {Q : VK} {W : Value → Option Addr → Hp → Prop} (R : Rel K A ρ H st) (h : OkG K A (RT K A) ρ H (gc st.length r) Q W) : OkG K A (RT K A) ρ H r Q W := by
  have hn : ρ.length = st.length := R.len
  cases r with
  | stuck => exact h
  | exc x st' =>
    intro k d H' ρ' s R' rx
    simp only [gc] at h
    split at h
    · rename_i c
      simp only [Bool.and_eq_true, decide_eq_true_eq] at c
      have ep : ρ'.take st.length = ρ := by rw [← hn]; exact take_pre s.pre
      have R2 := R'.limit (n := st.length) c.1.1
      rw [ep] at R2
      obtain ⟨Ca, q1, q2, q3⟩ := rx
      refine h k d H' ρ ⟨List.prefix_rfl, s.tup, s.rol⟩ R2 ⟨Ca, q1, q2, ?_⟩
      rcases q3 with q3 | ⟨dd, gs, q3, q4, q5⟩
      · exact .inl q3
      · have q6 := q5.limit (n := st.length) c.2
        rw [ep] at q6
        exact .inr ⟨dd, gs, q3, q4, q6⟩
    · exact h k d H' ρ' s R' rx
  | ok v st' =>
    intro b H' ρ' s R' rv
    simp only [gc] at h
    split at h
    · rename_i c
      simp only [Bool.and_eq_true, decide_eq_true_eq] at c
      have ep : ρ'.take st.length = ρ := by rw [← hn]; exact take_pre s.pre
      have R2 := R'.limit (n := st.length) c.1
      rw [ep] at R2
      have s2 : Step K ρ H ρ H' := ⟨List.prefix_rfl, s.tup, s.rol⟩
      split at h
      · rename_i cv
        have rv2 := rv.limit cv
        rw [ep] at rv2
        exact h b H' ρ s2 R2 rv2
      · rename_i cv
        split at h
        · rename_i m
          split at h
          · rename_i cc ec
            split at h
            · rename_i cl2
              cases rv with | ref ea =>
              rename_i a
              have hm : ¬ m < st.length := by simpa [T.lim] using cv
              have hna : a ∉ ρ := fun ha => by
                obtain ⟨i, hi⟩ := List.getElem?_of_mem ha
                have h1 : i < st.length := by rw [← hn]; exact (List.getElem?_eq_some_iff.mp hi).1
                have := nodup_idx R'.nd (pre_get s.pre hi) ea
                omega
              have rc := (R'.cell m a cc ea ec).limit cl2
              rw [ep] at rc
              have R3 := R2.push hna (rc.step (Step.push .refl) rfl)
              have hl : (st'.take st.length).length = st.length := by rw [List.length_take]; omega
              refine h (.ref a) H' (ρ ++ [a]) (s2.push) R3 (.ref ?_)
              have q := R2.idx (p := a)
              rw [hl] at q
              exact q
            · exact h b H' ρ' s R' rv
          · exact h b H' ρ' s R' rv
        · exact h b H' ρ' s R' rv
    · exact h b H' ρ' s R' rv
theorem toR_ok {r : RS} {Q : VK} {E : XK} (h : OkG K A (RT K A) ρ H r.toR Q E) : OkS K A ρ H r { nx := fun _ H' => Q .non H', rt := Q } (fun k d _ H' => E k d H') := by
  cases r with
  | nx sl st => exact fun σ' H' ρ' s R S => h .non H' ρ' s R .non
  | rt t st => exact fun v H' ρ' s R r => h v H' ρ' s R r
  | bk sl st => exact h.elim
  | ct sl st => exact h.elim
  | xc x sl st => exact fun k d σ' H' ρ' s R S rx => h k d H' ρ' s R rx
  | stuck => exact h
theorem start_ok {vs : List V} {ts : List T} {N : List Str} {a k : Nat} (r : RTs K A ρ H vs ts) (hl : ts.length = a) (hk : N.length = k) : RSl K A ρ H (L2.start N vs) (ts.map some ++ List.replicate (k - a) none) := by
  refine ⟨?_, fun i t e => ?_⟩
  · unfold L2.start
    rw [List.length_append, List.length_append, List.length_map, List.length_map, List.length_replicate, List.length_replicate, r.length, hl, hk]
  · have hi : i < ts.length := by
      by_cases hi : i < ts.length
      · exact hi
      · rw [List.getElem?_append_right (by rw [List.length_map]; omega), List.getElem?_replicate] at e
        split at e <;> cases e
    rw [List.getElem?_append_left (by rw [List.length_map]; exact hi), List.getElem?_map] at e
    obtain ⟨u, e1, e2⟩ := Option.map_eq_some_iff.mp e
    cases e2
    obtain ⟨v, e3, q⟩ := r.get e1
    refine ⟨v, ?_, q⟩
    unfold L2.start
    rw [List.getElem?_append_left (by rw [List.length_map, r.length]; exact hi), List.getElem?_map, e3]
    rfl
end

def ars (fns : List Fn) (i : Nat) : Nat := match fns[i]? with
  | some F => F.arity
  | none => 0
/-- what is known of a def of the text -/
structure FnW (K : PySem.W.Frag) (mg : Str → Option Value) (gn : Gn) (F : Fn) (s : Stmt) (f : Addr) (fd : FuncData) (N : List Str) (m : Nat) : Prop where
  fn : L2.Fun K F.name F.name s f fd
  mgf : mg F.name = some (.ref f)
  bd : ∀ us : List Value, us.length = F.ps.length → bindArgs fd ⟨us, []⟩ = pure (F.ps.zip us)
  sc : FnScope N F.ps (defScope s)
  cmp : compSs m ⟨N, defScope s, fun _ => true, true, true, gn⟩ (defBody s) = some F.body
  ar : F.ps.length = F.arity
  sl : N.length = F.slots
def FnT (K : PySem.W.Frag) (mg : Str → Option Value) (gn : Gn) (F : Fn) : Prop := ∃ (s : Stmt) (f : Addr) (fd : FuncData) (N : List Str) (m : Nat), FnW K mg gn F s f fd N m
structure Txt (K : PySem.W.Frag) (mg : Str → Option Value) (A : Ad) (fns : List Fn) (G : Tab) (gn : Gn) : Prop where
  all : ∀ F ∈ fns, FnT K mg gn F
  nms : gn.fns = fns.map (·.name)
  blt : ∀ x : Str, gn.blt.contains x = true → mg x = none
  cst : ∀ (i : Nat) (x : Str), gn.cst[i]? = some x → ∃ u v t, mg x = some u ∧ RelV v u ∧ G.consts[i]? = some t ∧ ∀ ρ H, RT K A ρ H v t
  cls : ∀ (i : Nat) (x : Str), gn.cls[i]? = some x → ∃ Ca, mg x = some (.ref Ca) ∧ A.ca i = some Ca ∧ ExcF K Ca
theorem run_art (fns : List Fn) (G : Tab) : ∀ (n i : Nat) (ts : List T) (st : Store), ts.length ≠ ars fns i → run fns G n i ts st = .stuck
  | 0, _, _, _, _ => rfl
  | n + 1, i, ts, st, h => by
    unfold run
    unfold ars at h
    split
    · rename_i F e
      rw [e] at h
      rw [if_neg h]
    · rfl
section
variable {P : Program} {w : World} {K : PySem.W.Frag} {mg : Str → Option Value} {base : Heap} {A : Ad} {fns : List Fn} {G : Tab} {gn : Gn}
theorem fn_all (X : Txt K mg A fns G gn) : ∀ (n i : Nat) (F : Fn), fns[i]? = some F → ∀ {s : Stmt} {f : Addr} {fd : FuncData} {N : List Str} {m : Nat}, FnW K mg gn F s f fd N m → FnOk P w K mg base (L2.CX P w) n f fd F.ps (spEv K A (run fns G n) (ars fns) i)
  | n, i, F, e, s, f, fd, N, m, Wt => by
    obtain ⟨hF, hm, hb, S, hc, ha, hN⟩ := Wt
    have har : ars fns i = F.arity := by unfold ars; rw [e]
    have hlen : ∀ n vs H Q E, spEv K A (run fns G n) (ars fns) i vs H Q E → vs.length = F.ps.length := fun n vs H Q E h => by
      obtain ⟨ρ, st, ts, R, r, hl, _⟩ := h
      rw [r.length, hl, har, ha]
    cases n with
    | zero =>
      have no : ∀ vs H Q E, ¬ spEv K A (run fns G 0) (ars fns) i vs H Q E := fun vs H Q E h => by
        obtain ⟨ρ, st, ts, R, r, hl, h⟩ := h
        exact h
      exact ⟨fun vs H Q E h => absurd h (no vs H Q E), fun A outer s H args us vs Q E _ _ _ _ h => absurd h (no vs H Q E)⟩
    | succ n =>
      refine hF.okX S (hlen (n + 1)) fun cdv Ar outer s0 H vs Q E hr h => ?_
      obtain ⟨ρ, st, ts, R, r, hl, h⟩ := h
      rw [har] at hl
      unfold run at h
      rw [e] at h
      simp only [hl, if_true] at h
      have h' : OkG K A (RT K A) ρ H (evSs (run fns G n) G F.body (ts.map some ++ List.replicate (F.slots - F.arity) none) st).toR Q E := by
        cases hg : F.gc with
        | true => rw [hg] at h; exact gc_ok R h
        | false => rw [hg] at h; exact h
      have cxE : CxE (cxOf (L2.CX P w) P w K mg base N F.name (defScope s) f cdv Ar outer s0 H E) A (run fns G n) G (ars fns) ⟨N, defScope s, fun _ => true, true, true, gn⟩ (fun k d _ H' => E k d H') :=
        { calm := fun _ => rfl, N := rfl, nd := S.nd, sc := rfl, fnB := rfl,
          units := by have := hr.un; show (Ar.deeper _).units + 190 < cLine; omega
          tk := takes_of rfl rfl rfl rfl
          blt := X.blt
          fns := fun j x ej => by
            rw [X.nms, List.getElem?_map] at ej
            obtain ⟨F', e', rfl⟩ := Option.map_eq_some_iff.mp ej
            obtain ⟨s', f', fd', N', m', W'⟩ := X.all F' (List.mem_of_getElem? e')
            exact ⟨f', fd', F'.ps, n, W'.mgf, W'.fn.kp, .all W'.bd, fn_all X n j F' e' W', fun _ => hr⟩
          art := run_art fns G n
          cst := X.cst
          cls := X.cls }
      refine ⟨_, (allS m).ss hc (W := fun k d _ H' => E k d H') (cl := run fns G n) (G := G) (ar := ars fns) (A := A) ⟨cxE, PassesOwn.leaving, fun _ => ⟨rfl, rfl⟩⟩, ?_⟩
      exact ⟨ρ, st, _, R, start_ok r hl hN, toR_ok h'⟩
termination_by n => n
end

theorem exm_self {K : PySem.W.Frag} {S : Addr} (h1 : PySem.W.subIn K (.ref S) (.type "BaseException") = some true) (h2 : PySem.W.isClsIn K S = true) (h3 : PySem.W.typeIn K (.ref S) = some (.type "type")) (h4 : PySem.W.subIn K (.ref S) (.ref S) = some true) :
    PySem.W.exmOne K (.ref S) (.ref S) = some true := by
  have e1 : (PySem.W.subIn K (.ref S) (.type "BaseException") == some true) = true := by rw [h1] <;> rfl
  have e2 : ((PySem.W.clsIn K S).isSome && PySem.W.typeIn K (.ref S) == some (.type "type")) = true := by
    have h2' : (PySem.W.clsIn K S).isSome = true := h2
    rw [h2', h3] <;> rfl
  show (if (PySem.W.subIn K (.ref S) (.type "BaseException") == some true) = true then (if ((PySem.W.clsIn K S).isSome && PySem.W.typeIn K (.ref S) == some (.type "type")) = true then PySem.W.subIn K (.ref S) (.ref S) else none) else none) = some true
  rw [if_pos e1, if_pos e2]
  exact h4
theorem ints_rts {K : PySem.W.Frag} {A : Ad} {ρ : List Addr} {H : Hp} : ∀ ns : List Int, RTs K A ρ H (ns.map V.int) (ns.map T.int)
  | [] => .nil
  | n :: ns => .cons (.int n) (ints_rts ns)
/-- the law, from its run -/
theorem law_walk {l : PySem.W.OpenLaw} {q : Program} {loose : List Str} {XP : (Str → Option Value) → Heap → Prop} {YP : World → Heap → Prop} {d : DefRec} {K : Params → PySem.W.Frag} {fns : List Fn} {G : Tab} {gn : Gn} {N i : Nat} {F : Fn} {x : Str}
    (hn : l.most = some 63) (hdf : d.params.defaults = []) (hr : Room N callerA) (hi : fns[i]? = some F) (hname : F.name = d.name) (hps : F.ps = [x]) (har : F.arity = 1)
    (hY : ∀ (w : World) (h : Heap), YP w h → (K w.params).In h)
    (T : ∀ (w : World) (mg : Str → Option Value) (fa : Addr) (h : Heap), (K w.params).In h → h.Ns mainGlobals mg → mg d.name = some (.ref fa) → ∃ A : Ad, Txt (K w.params) mg A fns G gn)
    (hrun : ∀ ns : List Int, ns.length ≤ 63 → ∃ st, run fns G N i [.rol (ns.map .int)] [] = .ok (.bl true) st) :
    PySem.W.WalkO q loose XP YP l.row.toRowW d [] (fun f vs => PySem.call f vs) := by
  have har' : ars fns i = 1 := by unfold ars; rw [hi]; exact har
  refine L2.walk_of (n := 63) (k := N) (x := x) (CX := fun w => L2.CX l.prog w) (sp := fun w => fun vs H Q E => ∃ (a : Addr) (ns : List Int), vs = [.ref a] ∧ RoL (K w.params) H a (ns.map V.int) ∧ ns.length ≤ 63 ∧ ∀ H', Q (.bl true) H') hn (by decide) hdf hr hY ?_ ?_ ?_
  · intro w mg fa h KX hns hfa
    obtain ⟨A, X⟩ := T w mg fa h KX hns hfa
    obtain ⟨s, f, fd, Nn, m, Wt⟩ := X.all F (List.mem_of_getElem? hi)
    have q1 := Wt.mgf
    have q3 := Wt.bd
    rw [hname, hfa] at q1
    cases q1
    rw [hps] at q3
    refine ⟨fd, fun s u => .of_eq (q3 [u] rfl), fun base _ _ => ?_⟩
    have q := fn_all (P := l.prog) (w := w) (base := base) X N i F hi Wt
    rw [hps] at q
    refine q.imp fun vs H Q E hh => ?_
    obtain ⟨a, ns, rfl, hR, h63, hQ⟩ := hh
    obtain ⟨st, hst⟩ := hrun ns h63
    refine ⟨[], [], [.rol (ns.map .int)], ⟨rfl, List.nodup_nil, fun i a c e => by simp at e⟩, .cons (.rol hR (ints_rts ns)) .nil, by rw [har']; rfl, ?_⟩
    rw [hst]
    intro v H' ρ' _ _ r
    cases r
    exact hQ H'
  · intro w H a ns hl hO hS
    refine ⟨a, ns, rfl, ?_, hl, fun _ => rfl⟩
    rcases hS with hS | hS
    · rcases hS with hS | hS
      · rcases hO a with z | ⟨o, xs, z⟩
        · rw [hS] at z; cases z
        · rw [hS] at z; cases z
      · exact .inl hS
    · exact .inr hS
  · intro w H s e s' c
    obtain ⟨_, _, _, _, _, _, _, _, _, _, _, _, z⟩ := c
    exact z.elim
end PF

end

section
set_option Elab.async false
set_option linter.all false
set_option maxRecDepth 10000
set_option autoImplicit false
/-! PfF: reasoning about runs of the code. -/
namespace PF
open PySem

/-! ### loops -/
theorem forL_ind {J : Itv} {body : T → Sl → Store → RS} {P : RS → Prop} (n : Nat) (I : Nat → Sl → Store → Prop)
    (step : ∀ i sl st, i < n → I i sl st → ∃ x, J.get st i = some x ∧ (match body x sl st with
      | .nx sl' st' => I (i + 1) sl' st'
      | .ct sl' st' => I (i + 1) sl' st'
      | .bk sl' st' => P (.nx sl' st')
      | r => P r))
    (fin : ∀ sl st, I n sl st → J.len st = some n ∧ P (.nx sl st)) : ∀ (k i : Nat) (sl : Sl) (st : Store), i + k = n → I i sl st → P (forL J body k i sl st)
  | 0, i, sl, st, e, h => by
    have : i = n := by omega
    subst this
    obtain ⟨h1, h2⟩ := fin sl st h
    unfold forL
    rw [if_pos h1]; exact h2
  | k + 1, i, sl, st, e, h => by
    obtain ⟨x, h1, h2⟩ := step i sl st (by omega) h
    unfold forL
    rw [h1]
    simp only
    cases hb : body x sl st with
    | nx sl' st' => rw [hb] at h2; exact forL_ind n I step fin k (i + 1) sl' st' (by omega) h2
    | ct sl' st' => rw [hb] at h2; exact forL_ind n I step fin k (i + 1) sl' st' (by omega) h2
    | bk sl' st' => rw [hb] at h2; exact h2
    | rt t st' => rw [hb] at h2; exact h2
    | xc x sl' st' => rw [hb] at h2; exact h2
    | stuck => rw [hb] at h2; exact h2
/-- a loop that runs through: its states told by the turn -/
theorem forL_run {J : Itv} {body : T → Sl → Store → RS} (n : Nat) (S : Nat → Sl) (M : Nat → Store)
    (step : ∀ i, i < n → ∃ x, J.get (M i) i = some x ∧ (body x (S i) (M i) = .nx (S (i + 1)) (M (i + 1)) ∨ body x (S i) (M i) = .ct (S (i + 1)) (M (i + 1))))
    (fin : J.len (M n) = some n) : forL J body n 0 (S 0) (M 0) = .nx (S n) (M n) := by
  refine forL_ind (P := fun r => r = .nx (S n) (M n)) n (fun i sl st => sl = S i ∧ st = M i) ?_ ?_ n 0 _ _ (by omega) ⟨rfl, rfl⟩
  · rintro i sl st hi ⟨rfl, rfl⟩
    obtain ⟨x, h1, h2⟩ := step i hi
    refine ⟨x, h1, ?_⟩
    rcases h2 with h2 | h2 <;> rw [h2] <;> exact ⟨rfl, rfl⟩
  · rintro sl st ⟨rfl, rfl⟩
    exact ⟨fin, rfl⟩
theorem whileL_ind {c : Sl → Store → R Bool} {body : Sl → Store → RS} {P : RS → Prop} (I : Nat → Sl → Store → Prop)
    (step : ∀ m sl st, I m sl st → ∃ b st1, c sl st = .ok b st1 ∧ (if b = true then (match body sl st1 with
      | .nx sl' st' => ∃ m', m' < m ∧ I m' sl' st'
      | .ct sl' st' => ∃ m', m' < m ∧ I m' sl' st'
      | .bk sl' st' => P (.nx sl' st')
      | r => P r) else P (.nx sl st1))) : ∀ (k m : Nat) (sl : Sl) (st : Store), m < k → I m sl st → P (whileL c body k sl st)
  | 0, m, sl, st, e, h => by omega
  | k + 1, m, sl, st, e, h => by
    obtain ⟨b, st1, h1, h2⟩ := step m sl st h
    unfold whileL
    rw [h1, R.thenS_ok]
    cases b with
    | false => simpa using h2
    | true =>
      rw [if_pos rfl] at h2 ⊢
      cases hb : body sl st1 with
      | nx sl' st' =>
        rw [hb] at h2
        obtain ⟨m', hm, hi⟩ := h2
        exact whileL_ind I step k m' sl' st' (by omega) hi
      | ct sl' st' =>
        rw [hb] at h2
        obtain ⟨m', hm, hi⟩ := h2
        exact whileL_ind I step k m' sl' st' (by omega) hi
      | bk sl' st' => rw [hb] at h2; exact h2
      | rt t st' => rw [hb] at h2; exact h2
      | xc x sl' st' => rw [hb] at h2; exact h2
      | stuck => rw [hb] at h2; exact h2
theorem compL_ind {J : Itv} {d : Nat} {body : T → Store → R (Option T)} {P : R Unit → Prop} (n : Nat) (I : Nat → Store → Prop)
    (step : ∀ i st, i < n → I i st → ∃ x o st1, J.get st i = some x ∧ body x st = .ok o st1 ∧ (match o with
      | none => I (i + 1) st1
      | some y => ∃ acc, st1[d]? = some (.lst acc) ∧ acc.length < sizeLine ∧ I (i + 1) (st1.set d (.lst (acc ++ [y])))))
    (fin : ∀ st, I n st → J.len st = some n ∧ P (.ok () st)) : ∀ (k i : Nat) (st : Store), i + k = n → I i st → P (compL J d body k i st)
  | 0, i, st, e, h => by
    have : i = n := by omega
    subst this
    obtain ⟨h1, h2⟩ := fin st h
    unfold compL
    rw [if_pos h1]; exact h2
  | k + 1, i, st, e, h => by
    obtain ⟨x, o, st1, h1, h2, h3⟩ := step i st (by omega) h
    unfold compL
    rw [h1]
    simp only
    rw [h2, R.bind_ok]
    cases o with
    | none => exact compL_ind n I step fin k (i + 1) st1 (by omega) h3
    | some y =>
      obtain ⟨acc, h4, h5, h6⟩ := h3
      simp only [h4]
      rw [if_pos h5]
      exact compL_ind n I step fin k (i + 1) _ (by omega) h6
theorem take_map_snoc {α β : Type} (f : α → β) (xs : List α) (i : Nat) (hi : i < xs.length) : (xs.take i).map f ++ [f xs[i]] = (xs.take (i + 1)).map f := by
  rw [List.take_add_one, List.getElem?_eq_getElem hi, List.map_append]
  rfl
/-- a comprehension of plain values: f tells the items -/
theorem compL_map {J : Itv} {d : Nat} {body : T → Store → R (Option T)} {st : Store} (xs : List T) (f : T → T) (hd : d = st.length) (hl : xs.length ≤ sizeLine)
    (hg : ∀ acc i, J.get (st ++ [.lst acc]) i = xs[i]?) (hn : ∀ acc, J.len (st ++ [.lst acc]) = some xs.length)
    (hb : ∀ x acc, x ∈ xs → body x (st ++ [.lst acc]) = .ok (some (f x)) (st ++ [.lst acc])) : compL J d body xs.length 0 (st ++ [.lst []]) = .ok () (st ++ [.lst (xs.map f)]) := by
  subst hd
  refine compL_ind (P := fun r => r = .ok () (st ++ [.lst (xs.map f)])) xs.length (fun i s => s = st ++ [.lst ((xs.take i).map f)]) ?_ ?_ xs.length 0 (st ++ [.lst []]) (by omega) (by simp)
  · rintro i s hi rfl
    refine ⟨xs[i], some (f xs[i]), _, by rw [hg]; exact List.getElem?_eq_getElem hi, hb _ _ (List.getElem_mem hi), ?_⟩
    refine ⟨(xs.take i).map f, by simp, by simp; omega, ?_⟩
    rw [List.set_append_right _ _ (Nat.le_refl _), Nat.sub_self, List.set_cons_zero, take_map_snoc f xs i hi]
  · rintro s rfl
    refine ⟨hn _, by rw [List.take_length]⟩

/-! ### one step at a time -/
section
variable {st : Store} {i j : Int} {x y z : T} {n : Nat} {xs ys : List T} {kvs : List (T × T)}
theorem s_add : binT .Add (.int i) (.int j) st = .ok (.int (i + j)) st := rfl
theorem s_sub : binT .Sub (.int i) (.int j) st = .ok (.int (i - j)) st := rfl
theorem s_mul : binT .Mult (.int i) (.int j) st = if mulOk i j then .ok (.int (i * j)) st else .stuck := rfl
theorem s_div : binT .FloorDiv (.int i) (.int j) st = if 0 < j ∧ inS P30 j = true then .ok (.int (i / j)) st else .stuck := rfl
theorem s_mod : binT .Mod (.int i) (.int j) st = if 0 < j then .ok (.int (i % j)) st else .stuck := rfl
theorem s_addT : binT .Add (.tup xs) (.tup ys) st = if xs.length + ys.length ≤ sizeLine then .ok (.tup (xs ++ ys)) st else .stuck := rfl
theorem s_addL {m n : Nat} (h : st[m]? = some (.lst xs)) (h' : st[n]? = some (.lst ys)) : binT .Add (.ref m) (.ref n) st = if xs.length + ys.length ≤ sizeLine then alloc st (.lst (xs ++ ys)) else .stuck := by
  simp only [binT, h, h']
theorem s_eq : cmpT .Eq x y st = eqT st x y := rfl
theorem s_ne : cmpT .NotEq x y st = (eqT st x y).map (!·) := rfl
theorem s_lt : cmpT .Lt (.int i) (.int j) st = some (decide (i < j)) := rfl
theorem s_le : cmpT .LtE (.int i) (.int j) st = some (decide (i ≤ j)) := rfl
theorem s_gt : cmpT .Gt (.int i) (.int j) st = some (decide (j < i)) := rfl
theorem s_ge : cmpT .GtE (.int i) (.int j) st = some (decide (j ≤ i)) := rfl
theorem s_isB {a b : Bool} : cmpT .Is (.bl a) (.bl b) st = some (a == b) := rfl
theorem s_isnB {a b : Bool} : cmpT .IsNot (.bl a) (.bl b) st = some (a != b) := rfl
theorem s_isN : cmpT .Is .non .non st = some true := rfl
theorem s_isnN : cmpT .IsNot .non .non st = some false := rfl
theorem s_inL (h : st[n]? = some (.lst xs)) : cmpT .In x (.ref n) st = if isFlat x && xs.all isFlat then some (xs.any fun y => eqF y x) else none := by
  simp only [cmpT, h]
theorem s_inD (h : st[n]? = some (.dic kvs)) : cmpT .In x (.ref n) st = if isKey x then some (dLook x kvs).isSome else none := by
  simp only [cmpT, h]
theorem s_ninD (h : st[n]? = some (.dic kvs)) : cmpT .NotIn x (.ref n) st = if isKey x then some (!(dLook x kvs).isSome) else none := by
  simp only [cmpT, h]
theorem s_inT : cmpT .In x (.tup xs) st = if isFlat x && xs.all isFlat then some (xs.any fun y => eqF y x) else none := rfl
theorem s_ixT : ixT (.tup xs) (.int i) st = (ixN xs.length i).bind fun j => xs[j]? := rfl
theorem s_ixR : ixT (.rol xs) (.int i) st = (ixN xs.length i).bind fun j => xs[j]? := rfl
theorem s_ixL (h : st[n]? = some (.lst xs)) : ixT (.ref n) (.int i) st = (ixN xs.length i).bind fun j => xs[j]? := by
  simp only [ixT, h]
theorem s_ixD (h : st[n]? = some (.dic kvs)) : ixT (.ref n) x st = if isKey x then dLook x kvs else none := by
  simp only [ixT, h]
theorem s_keyI : isKey (.int i) = true := rfl
theorem s_keyS {s : Str} : isKey (.str s) = true := rfl
theorem s_setL {j : Nat} (h : st[n]? = some (.lst xs)) (hj : ixN xs.length i = some j) : setIx (.ref n) (.int i) x st = .ok () (st.set n (.lst (xs.set j x))) := by simp only [setIx, h, hj]
theorem s_setD (h : st[n]? = some (.dic kvs)) : setIx (.ref n) x y st = if isKey x ∧ kvs.length < sizeLine then .ok () (st.set n (.dic (dPut x y kvs))) else .stuck := by
  simp only [setIx, h]
theorem s_lenT : bfn .len [.tup xs] st = .ok (.int xs.length) st := rfl
theorem s_lenR : bfn .len [.rol xs] st = .ok (.int xs.length) st := rfl
theorem s_lenL (h : st[n]? = some (.lst xs)) : bfn .len [.ref n] st = .ok (.int xs.length) st := by simp only [bfn, h]
theorem s_lenD (h : st[n]? = some (.dic kvs)) : bfn .len [.ref n] st = .ok (.int kvs.length) st := by simp only [bfn, h]
theorem s_abs : bfn .abs [.int i] st = .ok (.int (if i < 0 then -i else i)) st := rfl
theorem s_int : bfn .int [.int i] st = .ok (.int i) st := rfl
theorem s_tupT : bfn .tuple [.tup xs] st = .ok (.tup xs) st := rfl
theorem s_tupL (h : st[n]? = some (.lst xs)) : bfn .tuple [.ref n] st = .ok (.tup xs) st := by simp only [bfn, h]
theorem s_lstT : bfn .list [.tup xs] st = alloc st (.lst xs) := rfl
theorem s_lstL (h : st[n]? = some (.lst xs)) : bfn .list [.ref n] st = alloc st (.lst xs) := by simp only [bfn, h]
theorem intsOf_map : ∀ (l : List Int), intsOf (l.map .int) = some l
  | [] => rfl
  | a :: l => by simp only [List.map_cons, intsOf, intsOf_map l, Option.map_some]
theorem boolsOf_map : ∀ (l : List Bool), boolsOf (l.map .bl) = some l
  | [] => rfl
  | a :: l => by simp only [List.map_cons, boolsOf, boolsOf_map l, Option.map_some]
theorem s_sum {l : List Int} (h : st[n]? = some (.lst (l.map .int))) : bfn .sum [.ref n] st = .ok (.int l.sum) st := by
  simp only [bfn, listAt, h, Option.bind_some, intsOf_map]
theorem s_all {l : List Bool} (h : st[n]? = some (.lst (l.map .bl))) : bfn .all [.ref n] st = .ok (.bl (l.all id)) st := by
  simp only [bfn, listAt, h, Option.bind_some, boolsOf_map]
theorem s_any {l : List Bool} (h : st[n]? = some (.lst (l.map .bl))) : bfn .any [.ref n] st = .ok (.bl (l.any id)) st := by
  simp only [bfn, listAt, h, Option.bind_some, boolsOf_map]
theorem s_min1 {l : List Int} (h : st[n]? = some (.lst (l.map .int))) : bfn .min1 [.ref n] st = if l.isEmpty then .stuck else .ok (.int (minL l)) st := by
  simp only [bfn, listAt, h, Option.bind_some, intsOf_map]
theorem s_max1 {l : List Int} (h : st[n]? = some (.lst (l.map .int))) : bfn .max1 [.ref n] st = if l.isEmpty then .stuck else .ok (.int (maxL l)) st := by
  simp only [bfn, listAt, h, Option.bind_some, intsOf_map]
theorem s_min2 : bfn .min2 [.int i, .int j] st = .ok (.int (if j < i then j else i)) st := rfl
theorem s_max2 : bfn .max2 [.int i, .int j] st = .ok (.int (if j > i then j else i)) st := rfl
theorem s_repr {b : Bool} : bfn .repr [.bl b] st = .ok (.str (reprB b)) st := rfl
theorem s_isi {ty : Ty} {as : List T} : bfn (.isi ty) as st = isiF ty as st := rfl
theorem s_append (h : st[n]? = some (.lst xs)) : mfn .append (.ref n) [x] st = if xs.length < sizeLine then .ok .non (st.set n (.lst (xs ++ [x]))) else .stuck := by
  simp only [mfn, mAppend, h]
theorem s_extend {m : Nat} (h : st[n]? = some (.lst xs)) (h' : st[m]? = some (.lst ys)) : mfn .extend (.ref n) [.ref m] st = if xs.length + ys.length ≤ sizeLine then .ok .non (st.set n (.lst (xs ++ ys))) else .stuck := by
  simp only [mfn, mExtend, h, h']
theorem s_get1 (h : st[n]? = some (.dic kvs)) : mfn .get (.ref n) [x] st = if isKey x then .ok ((dLook x kvs).getD .non) st else .stuck := by
  simp only [mfn, mGet, h]
theorem s_get2 (h : st[n]? = some (.dic kvs)) : mfn .get (.ref n) [x, y] st = if isKey x then .ok ((dLook x kvs).getD y) st else .stuck := by
  simp only [mfn, mGet, h]
theorem s_okA (h : st[n]? = some (.lst xs)) : mOk .append (.ref n) st = true := by simp only [mOk, isLst, h]
theorem s_okE (h : st[n]? = some (.lst xs)) : mOk .extend (.ref n) st = true := by simp only [mOk, isLst, h]
theorem s_okG (h : st[n]? = some (.dic kvs)) : mOk .get (.ref n) st = true := by simp only [mOk, isDic, h]
theorem s_truB {b : Bool} : tru st (.bl b) = some b := rfl
theorem s_truI : tru st (.int i) = some (i != 0) := rfl
theorem s_truT : tru st (.tup xs) = some (!xs.isEmpty) := rfl
theorem s_truN : tru st .non = some false := rfl
theorem s_truL (h : st[n]? = some (.lst xs)) : tru st (.ref n) = some (!xs.isEmpty) := by simp only [tru, h]
theorem s_truD (h : st[n]? = some (.dic kvs)) : tru st (.ref n) = some (!kvs.isEmpty) := by simp only [tru, h]
theorem s_tru {b : Bool} {t : T} (h : tru st t = some b) : truR st t = .ok b st := by unfold truR; rw [h]; rfl
theorem s_truRB {b : Bool} : truR st (.bl b) = .ok b st := rfl
theorem s_itT : itVal (.tup xs) st = some (.tup xs) := rfl
theorem s_itR : itVal (.rol xs) st = some (.rol xs) := rfl
theorem s_itL (h : st[n]? = some (.lst xs)) : itVal (.ref n) st = some (.lst n) := by simp only [itVal, h]
theorem s_itEn (h : st[n]? = some (.lst xs)) : itEnum (.ref n) st = some (.enumL n) := by simp only [itEnum, h]
theorem s_itZT : itZip (.tup xs) (.tup ys) st = some (.zipT xs ys) := rfl
theorem b62 {i : Int} (h0 : -1000000 < i) (hc : i < 1000000) : bnd62 i = true := by
  unfold bnd62; rw [inS_iff]; unfold P62; omega
theorem mul64 {i j : Int} (h : (-1000000000000 < i ∧ i < 1000000000000) ∨ (-1000000000000 < j ∧ j < 1000000000000)) : mulOk i j = true := by
  unfold mulOk; rw [Bool.or_eq_true, inS_iff, inS_iff]; unfold P64; omega
theorem in30 {i : Int} (h : -1073741824 < i ∧ i < 1073741824) : inS P30 i = true := by
  rw [inS_iff]; unfold P30; omega
theorem in62 {i : Int} (h : -1000000000000 < i ∧ i < 1000000000000) : inS P62 i = true := by
  rw [inS_iff]; unfold P62; omega
theorem s_rng1 {k : Nat} (h : bnd62 i = true) (hk : i.toNat = k) : itRange [.int i] = some (.rng 0 k) := by
  subst hk; unfold itRange; simp only [h, if_true]
theorem s_rng2 {k : Nat} (h : bnd62 i = true) (h' : bnd62 j = true) (hk : (j - i).toNat = k) : itRange [.int i, .int j] = some (.rng i k) := by
  subst hk; unfold itRange; simp only [h, h', Bool.and_self, if_true]
theorem s_lenIL (h : st[n]? = some (.lst xs)) : Itv.len st (.lst n) = some xs.length := by simp only [Itv.len, listAt, h, Option.map_some]
theorem s_lenIE (h : st[n]? = some (.lst xs)) : Itv.len st (.enumL n) = some xs.length := by simp only [Itv.len, listAt, h, Option.map_some]
theorem s_lenIT : Itv.len st (.tup xs) = some xs.length := rfl
theorem s_lenIR : Itv.len st (.rol xs) = some xs.length := rfl
theorem s_lenIN : Itv.len st (.rng i n) = some n := rfl
theorem s_lenIZ : Itv.len st (.zipT xs ys) = some (min xs.length ys.length) := rfl
theorem s_getIL (h : st[n]? = some (.lst xs)) {k : Nat} : Itv.get st k (.lst n) = xs[k]? := by simp only [Itv.get, listAt, h, Option.bind_some]
theorem s_getIE (h : st[n]? = some (.lst xs)) {k : Nat} : Itv.get st k (.enumL n) = pairT (some (.int k)) xs[k]? := by simp only [Itv.get, listAt, h, Option.bind_some]
theorem s_getIT {k : Nat} : Itv.get st k (.tup xs) = xs[k]? := rfl
theorem s_getIR {k : Nat} : Itv.get st k (.rol xs) = xs[k]? := rfl
theorem s_getIN {k : Nat} : Itv.get st k (.rng i n) = if k < n then some (.int (i + k)) else none := rfl
theorem s_getIZ {k : Nat} : Itv.get st k (.zipT xs ys) = pairT xs[k]? ys[k]? := rfl
theorem s_slcT {lo hi : Option Int} : slcT (.tup xs) lo hi st = .ok (.tup (cutT xs lo hi)) st := rfl
theorem s_slcL {lo hi : Option Int} (h : st[n]? = some (.lst xs)) : slcT (.ref n) lo hi st = alloc st (.lst (cutT xs lo hi)) := by simp only [slcT, h]
theorem s_revT : revT (.tup xs) st = .ok (.tup xs.reverse) st := rfl
theorem s_revL (h : st[n]? = some (.lst xs)) : revT (.ref n) st = alloc st (.lst xs.reverse) := by simp only [revT, h]
theorem s_alloc {c : Cell} : alloc st c = .ok (.ref st.length) (st ++ [c]) := rfl
theorem R.thenS_exc {α : Type} {sl : Sl} {x : Ex} {st : Store} {f : α → Store → RS} : (R.exc x st : R α).thenS sl f = .xc x sl st := rfl
theorem R.noExc_ok {α : Type} {a : α} {st : Store} : (R.ok a st).noExc = .ok a st := rfl
theorem s_repl {k : Int} (h : st[n]? = some (.lst xs)) : binT .Mult (.ref n) (.int k) st = if inS P62 k = true ∧ xs.length * k.toNat ≤ sizeLine then alloc st (.lst (List.replicate k.toNat xs).flatten) else .stuck := by
  simp only [binT, h]
end

theorem evE_comp {cl : Call} {G : Tab} {tg : Tg} {it : It} {c : Eo} {e : E} {own : List Nat} {sl : Sl} {st : Store} {J : Itv} {k : Nat} {r : R Unit} (hJ : evIt cl G it sl st = .ok J st) (hk : J.len st = some k)
    (hr : compL J st.length (fun x st => (evTg cl G tg x (wipeL sl own) st).bind fun sl' st => (evC cl G c sl' st).bind fun b st =>
        if b then (evE cl G e sl' st).bind fun y st => .ok (some y) st else .ok none st) k 0 (st ++ [.lst []]) = r) :
    evE cl G (.comp tg it c e own) sl st = (r.bind fun _ st' => .ok (.ref st.length) st').noExc := by
  conv => lhs; unfold evE
  simp only [hJ, R.bind_ok, hk, hr]
theorem comp_map {cl : Call} {G : Tab} {tg : Tg} {it : It} {c : Eo} {e : E} {own : List Nat} {sl : Sl} {st : Store} {J : Itv} (xs : List T) (f : T → T) (hJ : evIt cl G it sl st = .ok J st)
    (hl : xs.length ≤ sizeLine) (hg : ∀ acc i, J.get (st ++ [.lst acc]) i = xs[i]?) (hn : ∀ acc, J.len (st ++ [.lst acc]) = some xs.length) (hn' : J.len st = some xs.length)
    (hb : ∀ x acc, x ∈ xs → ((evTg cl G tg x (wipeL sl own) (st ++ [.lst acc])).bind fun sl' st => (evC cl G c sl' st).bind fun b st =>
        if b then (evE cl G e sl' st).bind fun y st => .ok (some y) st else .ok none st) = .ok (some (f x)) (st ++ [.lst acc])) :
    evE cl G (.comp tg it c e own) sl st = .ok (.ref st.length) (st ++ [.lst (xs.map f)]) := by
  rw [evE_comp hJ hn' (compL_map xs f rfl hl hg hn hb)]; rfl
end PF

end

section
set_option Elab.async false
set_option linter.all false
set_option maxRecDepth 10000
set_option autoImplicit false
/-! PfG: the laws' tape. -/
namespace PF
open PySem
def k_cells : Str := ⟨#[99, 101, 108, 108, 115]⟩
def k_at : Str := ⟨#[97, 116]⟩
def k_left : Str := ⟨#[108, 101, 102, 116]⟩
def k_seed : Str := ⟨#[115, 101, 101, 100]⟩
def k_salt : Str := ⟨#[115, 97, 108, 116]⟩
def tapeC (c : Nat) (a l s z : Int) : Cell := .dic [(.str k_cells, .ref c), (.str k_at, .int a), (.str k_left, .int l), (.str k_seed, .int s), (.str k_salt, .int z)]
def bTake : Ss := (.cons (.ifS (.and (.cmp .Eq (.ix (.var 0) (.cst (.str k_left))) (.cst (.int 0))) (.cmp .Lt (.ix (.var 0) (.cst (.str k_at))) (.bcall .len (.cons (.ix (.var 0) (.cst (.str k_cells))) .nil)))) (.cons (.asg (.sub (.var 0) (.cst (.str k_left))) (.ix (.ix (.var 0) (.cst (.str k_cells))) (.ix (.var 0) (.cst (.str k_at)))))
  (.cons (.asg (.sub (.var 0) (.cst (.str k_at))) (.bin .Add (.ix (.var 0) (.cst (.str k_at))) (.cst (.int 1))))
  .nil)) .nil)
  (.cons (.ifS (.cmp .Gt (.ix (.var 0) (.cst (.str k_left))) (.cst (.int 0))) (.cons (.asg (.nm 3) (.bin .Mod (.bcall .int (.cons (.ix (.var 0) (.cst (.str k_left))) .nil)) (.var 1)))
  (.cons (.asg (.sub (.var 0) (.cst (.str k_left))) (.bin .FloorDiv (.ix (.var 0) (.cst (.str k_left))) (.var 1)))
  (.cons (.ret (.var 3))
  .nil))) .nil)
  (.cons (.asg (.sub (.var 0) (.cst (.str k_salt))) (.bin .Add (.ix (.var 0) (.cst (.str k_salt))) (.cst (.int 1))))
  (.cons (.asg (.nm 2) (.bin .Mod (.bcall .int (.cons (.bin .Add (.bin .Mult (.ix (.var 0) (.cst (.str k_seed))) (.cst (.int 48271))) (.bin .Mult (.ix (.var 0) (.cst (.str k_salt))) (.cst (.int 69621)))) .nil)) (.cst (.int 2147483647))))
  (.cons (.asg (.nm 2) (.bin .Mod (.bcall .int (.cons (.bin .Add (.bin .Add (.bin .Mult (.var 2) (.var 2)) (.bin .Mult (.ix (.var 0) (.cst (.str k_salt))) (.cst (.int 40692)))) (.cst (.int 12345))) .nil)) (.cst (.int 2147483399))))
  (.cons (.ret (.bin .Mod (.bcall .int (.cons (.var 2) .nil)) (.var 1)))
  .nil))))))

theorem dl_cells {v a l s z : T} : dLook (.str k_cells) [(.str k_cells, v), (.str k_at, a), (.str k_left, l), (.str k_seed, s), (.str k_salt, z)] = some v := rfl
theorem dl_at {v a l s z : T} : dLook (.str k_at) [(.str k_cells, v), (.str k_at, a), (.str k_left, l), (.str k_seed, s), (.str k_salt, z)] = some a := rfl
theorem dl_left {v a l s z : T} : dLook (.str k_left) [(.str k_cells, v), (.str k_at, a), (.str k_left, l), (.str k_seed, s), (.str k_salt, z)] = some l := rfl
theorem dl_seed {v a l s z : T} : dLook (.str k_seed) [(.str k_cells, v), (.str k_at, a), (.str k_left, l), (.str k_seed, s), (.str k_salt, z)] = some s := rfl
theorem dl_salt {v a l s z : T} : dLook (.str k_salt) [(.str k_cells, v), (.str k_at, a), (.str k_left, l), (.str k_seed, s), (.str k_salt, z)] = some z := rfl
theorem dp_at {v a l s z w : T} : dPut (.str k_at) w [(.str k_cells, v), (.str k_at, a), (.str k_left, l), (.str k_seed, s), (.str k_salt, z)] = [(.str k_cells, v), (.str k_at, w), (.str k_left, l), (.str k_seed, s), (.str k_salt, z)] := rfl
theorem dp_left {v a l s z w : T} : dPut (.str k_left) w [(.str k_cells, v), (.str k_at, a), (.str k_left, l), (.str k_seed, s), (.str k_salt, z)] = [(.str k_cells, v), (.str k_at, a), (.str k_left, w), (.str k_seed, s), (.str k_salt, z)] := rfl
theorem dp_salt {v a l s z w : T} : dPut (.str k_salt) w [(.str k_cells, v), (.str k_at, a), (.str k_left, l), (.str k_seed, s), (.str k_salt, z)] = [(.str k_cells, v), (.str k_at, a), (.str k_left, l), (.str k_seed, s), (.str k_salt, w)] := rfl
theorem lt_size {k : Nat} (h : k < 1000) : k < sizeLine := Nat.lt_of_lt_of_le h (by simp [sizeLine])
theorem five_lt : (5 < sizeLine) = True := eq_true (lt_size (by omega))


/-- the tape stands at n, its cells at c -/
def Tp (n c : Nat) (xs : List Int) (st : Store) : Prop := n ≠ c ∧ st[c]? = some (.lst (xs.map .int)) ∧ ∃ a l s z, 0 ≤ a ∧ st[n]? = some (tapeC c a l s z)

theorem lt_of_get {st : Store} {n : Nat} {c : Cell} (h : st[n]? = some c) : n < st.length := by
  rcases Nat.lt_or_ge n st.length with h' | h'
  · exact h'
  · rw [List.getElem?_eq_none h'] at h; cases h
theorem get_set {st : Store} {n : Nat} {c d : Cell} (h : st[n]? = some c) : (st.set n d)[n]? = some d := by
  simp [List.getElem?_set, lt_of_get h]
theorem get_set_ne {st : Store} {n m : Nat} {c : Cell} (h : n ≠ m) : (st.set n c)[m]? = st[m]? := by
  simp [List.getElem?_set, h]
theorem set_set' {st : Store} {n : Nat} {c d : Cell} : (st.set n c).set n d = st.set n d := List.set_set ..

theorem eqT_int {st : Store} {i j : Int} : eqT st (.int i) (.int j) = some (decide (i = j)) := by
  simp [eqT, resD, toD, PyData.depth, PyData.eqv]
  rfl


theorem take1 {cl : Call} {G : Tab} {n c : Nat} {a l s z : Int} {st : Store} {xs : List Int} {many : Int} (h : st[n]? = some (tapeC c a l s z)) (hc : st[c]? = some (.lst (xs.map .int)))
  (hl : 0 < l) (h0 : 0 < many) (h1 : many < 1073741824) : evSs cl G bTake [some (.ref n), some (.int many), none, none] st = .rt (.int (l % many)) (st.set n (tapeC c a (l / many) s z)) := by
  have hl0 : decide (l = 0) = false := by simp; omega
  have h1 := in30 (i := many) (by omega)
  have hl1 : decide (0 < l) = true := by simp [hl]
  unfold bTake tapeC at *
  simp only [evSs, evS, evE, evEs, evIt, evTg, evTgs, evC, evEo, evKV, R.bind_ok, R.bind_exc, R.thenS_ok, R.thenS_exc, R.ofOpt_some, R.noExc_ok, s_add, s_sub, s_mul, s_div, s_mod, s_addT, s_eq, s_ne, s_lt, s_le, s_gt, s_ge, s_isB, s_isnB, s_isN, s_isnN, s_ixT, s_ixR, s_keyI, s_keyS, s_lenT, s_lenR, s_abs, s_int, s_tupT, s_truRB, s_min2, s_max2, s_repr, s_isi, s_itT, s_itR, s_itZT, s_lenIT, s_lenIR, s_lenIN, s_lenIZ, s_slcT, s_revT, s_alloc, List.getElem?_cons_zero, List.getElem?_cons_succ, List.set_cons_zero, List.set_cons_succ, Option.map_some, Option.bind_some, if_true, and_self, true_and, reduceIte, Bool.not_true, Bool.not_false, Bool.false_eq_true, eqT_int, Tgs.len, List.length_cons, List.length_nil, Nat.zero_add, Nat.reduceAdd, wipeL, decide_true, decide_false, s_ixD h, s_setD h, dl_left, dl_at, dl_cells, dl_seed, dl_salt, dp_at, dp_left, dp_salt, hl0, hl1, h0, h1, five_lt]
theorem take2 {cl : Call} {G : Tab} {n c : Nat} {a s z : Int} {st : Store} {xs : List Int} {many : Int} (h : st[n]? = some (tapeC c a 0 s z)) (hc : st[c]? = some (.lst (xs.map .int)))
  (hn : n ≠ c) (ha : 0 ≤ a) (x : Int) (hx : xs[a.toNat]? = some x) (h0 : 0 < many) (h1 : many < 1073741824) (hx0 : 0 < x) :
  evSs cl G bTake [some (.ref n), some (.int many), none, none] st = .rt (.int (x % many)) (st.set n (tapeC c (a + 1) (x / many) s z)) := by
  have hl1 : decide (0 < x) = true := by simp [hx0]
  have h1 := in30 (i := many) (by omega)
  have hlt : a < (xs.map T.int).length := by
    have := (List.getElem?_eq_some_iff.mp hx).1
    simp; omega
  have hlt' : decide (a < (xs.map T.int).length) = true := by simpa using hlt
  have hix : ixN (xs.map T.int).length a = some a.toNat := by
    unfold ixN; rw [if_pos ha, if_pos hlt]
  have hxx : (xs.map T.int)[a.toNat]? = some (.int x) := by simp [hx]
  have g1 : ∀ d e, ((st.set n d).set n e)[n]? = some e := fun d e => by rw [set_set', get_set h]
  have g2 : ∀ d, (st.set n d)[c]? = some (.lst (xs.map .int)) := fun d => by rw [get_set_ne hn, hc]
  have g3 : ∀ d, (st.set n d)[n]? = some d := fun d => get_set h
  have e0 : decide ((0 : Int) = 0) = true := rfl
  unfold bTake tapeC at *
  simp only [evSs, evS, evE, evEs, evIt, evTg, evTgs, evC, evEo, evKV, R.bind_ok, R.bind_exc, R.thenS_ok, R.thenS_exc, R.ofOpt_some, R.noExc_ok, s_add, s_sub, s_mul, s_div, s_mod, s_addT, s_eq, s_ne, s_lt, s_le, s_gt, s_ge, s_isB, s_isnB, s_isN, s_isnN, s_ixT, s_ixR, s_keyI, s_keyS, s_lenT, s_lenR, s_abs, s_int, s_tupT, s_truRB, s_min2, s_max2, s_repr, s_isi, s_itT, s_itR, s_itZT, s_lenIT, s_lenIR, s_lenIN, s_lenIZ, s_slcT, s_revT, s_alloc, List.getElem?_cons_zero, List.getElem?_cons_succ, List.set_cons_zero, List.set_cons_succ, Option.map_some, Option.bind_some, if_true, and_self, true_and, reduceIte, Bool.not_true, Bool.not_false, Bool.false_eq_true, eqT_int, Tgs.len, List.length_cons, List.length_nil, Nat.zero_add, Nat.reduceAdd, wipeL, decide_true, decide_false, s_ixD h, s_ixL hc, s_lenL hc, s_setD h, s_ixD (g3 _), s_ixL (g2 _), s_setD (g3 _), g1, g2, g3, set_set', hix, hxx, hlt', e0, dl_left, dl_at, dl_cells, dl_seed, dl_salt, dp_at, dp_left, dp_salt, hl1, h0, h1, five_lt]
theorem take3 {cl : Call} {G : Tab} {n c : Nat} {a s z : Int} {st : Store} {xs : List Int} {many : Int} (h : st[n]? = some (tapeC c a 0 s z)) (hc : st[c]? = some (.lst (xs.map .int)))
  (hn : n ≠ c) (ha : 0 ≤ a) (x : Int) (hx : xs[a.toNat]? = some x) (h0 : 0 < many) (hx0 : ¬ 0 < x) :
  ∃ k, evSs cl G bTake [some (.ref n), some (.int many), none, none] st = .rt (.int (k % many)) (st.set n (tapeC c (a + 1) x s (z + 1))) := by
  have hl1 : decide (0 < x) = false := by simpa using hx0
  have hlt : a < (xs.map T.int).length := by
    have := (List.getElem?_eq_some_iff.mp hx).1
    simp; omega
  have hlt' : decide (a < (xs.map T.int).length) = true := by simpa using hlt
  have hix : ixN (xs.map T.int).length a = some a.toNat := by
    unfold ixN; rw [if_pos ha, if_pos hlt]
  have hxx : (xs.map T.int)[a.toNat]? = some (.int x) := by simp [hx]
  have g2 : ∀ d, (st.set n d)[c]? = some (.lst (xs.map .int)) := fun d => by rw [get_set_ne hn, hc]
  have g3 : ∀ d, (st.set n d)[n]? = some d := fun d => get_set h
  have e0 : decide ((0 : Int) = 0) = true := rfl
  have m1 : mulOk s 48271 = true := mul64 (by omega)
  have m2 : mulOk (z + 1) 69621 = true := mul64 (by omega)
  have m4 : mulOk (z + 1) 40692 = true := mul64 (by omega)
  generalize hq : (s * 48271 + (z + 1) * 69621) % 2147483647 = q
  have m3 : mulOk q q = true := by
    apply mul64
    have := Int.emod_nonneg (s * 48271 + (z + 1) * 69621) (b := 2147483647) (by omega)
    have := Int.emod_lt_of_pos (s * 48271 + (z + 1) * 69621) (b := 2147483647) (by omega)
    omega
  have p1 : (0 : Int) < 2147483647 := by omega
  have p2 : (0 : Int) < 2147483399 := by omega
  refine ⟨(q * q + (z + 1) * 40692 + 12345) % 2147483399, ?_⟩
  unfold bTake tapeC at *
  simp only [evSs, evS, evE, evEs, evIt, evTg, evTgs, evC, evEo, evKV, R.bind_ok, R.bind_exc, R.thenS_ok, R.thenS_exc, R.ofOpt_some, R.noExc_ok, s_add, s_sub, s_mul, s_div, s_mod, s_addT, s_eq, s_ne, s_lt, s_le, s_gt, s_ge, s_isB, s_isnB, s_isN, s_isnN, s_ixT, s_ixR, s_keyI, s_keyS, s_lenT, s_lenR, s_abs, s_int, s_tupT, s_truRB, s_min2, s_max2, s_repr, s_isi, s_itT, s_itR, s_itZT, s_lenIT, s_lenIR, s_lenIN, s_lenIZ, s_slcT, s_revT, s_alloc, List.getElem?_cons_zero, List.getElem?_cons_succ, List.set_cons_zero, List.set_cons_succ, Option.map_some, Option.bind_some, if_true, and_self, true_and, reduceIte, Bool.not_true, Bool.not_false, Bool.false_eq_true, eqT_int, Tgs.len, List.length_cons, List.length_nil, Nat.zero_add, Nat.reduceAdd, wipeL, decide_true, decide_false, s_ixD h, s_ixL hc, s_lenL hc, s_setD h, s_ixD (g3 _), s_ixL (g2 _), s_setD (g3 _), g2, g3, set_set', hix, hxx, hlt', e0, dl_left, dl_at, dl_cells, dl_seed, dl_salt, dp_at, dp_left, dp_salt, hl1, h0, five_lt, m1, m2, m3, m4, p1, p2, hq]
theorem take4 {cl : Call} {G : Tab} {n c : Nat} {a l s z : Int} {st : Store} {xs : List Int} {many : Int} (h : st[n]? = some (tapeC c a l s z)) (hc : st[c]? = some (.lst (xs.map .int)))
  (hn : n ≠ c) (ha : 0 ≤ a) (hx : l ≠ 0 ∨ xs.length ≤ a) (h0 : 0 < many) (hx0 : ¬ 0 < l) :
  ∃ k, evSs cl G bTake [some (.ref n), some (.int many), none, none] st = .rt (.int (k % many)) (st.set n (tapeC c a l s (z + 1))) := by
  have hl1 : decide (0 < l) = false := by simpa using hx0
  have g2 : ∀ d, (st.set n d)[c]? = some (.lst (xs.map .int)) := fun d => by rw [get_set_ne hn, hc]
  have g3 : ∀ d, (st.set n d)[n]? = some d := fun d => get_set h
  have m1 : mulOk s 48271 = true := mul64 (by omega)
  have m2 : mulOk (z + 1) 69621 = true := mul64 (by omega)
  have m4 : mulOk (z + 1) 40692 = true := mul64 (by omega)
  generalize hq : (s * 48271 + (z + 1) * 69621) % 2147483647 = q
  have m3 : mulOk q q = true := by
    apply mul64
    have := Int.emod_nonneg (s * 48271 + (z + 1) * 69621) (b := 2147483647) (by omega)
    have := Int.emod_lt_of_pos (s * 48271 + (z + 1) * 69621) (b := 2147483647) (by omega)
    omega
  have p1 : (0 : Int) < 2147483647 := by omega
  have p2 : (0 : Int) < 2147483399 := by omega
  refine ⟨(q * q + (z + 1) * 40692 + 12345) % 2147483399, ?_⟩
  by_cases hl : l = 0
  · have e0 : decide (l = 0) = true := by simpa using hl
    have e1 : decide (a < (xs.map T.int).length) = false := by
      simp; omega
    unfold bTake tapeC at *
    simp only [evSs, evS, evE, evEs, evIt, evTg, evTgs, evC, evEo, evKV, R.bind_ok, R.bind_exc, R.thenS_ok, R.thenS_exc, R.ofOpt_some, R.noExc_ok, s_add, s_sub, s_mul, s_div, s_mod, s_addT, s_eq, s_ne, s_lt, s_le, s_gt, s_ge, s_isB, s_isnB, s_isN, s_isnN, s_ixT, s_ixR, s_keyI, s_keyS, s_lenT, s_lenR, s_abs, s_int, s_tupT, s_truRB, s_min2, s_max2, s_repr, s_isi, s_itT, s_itR, s_itZT, s_lenIT, s_lenIR, s_lenIN, s_lenIZ, s_slcT, s_revT, s_alloc, List.getElem?_cons_zero, List.getElem?_cons_succ, List.set_cons_zero, List.set_cons_succ, Option.map_some, Option.bind_some, if_true, and_self, true_and, reduceIte, Bool.not_true, Bool.not_false, Bool.false_eq_true, eqT_int, Tgs.len, List.length_cons, List.length_nil, Nat.zero_add, Nat.reduceAdd, wipeL, decide_true, decide_false, s_ixD h, s_ixL hc, s_lenL hc, s_setD h, s_ixD (g3 _), s_ixL (g2 _), s_setD (g3 _), g2, g3, set_set', e0, e1, dl_left, dl_at, dl_cells, dl_seed, dl_salt, dp_at, dp_left, dp_salt, hl1, h0, five_lt, m1, m2, m3, m4, p1, p2, hq]
  · have e0 : decide (l = 0) = false := by simpa using hl
    unfold bTake tapeC at *
    simp only [evSs, evS, evE, evEs, evIt, evTg, evTgs, evC, evEo, evKV, R.bind_ok, R.bind_exc, R.thenS_ok, R.thenS_exc, R.ofOpt_some, R.noExc_ok, s_add, s_sub, s_mul, s_div, s_mod, s_addT, s_eq, s_ne, s_lt, s_le, s_gt, s_ge, s_isB, s_isnB, s_isN, s_isnN, s_ixT, s_ixR, s_keyI, s_keyS, s_lenT, s_lenR, s_abs, s_int, s_tupT, s_truRB, s_min2, s_max2, s_repr, s_isi, s_itT, s_itR, s_itZT, s_lenIT, s_lenIR, s_lenIN, s_lenIZ, s_slcT, s_revT, s_alloc, List.getElem?_cons_zero, List.getElem?_cons_succ, List.set_cons_zero, List.set_cons_succ, Option.map_some, Option.bind_some, if_true, and_self, true_and, reduceIte, Bool.not_true, Bool.not_false, Bool.false_eq_true, eqT_int, Tgs.len, List.length_cons, List.length_nil, Nat.zero_add, Nat.reduceAdd, wipeL, decide_true, decide_false, s_ixD h, s_ixL hc, s_lenL hc, s_setD h, s_ixD (g3 _), s_ixL (g2 _), s_setD (g3 _), g2, g3, set_set', e0, dl_left, dl_at, dl_cells, dl_seed, dl_salt, dp_at, dp_left, dp_salt, hl1, h0, five_lt, m1, m2, m3, m4, p1, p2, hq]

theorem Tp.set {n c : Nat} {xs : List Int} {st : Store} (h : Tp n c xs st) {a l s z : Int} (ha : 0 ≤ a) : Tp n c xs (st.set n (tapeC c a l s z)) := by
  obtain ⟨h1, h2, a', l', s', z', h3, h4⟩ := h
  exact ⟨h1, by rw [get_set_ne h1, h2], a, l, s, z, ha, get_set h4⟩
/-- a drawn number -/
theorem take_b {cl : Call} {G : Tab} {n c : Nat} {xs : List Int} {st : Store} (h : Tp n c xs st) {many : Int} (h0 : 0 < many) (h1 : many < 1073741824) :
    ∃ k a l s z, 0 ≤ k ∧ k < many ∧ 0 ≤ a ∧ evSs cl G bTake [some (.ref n), some (.int many), none, none] st = .rt (.int k) (st.set n (tapeC c a l s z)) := by
  obtain ⟨hn, hc, a, l, s, z, ha, hg⟩ := h
  have q : ∀ k : Int, 0 ≤ k % many ∧ k % many < many := fun k => ⟨Int.emod_nonneg _ (by omega), Int.emod_lt_of_pos _ h0⟩
  by_cases hl : 0 < l
  · exact ⟨_, _, _, _, _, (q _).1, (q _).2, ha, take1 hg hc hl h0 h1⟩
  by_cases hl0 : l ≠ 0 ∨ (xs.length : Int) ≤ a
  · obtain ⟨k, hk⟩ := take4 (cl := cl) (G := G) hg hc hn ha hl0 h0 hl
    exact ⟨_, _, _, _, _, (q _).1, (q _).2, ha, hk⟩
  · simp only [not_or, ne_eq, Decidable.not_not] at hl0
    obtain ⟨rfl, h3⟩ := hl0
    have hx : xs[a.toNat]? = some (xs[a.toNat]'(by omega)) := List.getElem?_eq_getElem (by omega)
    generalize xs[a.toNat]'(by omega) = x at hx
    by_cases hx0 : 0 < x
    · exact ⟨_, _, _, _, _, (q _).1, (q _).2, by omega, take2 hg hc hn ha x hx h0 h1 hx0⟩
    · obtain ⟨k, hk⟩ := take3 (cl := cl) (G := G) hg hc hn ha x hx h0 hx0
      exact ⟨_, _, _, _, _, (q _).1, (q _).2, by omega, hk⟩

/-! ### calls -/
theorem gc_int {n : Nat} {k : Int} {st : Store} (h : st.length = n) : gc n (.ok (.int k) st) = .ok (.int k) st := by
  subst h
  simp only [gc, List.take_length, T.lim, if_true, ite_self]
theorem run_succ {fns : List Fn} {G : Tab} {N f : Nat} {F : Fn} {ts : List T} {st : Store} (h : fns[f]? = some F) (ha : ts.length = F.arity) :
    run fns G (N + 1) f ts st = (if F.gc then gc st.length else id) (evSs (run fns G N) G F.body (ts.map some ++ List.replicate (F.slots - F.arity) none) st).toR := by
  conv => lhs; unfold run
  rw [h]; simp only; rw [if_pos ha]
theorem T.lim_mono {m n : Nat} (h : m ≤ n) : ∀ {t : T}, t.lim m = true → t.lim n = true := by
  intro t
  induction t using T.rec (motive_2 := fun l => T.lims m l = true → T.lims n l = true) with
  | ref k => simp only [T.lim, decide_eq_true_eq]; omega
  | tup l ih => simpa only [T.lim] using ih
  | rol l ih => simpa only [T.lim] using ih
  | nil => simp [T.lims]
  | cons x xs ih1 ih2 => rename_i hh; simp only [T.lims, Bool.and_eq_true] at hh ⊢; exact ⟨ih1 hh.1, ih2 hh.2⟩
  | _ => simp [T.lim]
theorem Cell.lim_mono {m n : Nat} (h : m ≤ n) {c : Cell} : c.lim m = true → c.lim n = true := by
  cases c <;> simp only [Cell.lim, List.all_eq_true, Bool.and_eq_true, imp_self]
  · exact fun hh x hx => T.lim_mono h (hh x hx)
  · exact fun hh x hx => ⟨T.lim_mono h (hh x hx).1, T.lim_mono h (hh x hx).2⟩
  · exact fun hh x hx => T.lim_mono h (hh x hx)
  · exact fun hh x hx => T.lim_mono h (hh x hx)
/-- all that the store names is in it -/
def Cls (st : Store) : Prop := ∀ c ∈ st, c.lim st.length = true
theorem Cls.closed {st : Store} (h : Cls st) : Closed st st.length = true := by
  unfold Closed; rw [List.all_eq_true]; exact h
theorem Cls.app {st : Store} (h : Cls st) {c : Cell} (hc : c.lim (st.length + 1) = true) : Cls (st ++ [c]) := by
  intro d hd
  rw [List.length_append, List.length_singleton]
  rcases List.mem_append.mp hd with hd | hd
  · exact Cell.lim_mono (Nat.le_succ _) (h d hd)
  · rw [List.mem_singleton.mp hd]; exact hc
theorem Cls.set {st : Store} (h : Cls st) {n : Nat} {c : Cell} (hc : c.lim st.length = true) : Cls (st.set n c) := by
  intro d hd
  rw [List.length_set]
  rcases List.mem_or_eq_of_mem_set hd with hd | rfl
  · exact h d hd
  · exact hc
/-- a call that leaves the store as it was -/
theorem gc_pure {st st' : Store} {v : T} (h : Cls st) (hv : v.lim st.length = true) (ht : st'.take st.length = st) : gc st.length (.ok v st') = .ok v st := by
  have hl : st.length ≤ st'.length := by
    have := congrArg List.length ht
    rw [List.length_take] at this; omega
  simp only [gc, ht, h.closed, hv, hl, decide_true, Bool.and_self, if_true]
theorem gc_exc {st st' : Store} {c : Nat} (h : Cls st) (ht : st'.take st.length = st) : gc st.length (.exc ⟨c, []⟩ st') = .exc ⟨c, []⟩ st := by
  have hl : st.length ≤ st'.length := by
    have := congrArg List.length ht
    rw [List.length_take] at this; omega
  simp only [gc, ht, h.closed, hl, decide_true, List.all_nil, Bool.and_self, if_true]
/-- a call that tells a new flat list or dict -/
theorem gc_new {st st' : Store} {m : Nat} {c : Cell} (h : Cls st) (ht : st'.take st.length = st) (hm : st.length ≤ m) (hc : st'[m]? = some c) (hl : c.lim st.length = true) :
    gc st.length (.ok (.ref m) st') = .ok (.ref st.length) (st ++ [c]) := by
  have hl' : st.length ≤ st'.length := by
    have := congrArg List.length ht
    rw [List.length_take] at this; omega
  have hm' : (T.ref m).lim st.length = false := by simp [T.lim]; omega
  simp only [gc, ht, h.closed, hl', hm', decide_true, Bool.and_self, if_true, hc, hl, Bool.false_eq_true, if_false]
structure IsFn (F : Fn) (a s : Nat) (b : Ss) : Prop where
  arity : F.arity = a
  slots : F.slots = s
  gc : F.gc = true
  body : F.body = b
theorem run_gc {fns : List Fn} {G : Tab} {N f a s : Nat} {F : Fn} {b : Ss} {ts : List T} {st : Store} (h : fns[f]? = some F) (hF : IsFn F a s b) (ha : ts.length = a) :
    run fns G (N + 1) f ts st = gc st.length (evSs (run fns G N) G b (ts.map some ++ List.replicate (s - a) none) st).toR := by
  rw [run_succ h (by rw [ha, hF.arity]), hF.gc, hF.arity, hF.slots, hF.body, if_pos rfl]
theorem take_spec {fns : List Fn} {G : Tab} {N f : Nat} {F : Fn} (h : fns[f]? = some F) (hF : IsFn F 2 4 bTake) {n c : Nat} {xs : List Int} {st : Store} (ht : Tp n c xs st)
    {many : Int} (h0 : 0 < many) (h1 : many < 1073741824) : ∃ k a l s z, 0 ≤ k ∧ k < many ∧ 0 ≤ a ∧ run fns G (N + 1) f [.ref n, .int many] st = .ok (.int k) (st.set n (tapeC c a l s z)) := by
  obtain ⟨k, a, l, s, z, hk, hk', ha, hr⟩ := take_b (cl := run fns G N) (G := G) ht h0 h1
  refine ⟨k, a, l, s, z, hk, hk', ha, ?_⟩
  rw [run_gc h hF rfl]
  have e : ([T.ref n, T.int many].map some ++ List.replicate (4 - 2) none : Sl) = [some (.ref n), some (.int many), none, none] := rfl
  rw [e, hr]
  unfold RS.toR
  rw [gc_int (by rw [List.length_set])]
/-- the store with the tape in it -/
structure TSt (n c : Nat) (xs : List Int) (st : Store) : Prop where
  tp : Tp n c xs st
  cls : Cls st
theorem TSt.set {n c : Nat} {xs : List Int} {st : Store} (h : TSt n c xs st) {a l s z : Int} (ha : 0 ≤ a) : TSt n c xs (st.set n (tapeC c a l s z)) :=
  ⟨h.tp.set ha, h.cls.set (by
    have := lt_of_get h.tp.2.1
    simp [tapeC, Cell.lim, T.lim, this])⟩
theorem get_app {st : Store} {n : Nat} {c d : Cell} (h : st[n]? = some c) : (st ++ [d])[n]? = some c := by
  rw [List.getElem?_append_left (lt_of_get h), h]
theorem get_new {st : Store} {d : Cell} : (st ++ [d])[st.length]? = some d := by simp
theorem set_new {st : Store} {d e : Cell} : (st ++ [d]).set st.length e = st ++ [e] := by
  rw [List.set_append_right _ _ (Nat.le_refl _), Nat.sub_self, List.set_cons_zero]
theorem set_app {st : Store} {n : Nat} {c d e : Cell} (h : st[n]? = some c) : (st ++ [d]).set n e = st.set n e ++ [d] := by
  rw [List.set_append_left _ _ (lt_of_get h)]
theorem Tp.app {n c : Nat} {xs : List Int} {st : Store} (h : Tp n c xs st) {d : Cell} : Tp n c xs (st ++ [d]) := by
  obtain ⟨h1, h2, a', l', s', z', h3, h4⟩ := h
  exact ⟨h1, get_app h2, a', l', s', z', h3, get_app h4⟩
theorem TSt.app {n c : Nat} {xs : List Int} {st : Store} (h : TSt n c xs st) {d : Cell} (hd : d.lim (st.length + 1) = true) : TSt n c xs (st ++ [d]) := ⟨h.tp.app, h.cls.app hd⟩
/-- draws keep all but the tape -/
theorem take_call {fns : List Fn} {G : Tab} {N f : Nat} {F : Fn} (h : fns[f]? = some F) (hF : IsFn F 2 4 bTake) {n c : Nat} {xs : List Int} {st : Store} (ht : TSt n c xs st)
    {many : Int} (h0 : 0 < many) (h1 : many < 1073741824) : ∃ k st', 0 ≤ k ∧ k < many ∧ run fns G (N + 1) f [.ref n, .int many] st = .ok (.int k) st' ∧ TSt n c xs st' ∧
      st'.length = st.length ∧ ∀ m, m ≠ n → st'[m]? = st[m]? := by
  obtain ⟨k, a, l, s, z, hk, hk', ha, hr⟩ := take_spec (G := G) (N := N) h hF ht.tp h0 h1
  exact ⟨k, _, hk, hk', hr, ht.set ha, by rw [List.length_set], fun m hm => get_set_ne (Ne.symm hm)⟩

def bTape : Ss := (.cons (.asg (.nm 1) (.comp (.nm 3) (.val (.var 0)) .none (.bcall .abs (.cons (.bcall .int (.cons (.var 3) .nil)) .nil)) [3]))
  (.cons (.asg (.nm 2) (.cst (.int 7)))
  (.cons (.for (.nm 3) (.val (.var 1)) (.cons (.asg (.nm 2) (.bin .Mod (.bcall .int (.cons (.bin .Add (.bin .Mult (.var 2) (.cst (.int 31))) (.var 3)) .nil)) (.cst (.int 2147483647))))
  .nil))
  (.cons (.ret (.dct (.cons (.cst (.str k_cells)) (.var 1) (.cons (.cst (.str k_at)) (.cst (.int 0)) (.cons (.cst (.str k_left)) (.cst (.int 0)) (.cons (.cst (.str k_seed)) (.var 2) (.cons (.cst (.str k_salt)) (.cst (.int 0)) .nil)))))))
  .nil))))
theorem Ss_nil {cl : Call} {G : Tab} {sl : Sl} {st : Store} : evSs cl G .nil sl st = .nx sl st := by simp only [evSs]
theorem Ss_nx {cl : Call} {G : Tab} {s : S} {ss : Ss} {sl sl' : Sl} {st st' : Store} (h : evS cl G s sl st = .nx sl' st') : evSs cl G (.cons s ss) sl st = evSs cl G ss sl' st' := by
  simp only [evSs, h]
theorem Ss_rt {cl : Call} {G : Tab} {s : S} {ss : Ss} {sl : Sl} {st st' : Store} {t : T} (h : evS cl G s sl st = .rt t st') : evSs cl G (.cons s ss) sl st = .rt t st' := by
  simp only [evSs, h]
theorem Ss_xc {cl : Call} {G : Tab} {s : S} {ss : Ss} {sl sl' : Sl} {st st' : Store} {x : Ex} (h : evS cl G s sl st = .xc x sl' st') : evSs cl G (.cons s ss) sl st = .xc x sl' st' := by
  simp only [evSs, h]
theorem Ss_ct {cl : Call} {G : Tab} {s : S} {ss : Ss} {sl sl' : Sl} {st st' : Store} (h : evS cl G s sl st = .ct sl' st') : evSs cl G (.cons s ss) sl st = .ct sl' st' := by
  simp only [evSs, h]
theorem tape_b {cl : Call} {G : Tab} (ns : List Int) (hn : ns.length ≤ 63) : ∃ (xs : List Int) (s : Int), evSs cl G bTape [some (.rol (ns.map .int)), none, none, none] [] = .rt (.ref 1) [.lst (xs.map .int), tapeC 0 0 0 s 0] := by
  have hz : (ns.map T.int).length ≤ sizeLine := Nat.le_of_lt (lt_size (by simp; omega))
  let f : T → T := fun t => match t with | .int i => .int (if i < 0 then -i else i) | t => t
  have hf : (ns.map T.int).map f = (ns.map (fun i => if i < 0 then -i else i)).map .int := by simp [f]
  refine ⟨ns.map (fun i => if i < 0 then -i else i), ?_⟩
  generalize hx : ns.map (fun i => if i < 0 then -i else i) = xs at hf ⊢
  have h1 : evS cl G (.asg (.nm 1) (.comp (.nm 3) (.val (.var 0)) .none (.bcall .abs (.cons (.bcall .int (.cons (.var 3) .nil)) .nil)) [3])) [some (.rol (ns.map .int)), none, none, none] []
      = .nx [some (.rol (ns.map .int)), some (.ref 0), none, none] [.lst (xs.map .int)] := by
    have hc := comp_map (cl := cl) (G := G) (tg := .nm 3) (it := .val (.var 0)) (c := .none) (e := .bcall .abs (.cons (.bcall .int (.cons (.var 3) .nil)) .nil)) (own := [3]) (sl := [some (.rol (ns.map .int)), none, none, none]) (st := [])
      (ns.map .int) f (J := .rol (ns.map .int)) (by simp only [evSs, evS, evE, evEs, evIt, evTg, evTgs, evC, evEo, evKV, R.bind_ok, R.bind_exc, R.thenS_ok, R.thenS_exc, R.ofOpt_some, R.noExc_ok, s_add, s_sub, s_mul, s_div, s_mod, s_addT, s_eq, s_ne, s_lt, s_le, s_gt, s_ge, s_isB, s_isnB, s_isN, s_isnN, s_ixT, s_ixR, s_keyI, s_keyS, s_lenT, s_lenR, s_abs, s_int, s_tupT, s_truRB, s_min2, s_max2, s_repr, s_isi, s_itT, s_itR, s_itZT, s_lenIT, s_lenIR, s_lenIN, s_lenIZ, s_slcT, s_revT, s_alloc, List.getElem?_cons_zero, List.getElem?_cons_succ, List.set_cons_zero, List.set_cons_succ, Option.map_some, Option.bind_some, if_true, and_self, true_and, reduceIte, Bool.not_true, Bool.not_false, Bool.false_eq_true, eqT_int, Tgs.len, List.length_cons, List.length_nil, Nat.zero_add, Nat.reduceAdd, wipeL, decide_true, decide_false]) hz (fun _ _ => rfl) (fun _ => rfl) rfl (by
      intro x acc hxm
      obtain ⟨i, _, rfl⟩ := List.mem_map.mp hxm
      simp only [evSs, evS, evE, evEs, evIt, evTg, evTgs, evC, evEo, evKV, R.bind_ok, R.bind_exc, R.thenS_ok, R.thenS_exc, R.ofOpt_some, R.noExc_ok, s_add, s_sub, s_mul, s_div, s_mod, s_addT, s_eq, s_ne, s_lt, s_le, s_gt, s_ge, s_isB, s_isnB, s_isN, s_isnN, s_ixT, s_ixR, s_keyI, s_keyS, s_lenT, s_lenR, s_abs, s_int, s_tupT, s_truRB, s_min2, s_max2, s_repr, s_isi, s_itT, s_itR, s_itZT, s_lenIT, s_lenIR, s_lenIN, s_lenIZ, s_slcT, s_revT, s_alloc, List.getElem?_cons_zero, List.getElem?_cons_succ, List.set_cons_zero, List.set_cons_succ, Option.map_some, Option.bind_some, if_true, and_self, true_and, reduceIte, Bool.not_true, Bool.not_false, Bool.false_eq_true, eqT_int, Tgs.len, List.length_cons, List.length_nil, Nat.zero_add, Nat.reduceAdd, wipeL, decide_true, decide_false, f])
    simp only [evS]
    rw [hc]
    simp only [evSs, evS, evE, evEs, evIt, evTg, evTgs, evC, evEo, evKV, R.bind_ok, R.bind_exc, R.thenS_ok, R.thenS_exc, R.ofOpt_some, R.noExc_ok, s_add, s_sub, s_mul, s_div, s_mod, s_addT, s_eq, s_ne, s_lt, s_le, s_gt, s_ge, s_isB, s_isnB, s_isN, s_isnN, s_ixT, s_ixR, s_keyI, s_keyS, s_lenT, s_lenR, s_abs, s_int, s_tupT, s_truRB, s_min2, s_max2, s_repr, s_isi, s_itT, s_itR, s_itZT, s_lenIT, s_lenIR, s_lenIN, s_lenIZ, s_slcT, s_revT, s_alloc, List.getElem?_cons_zero, List.getElem?_cons_succ, List.set_cons_zero, List.set_cons_succ, Option.map_some, Option.bind_some, if_true, and_self, true_and, reduceIte, Bool.not_true, Bool.not_false, Bool.false_eq_true, eqT_int, Tgs.len, List.length_cons, List.length_nil, Nat.zero_add, Nat.reduceAdd, wipeL, decide_true, decide_false, hf]
    rfl
  have h3 : ∃ s x, evS cl G (.for (.nm 3) (.val (.var 1)) (.cons (.asg (.nm 2) (.bin .Mod (.bcall .int (.cons (.bin .Add (.bin .Mult (.var 2) (.cst (.int 31))) (.var 3)) .nil)) (.cst (.int 2147483647)))) .nil)) [some (.rol (ns.map .int)), some (.ref 0), some (.int 7), none] [.lst (xs.map .int)]
      = .nx [some (.rol (ns.map .int)), some (.ref 0), some (.int s), x] [.lst (xs.map .int)] := by
    have g : ([.lst (xs.map .int)] : Store)[0]? = some (.lst (xs.map .int)) := rfl
    have p : (0 : Int) < 2147483647 := by omega
    simp only [evSs, evS, evE, evEs, evIt, evTg, evTgs, evC, evEo, evKV, R.bind_ok, R.bind_exc, R.thenS_ok, R.thenS_exc, R.ofOpt_some, R.noExc_ok, s_add, s_sub, s_mul, s_div, s_mod, s_addT, s_eq, s_ne, s_lt, s_le, s_gt, s_ge, s_isB, s_isnB, s_isN, s_isnN, s_ixT, s_ixR, s_keyI, s_keyS, s_lenT, s_lenR, s_abs, s_int, s_tupT, s_truRB, s_min2, s_max2, s_repr, s_isi, s_itT, s_itR, s_itZT, s_lenIT, s_lenIR, s_lenIN, s_lenIZ, s_slcT, s_revT, s_alloc, List.getElem?_cons_zero, List.getElem?_cons_succ, List.set_cons_zero, List.set_cons_succ, Option.map_some, Option.bind_some, if_true, and_self, true_and, reduceIte, Bool.not_true, Bool.not_false, Bool.false_eq_true, eqT_int, Tgs.len, List.length_cons, List.length_nil, Nat.zero_add, Nat.reduceAdd, wipeL, decide_true, decide_false, s_itL g, s_lenIL g]
    refine forL_ind (P := fun r => ∃ s x, r = .nx [some (.rol (ns.map .int)), some (.ref 0), some (.int s), x] [.lst (xs.map .int)]) (xs.map T.int).length
      (fun i sl st => st = [.lst (xs.map .int)] ∧ ∃ s x, sl = [some (.rol (ns.map .int)), some (.ref 0), some (.int s), x]) ?_ ?_ _ 0 _ _ (by omega) ⟨rfl, _, _, rfl⟩
    · rintro i sl st hi ⟨rfl, s, x, rfl⟩
      have hi' : i < xs.length := by simpa using hi
      have m1 : mulOk s 31 = true := mul64 (by omega)
      refine ⟨.int xs[i], by rw [s_getIL g]; simp [hi'], ?_⟩
      simp only [evSs, evS, evE, evEs, evIt, evTg, evTgs, evC, evEo, evKV, R.bind_ok, R.bind_exc, R.thenS_ok, R.thenS_exc, R.ofOpt_some, R.noExc_ok, s_add, s_sub, s_mul, s_div, s_mod, s_addT, s_eq, s_ne, s_lt, s_le, s_gt, s_ge, s_isB, s_isnB, s_isN, s_isnN, s_ixT, s_ixR, s_keyI, s_keyS, s_lenT, s_lenR, s_abs, s_int, s_tupT, s_truRB, s_min2, s_max2, s_repr, s_isi, s_itT, s_itR, s_itZT, s_lenIT, s_lenIR, s_lenIN, s_lenIZ, s_slcT, s_revT, s_alloc, List.getElem?_cons_zero, List.getElem?_cons_succ, List.set_cons_zero, List.set_cons_succ, Option.map_some, Option.bind_some, if_true, and_self, true_and, reduceIte, Bool.not_true, Bool.not_false, Bool.false_eq_true, eqT_int, Tgs.len, List.length_cons, List.length_nil, Nat.zero_add, Nat.reduceAdd, wipeL, decide_true, decide_false, m1, p]
      exact ⟨_, _, rfl⟩
    · rintro sl st ⟨rfl, s, x, rfl⟩
      exact ⟨s_lenIL g, _, _, rfl⟩
  obtain ⟨s, x, h3⟩ := h3
  refine ⟨s, ?_⟩
  unfold bTape
  rw [Ss_nx h1]
  have h2 : evS cl G (.asg (.nm 2) (.cst (.int 7))) [some (.rol (ns.map .int)), some (.ref 0), none, none] [.lst (xs.map .int)] = .nx [some (.rol (ns.map .int)), some (.ref 0), some (.int 7), none] [.lst (xs.map .int)] := by simp only [evSs, evS, evE, evEs, evIt, evTg, evTgs, evC, evEo, evKV, R.bind_ok, R.bind_exc, R.thenS_ok, R.thenS_exc, R.ofOpt_some, R.noExc_ok, s_add, s_sub, s_mul, s_div, s_mod, s_addT, s_eq, s_ne, s_lt, s_le, s_gt, s_ge, s_isB, s_isnB, s_isN, s_isnN, s_ixT, s_ixR, s_keyI, s_keyS, s_lenT, s_lenR, s_abs, s_int, s_tupT, s_truRB, s_min2, s_max2, s_repr, s_isi, s_itT, s_itR, s_itZT, s_lenIT, s_lenIR, s_lenIN, s_lenIZ, s_slcT, s_revT, s_alloc, List.getElem?_cons_zero, List.getElem?_cons_succ, List.set_cons_zero, List.set_cons_succ, Option.map_some, Option.bind_some, if_true, and_self, true_and, reduceIte, Bool.not_true, Bool.not_false, Bool.false_eq_true, eqT_int, Tgs.len, List.length_cons, List.length_nil, Nat.zero_add, Nat.reduceAdd, wipeL, decide_true, decide_false]
  rw [Ss_nx h2, Ss_nx h3]
  simp only [evSs, evS, evE, evEs, evIt, evTg, evTgs, evC, evEo, evKV, R.bind_ok, R.bind_exc, R.thenS_ok, R.thenS_exc, R.ofOpt_some, R.noExc_ok, s_add, s_sub, s_mul, s_div, s_mod, s_addT, s_eq, s_ne, s_lt, s_le, s_gt, s_ge, s_isB, s_isnB, s_isN, s_isnN, s_ixT, s_ixR, s_keyI, s_keyS, s_lenT, s_lenR, s_abs, s_int, s_tupT, s_truRB, s_min2, s_max2, s_repr, s_isi, s_itT, s_itR, s_itZT, s_lenIT, s_lenIR, s_lenIN, s_lenIZ, s_slcT, s_revT, s_alloc, List.getElem?_cons_zero, List.getElem?_cons_succ, List.set_cons_zero, List.set_cons_succ, Option.map_some, Option.bind_some, if_true, and_self, true_and, reduceIte, Bool.not_true, Bool.not_false, Bool.false_eq_true, eqT_int, Tgs.len, List.length_cons, List.length_nil, Nat.zero_add, Nat.reduceAdd, wipeL, decide_true, decide_false]
  rfl
theorem tape_spec {fns : List Fn} {G : Tab} {N f : Nat} {F : Fn} (h : fns[f]? = some F) (hF : IsFn F 1 4 bTape) (ns : List Int) (hn : ns.length ≤ 63) :
    ∃ xs st, run fns G (N + 1) f [.rol (ns.map .int)] [] = .ok (.ref 1) st ∧ TSt 1 0 xs st ∧ st.length = 2 := by
  obtain ⟨xs, s, hr⟩ := tape_b (cl := run fns G N) (G := G) ns hn
  refine ⟨xs, [.lst (xs.map .int), tapeC 0 0 0 s 0], ?_, ⟨⟨by omega, rfl, 0, 0, s, 0, by omega, rfl⟩, ?_⟩, rfl⟩
  · rw [run_gc h hF rfl]
    have e : ([T.rol (ns.map .int)].map some ++ List.replicate (4 - 1) none : Sl) = [some (.rol (ns.map .int)), none, none, none] := rfl
    rw [e, hr]
    rfl
  · intro c hc
    simp only [List.mem_cons, List.not_mem_nil, or_false] at hc
    rcases hc with rfl | rfl
    · simp [Cell.lim, T.lim]
    · rfl

/-! ### stepping -/
theorem Ss_cons {cl : Call} {G : Tab} {s : S} {ss : Ss} {sl : Sl} {st : Store} : evSs cl G (.cons s ss) sl st = (evS cl G s sl st).seq (evSs cl G ss) := by
  simp only [evSs]; cases evS cl G s sl st <;> rfl
theorem q_nx {sl : Sl} {st : Store} {f : Sl → Store → RS} : (RS.nx sl st).seq f = f sl st := rfl
theorem q_rt {t : T} {st : Store} {f : Sl → Store → RS} : (RS.rt t st).seq f = .rt t st := rfl
theorem q_bk {sl : Sl} {st : Store} {f : Sl → Store → RS} : (RS.bk sl st).seq f = .bk sl st := rfl
theorem q_ct {sl : Sl} {st : Store} {f : Sl → Store → RS} : (RS.ct sl st).seq f = .ct sl st := rfl
theorem q_xc {x : Ex} {sl : Sl} {st : Store} {f : Sl → Store → RS} : (RS.xc x sl st).seq f = .xc x sl st := rfl
theorem r_nx {sl : Sl} {st : Store} : (RS.nx sl st).toR = .ok .non st := rfl
theorem r_rt {t : T} {st : Store} : (RS.rt t st).toR = .ok t st := rfl
theorem r_xc {x : Ex} {sl : Sl} {st : Store} : (RS.xc x sl st).toR = .exc x st := rfl
theorem seq_of {P : RS → Prop} {r : RS} {f : Sl → Store → RS} (Q : RS → Prop) (hq : Q r) (hn : ∀ r, Q r → P (r.seq f)) : P (r.seq f) := hn r hq
theorem b_decT {p : Prop} [Decidable p] (h : p) : decide p = true := decide_eq_true h
theorem b_decF {p : Prop} [Decidable p] (h : ¬ p) : decide p = false := decide_eq_false h
theorem ixN_nat {n i : Nat} (h : i < n) : ixN n (i : Int) = some i := by
  unfold ixN; rw [if_pos (by omega), if_pos (by omega)]; simp
theorem evS_for {cl : Call} {G : Tab} {tg : Tg} {it : It} {b : Ss} {sl : Sl} {st st' : Store} {J : Itv} {k : Nat} (hJ : evIt cl G it sl st = .ok J st') (hk : J.len st' = some k) :
    evS cl G (.for tg it b) sl st = forL J (fun x sl st => (evTg cl G tg x sl st).noExc.thenS sl fun sl st => evSs cl G b sl st) k 0 sl st' := by
  conv => lhs; unfold evS
  simp only [hJ, R.thenS_ok, hk]
/-- a for loop, by an invariant -/
theorem for_ind {cl : Call} {G : Tab} {tg : Tg} {it : It} {b : Ss} {sl : Sl} {st st' : Store} {J : Itv} {P : RS → Prop} (n : Nat) (I : Nat → Sl → Store → Prop)
    (hJ : evIt cl G it sl st = .ok J st') (hk : J.len st' = some n) (h0 : I 0 sl st')
    (step : ∀ i sl st, i < n → I i sl st → ∃ x sl1 st1, J.get st i = some x ∧ evTg cl G tg x sl st = .ok sl1 st1 ∧ (match evSs cl G b sl1 st1 with
      | .nx sl' st' => I (i + 1) sl' st'
      | .ct sl' st' => I (i + 1) sl' st'
      | .bk sl' st' => P (.nx sl' st')
      | r => P r))
    (fin : ∀ sl st, I n sl st → J.len st = some n ∧ P (.nx sl st)) : P (evS cl G (.for tg it b) sl st) := by
  rw [evS_for hJ hk]
  refine forL_ind n I ?_ fin n 0 sl st' (by omega) h0
  intro i sl st hi h
  obtain ⟨x, sl1, st1, h1, h2, h3⟩ := step i sl st hi h
  refine ⟨x, h1, ?_⟩
  rw [h2, R.noExc_ok, R.thenS_ok]
  exact h3
/-- a while loop, by an invariant and a measure -/
theorem while_ind {cl : Call} {G : Tab} {c : E} {b : Ss} {sl : Sl} {st : Store} {P : RS → Prop} (I : Nat → Sl → Store → Prop) (m : Nat) (hm : m < 1000000) (h0 : I m sl st)
    (step : ∀ m sl st, I m sl st → ∃ t b1 st1, evE cl G c sl st = .ok t st1 ∧ tru st1 t = some b1 ∧ (if b1 = true then (match evSs cl G b sl st1 with
      | .nx sl' st' => ∃ m', m' < m ∧ I m' sl' st'
      | .ct sl' st' => ∃ m', m' < m ∧ I m' sl' st'
      | .bk sl' st' => P (.nx sl' st')
      | r => P r) else P (.nx sl st1))) : P (evS cl G (.whl c b) sl st) := by
  conv => arg 1; unfold evS
  refine whileL_ind I ?_ WF m sl st (Nat.lt_of_lt_of_le hm (by simp [WF])) h0
  intro m sl st h
  obtain ⟨t, b1, st1, h1, h2, h3⟩ := step m sl st h
  refine ⟨b1, st1, ?_, h3⟩
  rw [h1, R.bind_ok, truR, h2, R.ofOpt_some]
theorem run_as {fns : List Fn} {G : Tab} {N f a s : Nat} {F : Fn} {b : Ss} {ts : List T} {st : Store} (h : fns[f]? = some F) (hF : IsFn F a s b) (sl : Sl) (ha : ts.length = a) (e : ts.map some ++ List.replicate (s - a) none = sl) :
    run fns G (N + 1) f ts st = gc st.length (evSs (run fns G N) G b sl st).toR := by
  rw [run_gc h hF ha, e]
theorem it_rng1 {cl : Call} {G : Tab} {e : E} {sl : Sl} {st st' : Store} {i : Int} {k : Nat} (he : evE cl G e sl st = .ok (.int i) st') (h : bnd62 i = true) (hk : i.toNat = k) :
    evIt cl G (.range (.cons e .nil)) sl st = .ok (.rng 0 k) st' := by
  simp only [evIt, evEs, he, R.bind_ok, s_rng1 h hk, R.ofOpt_some]
theorem it_rng2 {cl : Call} {G : Tab} {e e' : E} {sl : Sl} {st st' st'' : Store} {i j : Int} {k : Nat} (he : evE cl G e sl st = .ok (.int i) st') (he' : evE cl G e' sl st' = .ok (.int j) st'') (h : bnd62 i = true) (h' : bnd62 j = true) (hk : (j - i).toNat = k) :
    evIt cl G (.range (.cons e (.cons e' .nil))) sl st = .ok (.rng i k) st'' := by
  simp only [evIt, evEs, he, he', R.bind_ok, s_rng2 h h' hk, R.ofOpt_some]
end PF

end

section
/-! The code of the text, printed by gen.py from T.py. -/
namespace Lw
open PF PySem
def s_values : Str := ⟨#[118, 97, 108, 117, 101, 115]⟩
def s_circle : Str := ⟨#[99, 105, 114, 99, 108, 101]⟩
def s_cells : Str := ⟨#[99, 101, 108, 108, 115]⟩
def s_at : Str := ⟨#[97, 116]⟩
def s_left : Str := ⟨#[108, 101, 102, 116]⟩
def s_seed : Str := ⟨#[115, 101, 101, 100]⟩
def s_salt : Str := ⟨#[115, 97, 108, 116]⟩
def b_check_differences : Ss := (.cons (.ifS (.not (.chn .LtE .LtE (.cst (.int 1)) (.var 0) (.glb 0))) (.cons (.raise 1 .nil)
  .nil) .nil)
  (.cons (.for (.tup (.cons (.nm 2) (.cons (.nm 3) (.cons (.nm 4) .nil)))) (.val (.var 1)) (.cons (.ifS (.or (.not (.chn .LtE .Lt (.cst (.int 0)) (.var 2) (.var 0))) (.not (.chn .LtE .Lt (.cst (.int 0)) (.var 3) (.var 0)))) (.cons (.raise 1 .nil)
  .nil) .nil)
  .nil))
  .nil))
def b_differences : Ss := (.cons (.expr (.call 0 (.cons (.var 0) (.cons (.var 1) .nil))))
  (.cons (.asg (.nm 2) (.bin .Mult (.lst (.cons (.cst (.int 0)) .nil)) (.var 0)))
  (.cons (.asg (.nm 3) (.bin .Mult (.lst (.cons (.neg (.cst (.int 1))) .nil)) (.var 0)))
  (.cons (.asg (.nm 4) (.neg (.cst (.int 1))))
  (.cons (.for (.nm 5) (.range (.cons (.bin .Add (.var 0) (.cst (.int 1))) .nil)) (.cons (.asg (.nm 4) (.neg (.cst (.int 1))))
  (.cons (.for (.tup (.cons (.nm 8) (.cons (.tup (.cons (.nm 9) (.cons (.nm 10) (.cons (.nm 11) .nil)))) .nil))) (.enum (.var 1)) (.cons (.ifS (.cmp .Lt (.bin .Add (.ix (.var 2) (.var 10)) (.var 11)) (.ix (.var 2) (.var 9))) (.cons (.asg (.sub (.var 2) (.var 9)) (.bin .Add (.ix (.var 2) (.var 10)) (.var 11)))
  (.cons (.asg (.sub (.var 3) (.var 9)) (.var 8))
  (.cons (.asg (.nm 4) (.var 9))
  .nil))) .nil)
  .nil))
  (.cons (.ifS (.cmp .Lt (.var 4) (.cst (.int 0))) (.cons (.ret (.tup (.cons (.cst (.str s_values)) (.cons (.bcall .tuple (.cons (.var 2) .nil)) .nil))))
  .nil) .nil)
  .nil))))
  (.cons (.for (.nm 5) (.range (.cons (.var 0) .nil)) (.cons (.asg (.nm 4) (.ix (.ix (.var 1) (.ix (.var 3) (.var 4))) (.cst (.int 1))))
  .nil))
  (.cons (.asg (.nm 6) (.lst .nil))
  (.cons (.asg (.nm 7) (.var 4))
  (.cons (.whl (.or (.not (.var 6)) (.cmp .NotEq (.var 7) (.var 4))) (.cons (.expr (.mcall .append (.var 6) (.cons (.ix (.var 3) (.var 7)) .nil)))
  (.cons (.asg (.nm 7) (.ix (.ix (.var 1) (.ix (.var 3) (.var 7))) (.cst (.int 1))))
  .nil)))
  (.cons (.ret (.tup (.cons (.cst (.str s_circle)) (.cons (.bcall .tuple (.cons (.var 6) .nil)) .nil))))
  .nil))))))))))
def b_keeps : Ss := (.cons (.expr (.call 0 (.cons (.var 0) (.cons (.var 1) .nil))))
  (.cons (.ret (.and (.cmp .Eq (.bcall .len (.cons (.var 2) .nil)) (.var 0)) (.bcall .all (.cons (.comp (.tup (.cons (.nm 3) (.cons (.nm 4) (.cons (.nm 5) .nil)))) (.val (.var 1)) .none (.cmp .LtE (.bin .Sub (.ix (.var 2) (.var 3)) (.ix (.var 2) (.var 4))) (.var 5)) [3, 4, 5]) .nil))))
  .nil))
def b_is_against : Ss := (.cons (.expr (.call 0 (.cons (.var 0) (.cons (.var 1) .nil))))
  (.cons (.ifS (.or (.cmp .Eq (.bcall .len (.cons (.var 2) .nil)) (.cst (.int 0))) (.not (.bcall .all (.cons (.comp (.nm 3) (.val (.var 2)) .none (.chn .LtE .Lt (.cst (.int 0)) (.var 3) (.bcall .len (.cons (.var 1) .nil))) [3]) .nil)))) (.cons (.ret (.cst (.bl false)))
  .nil) .nil)
  (.cons (.for (.tup (.cons (.nm 3) (.cons (.nm 4) .nil))) (.zip (.var 2) (.bin .Add (.slc (.var 2) (.some (.cst (.int 1))) .none) (.slc (.var 2) .none (.some (.cst (.int 1)))))) (.cons (.ifS (.cmp .NotEq (.ix (.ix (.var 1) (.var 3)) (.cst (.int 1))) (.ix (.ix (.var 1) (.var 4)) (.cst (.int 0)))) (.cons (.ret (.cst (.bl false)))
  .nil) .nil)
  .nil))
  (.cons (.ret (.cmp .Lt (.bcall .sum (.cons (.comp (.nm 3) (.val (.var 2)) .none (.ix (.ix (.var 1) (.var 3)) (.cst (.int 2))) [3]) .nil)) (.cst (.int 0))))
  .nil))))
def b_tightest : Ss := (.cons (.expr (.call 0 (.cons (.var 0) (.cons (.var 1) .nil))))
  (.cons (.ifS (.cmp .Eq (.ix (.call 1 (.cons (.var 0) (.cons (.var 1) .nil))) (.cst (.int 0))) (.cst (.str s_circle))) (.cons (.raise 1 .nil)
  .nil) .nil)
  (.cons (.ifS (.or (.not (.chn .LtE .Lt (.cst (.int 0)) (.var 2) (.var 0))) (.not (.chn .LtE .Lt (.cst (.int 0)) (.var 3) (.var 0)))) (.cons (.raise 1 .nil)
  .nil) .nil)
  (.cons (.asg (.nm 4) (.dct (.cons (.var 3) (.cst (.int 0)) .nil)))
  (.cons (.for (.nm 5) (.range (.cons (.var 0) .nil)) (.cons (.for (.tup (.cons (.nm 6) (.cons (.nm 7) (.cons (.nm 8) .nil)))) (.val (.var 1)) (.cons (.ifS (.and (.cmp .In (.var 7) (.var 4)) (.cmp .Lt (.bin .Add (.ix (.var 4) (.var 7)) (.var 8)) (.mcall .get (.var 4) (.cons (.var 6) (.cons (.bin .Add (.bin .Add (.ix (.var 4) (.var 7)) (.var 8)) (.cst (.int 1))) .nil))))) (.cons (.asg (.sub (.var 4) (.var 6)) (.bin .Add (.ix (.var 4) (.var 7)) (.var 8)))
  .nil) .nil)
  .nil))
  .nil))
  (.cons (.ret (.mcall .get (.var 4) (.cons (.var 2) .nil)))
  .nil))))))
def b__law_tape : Ss := (.cons (.asg (.nm 1) (.comp (.nm 3) (.val (.var 0)) .none (.bcall .abs (.cons (.bcall .int (.cons (.var 3) .nil)) .nil)) [3]))
  (.cons (.asg (.nm 2) (.cst (.int 7)))
  (.cons (.for (.nm 3) (.val (.var 1)) (.cons (.asg (.nm 2) (.bin .Mod (.bcall .int (.cons (.bin .Add (.bin .Mult (.var 2) (.cst (.int 31))) (.var 3)) .nil)) (.cst (.int 2147483647))))
  .nil))
  (.cons (.ret (.dct (.cons (.cst (.str s_cells)) (.var 1) (.cons (.cst (.str s_at)) (.cst (.int 0)) (.cons (.cst (.str s_left)) (.cst (.int 0)) (.cons (.cst (.str s_seed)) (.var 2) (.cons (.cst (.str s_salt)) (.cst (.int 0)) .nil)))))))
  .nil))))
def b__law_take : Ss := (.cons (.ifS (.and (.cmp .Eq (.ix (.var 0) (.cst (.str s_left))) (.cst (.int 0))) (.cmp .Lt (.ix (.var 0) (.cst (.str s_at))) (.bcall .len (.cons (.ix (.var 0) (.cst (.str s_cells))) .nil)))) (.cons (.asg (.sub (.var 0) (.cst (.str s_left))) (.ix (.ix (.var 0) (.cst (.str s_cells))) (.ix (.var 0) (.cst (.str s_at)))))
  (.cons (.asg (.sub (.var 0) (.cst (.str s_at))) (.bin .Add (.ix (.var 0) (.cst (.str s_at))) (.cst (.int 1))))
  .nil)) .nil)
  (.cons (.ifS (.cmp .Gt (.ix (.var 0) (.cst (.str s_left))) (.cst (.int 0))) (.cons (.asg (.nm 3) (.bin .Mod (.bcall .int (.cons (.ix (.var 0) (.cst (.str s_left))) .nil)) (.var 1)))
  (.cons (.asg (.sub (.var 0) (.cst (.str s_left))) (.bin .FloorDiv (.ix (.var 0) (.cst (.str s_left))) (.var 1)))
  (.cons (.ret (.var 3))
  .nil))) .nil)
  (.cons (.asg (.sub (.var 0) (.cst (.str s_salt))) (.bin .Add (.ix (.var 0) (.cst (.str s_salt))) (.cst (.int 1))))
  (.cons (.asg (.nm 2) (.bin .Mod (.bcall .int (.cons (.bin .Add (.bin .Mult (.ix (.var 0) (.cst (.str s_seed))) (.cst (.int 48271))) (.bin .Mult (.ix (.var 0) (.cst (.str s_salt))) (.cst (.int 69621)))) .nil)) (.cst (.int 2147483647))))
  (.cons (.asg (.nm 2) (.bin .Mod (.bcall .int (.cons (.bin .Add (.bin .Add (.bin .Mult (.var 2) (.var 2)) (.bin .Mult (.ix (.var 0) (.cst (.str s_salt))) (.cst (.int 40692)))) (.cst (.int 12345))) .nil)) (.cst (.int 2147483399))))
  (.cons (.ret (.bin .Mod (.bcall .int (.cons (.var 2) .nil)) (.var 1)))
  .nil))))))
def b__law_is_integer : Ss := (.cons (.ret (.and (.bcall (.isi .int) (.cons (.var 0) .nil)) (.not (.bcall (.isi .bool) (.cons (.var 0) .nil)))))
  .nil)
def b__law_same_items : Ss := (.cons (.ifS (.cmp .NotEq (.bcall .len (.cons (.var 0) .nil)) (.bcall .len (.cons (.var 1) .nil))) (.cons (.ret (.cst (.bl false)))
  .nil) .nil)
  (.cons (.for (.nm 2) (.range (.cons (.bcall .len (.cons (.var 1) .nil)) .nil)) (.cons (.ifS (.not (.call 9 (.cons (.ix (.var 0) (.var 2)) (.cons (.ix (.var 1) (.var 2)) .nil)))) (.cons (.ret (.cst (.bl false)))
  .nil) .nil)
  .nil))
  (.cons (.ret (.cst (.bl true)))
  .nil)))
def b__law_same : Ss := (.cons (.ifS (.cmp .Is (.var 1) (.cst .non)) (.cons (.ret (.cmp .Is (.var 0) (.cst .non)))
  .nil) .nil)
  (.cons (.ifS (.bcall (.isi .bool) (.cons (.var 1) .nil)) (.cons (.ret (.and (.bcall (.isi .bool) (.cons (.var 0) .nil)) (.cmp .Eq (.var 0) (.var 1))))
  .nil) .nil)
  (.cons (.ifS (.bcall (.isi .int) (.cons (.var 1) .nil)) (.cons (.ret (.and (.call 7 (.cons (.var 0) .nil)) (.cmp .Eq (.var 0) (.var 1))))
  .nil) .nil)
  (.cons (.ifS (.bcall (.isi .str) (.cons (.var 1) .nil)) (.cons (.ret (.and (.bcall (.isi .str) (.cons (.var 0) .nil)) (.cmp .Eq (.var 0) (.var 1))))
  .nil) .nil)
  (.cons (.ifS (.bcall (.isi .tuple) (.cons (.var 1) .nil)) (.cons (.ret (.and (.bcall (.isi .tuple) (.cons (.var 0) .nil)) (.call 8 (.cons (.var 0) (.cons (.var 1) .nil)))))
  .nil) .nil)
  (.cons (.ifS (.bcall (.isi .list) (.cons (.var 1) .nil)) (.cons (.ret (.and (.bcall (.isi .list) (.cons (.var 0) .nil)) (.call 8 (.cons (.var 0) (.cons (.var 1) .nil)))))
  .nil) .nil)
  (.cons (.ifS (.or (.not (.bcall (.isi .dict) (.cons (.var 0) .nil))) (.cmp .NotEq (.bcall .len (.cons (.var 0) .nil)) (.bcall .len (.cons (.var 1) .nil)))) (.cons (.ret (.cst (.bl false)))
  .nil) .nil)
  (.cons (.for (.nm 2) (.val (.var 1)) (.cons (.ifS (.or (.cmp .NotIn (.var 2) (.var 0)) (.not (.call 9 (.cons (.ix (.var 0) (.var 2)) (.cons (.ix (.var 1) (.var 2)) .nil))))) (.cons (.ret (.cst (.bl false)))
  .nil) .nil)
  .nil))
  (.cons (.for (.nm 2) (.val (.var 0)) (.cons (.ifS (.bcall (.isi .bool) (.cons (.var 2) .nil)) (.cons (.ret (.cst (.bl false)))
  .nil) .nil)
  .nil))
  (.cons (.ret (.cst (.bl true)))
  .nil))))))))))
def b__law_keeps : Ss := (.cons (.ret (.bcall .all (.cons (.comp (.tup (.cons (.nm 2) (.cons (.nm 3) (.cons (.nm 4) .nil)))) (.val (.var 0)) .none (.cmp .LtE (.bin .Sub (.ix (.var 1) (.var 2)) (.ix (.var 1) (.var 3))) (.var 4)) [2, 3, 4]) .nil)))
  .nil)
def b__law_against : Ss := (.cons (.ifS (.or (.cmp .Eq (.var 1) (.tup .nil)) (.not (.bcall .all (.cons (.comp (.nm 3) (.val (.var 1)) .none (.chn .LtE .Lt (.cst (.int 0)) (.var 3) (.bcall .len (.cons (.var 0) .nil))) [3]) .nil)))) (.cons (.ret (.cst (.bl false)))
  .nil) .nil)
  (.cons (.asg (.nm 2) (.bcall .all (.cons (.comp (.nm 3) (.range (.cons (.bcall .len (.cons (.var 1) .nil)) .nil)) .none (.cmp .Eq (.ix (.ix (.var 0) (.ix (.var 1) (.var 3))) (.cst (.int 1))) (.ix (.ix (.var 0) (.ix (.bin .Add (.var 1) (.var 1)) (.bin .Add (.var 3) (.cst (.int 1))))) (.cst (.int 0)))) [3]) .nil)))
  (.cons (.ret (.and (.var 2) (.cmp .Lt (.bcall .sum (.cons (.comp (.nm 3) (.val (.var 1)) .none (.ix (.ix (.var 0) (.var 3)) (.cst (.int 2))) [3]) .nil)) (.cst (.int 0)))))
  .nil)))
def b__law_chains : Ss := (.cons (.asg (.nm 3) (.dct (.cons (.var 2) (.cst (.int 0)) .nil)))
  (.cons (.for (.nm 4) (.range (.cons (.bin .Add (.var 0) (.cst (.int 1))) .nil)) (.cons (.for (.tup (.cons (.nm 5) (.cons (.nm 6) (.cons (.nm 7) .nil)))) (.val (.var 1)) (.cons (.ifS (.and (.cmp .In (.var 6) (.var 3)) (.cmp .Lt (.bin .Add (.ix (.var 3) (.var 6)) (.var 7)) (.mcall .get (.var 3) (.cons (.var 5) (.cons (.bin .Add (.bin .Add (.ix (.var 3) (.var 6)) (.var 7)) (.cst (.int 1))) .nil))))) (.cons (.asg (.sub (.var 3) (.var 5)) (.bin .Add (.ix (.var 3) (.var 6)) (.var 7)))
  .nil) .nil)
  .nil))
  .nil))
  (.cons (.ret (.var 3))
  .nil)))
def b__law_is_refused : Ss := (.cons (.tryS (.cons (.expr (.call 4 (.cons (.var 0) (.cons (.var 1) (.cons (.var 2) (.cons (.var 3) .nil))))))
  .nil) 1 none (.cons (.ret (.cst (.bl true)))
  .nil))
  (.cons (.ret (.cst (.bl false)))
  .nil))
def b_law : Ss := (.cons (.asg (.nm 1) (.call 5 (.cons (.var 0) .nil)))
  (.cons (.for (.nm 2) (.range (.cons (.cst (.int 5)) .nil)) (.cons (.asg (.nm 4) (.bin .Add (.cst (.int 1)) (.call 6 (.cons (.var 1) (.cons (.cst (.int 5)) .nil)))))
  (.cons (.asg (.nm 5) (.comp (.nm 13) (.range (.cons (.call 6 (.cons (.var 1) (.cons (.cst (.int 8)) .nil))) .nil)) .none (.tup (.cons (.call 6 (.cons (.var 1) (.cons (.var 4) .nil))) (.cons (.call 6 (.cons (.var 1) (.cons (.var 4) .nil))) (.cons (.bin .Sub (.call 6 (.cons (.var 1) (.cons (.cst (.int 9)) .nil))) (.cst (.int 2))) .nil)))) [13]))
  (.cons (.asg (.tup (.cons (.nm 8) (.cons (.nm 9) .nil))) (.call 1 (.cons (.var 4) (.cons (.var 5) .nil))))
  (.cons (.ifS (.cmp .Eq (.var 8) (.cst (.str s_circle))) (.cons (.ifS (.or (.not (.call 11 (.cons (.var 5) (.cons (.var 9) .nil)))) (.or (.cmp .IsNot (.call 3 (.cons (.var 4) (.cons (.var 5) (.cons (.var 9) .nil)))) (.cst (.bl true))) (.not (.call 13 (.cons (.var 4) (.cons (.var 5) (.cons (.cst (.int 0)) (.cons (.cst (.int 0)) .nil)))))))) (.cons (.ret (.cst (.bl false)))
  .nil) .nil)
  (.cons (.for (.nm 3) (.val (.tup (.cons (.slc (.var 9) (.some (.cst (.int 1))) .none) (.cons (.bin .Add (.var 9) (.var 9)) (.cons (.rev (.var 9)) (.cons (.bin .Add (.var 9) (.tup (.cons (.cst (.int 0)) .nil))) (.cons (.bin .Add (.var 9) (.tup (.cons (.cst (.int 99)) .nil))) (.cons (.tup .nil) .nil)))))))) (.cons (.ifS (.cmp .NotEq (.bcall .repr (.cons (.call 3 (.cons (.var 4) (.cons (.var 5) (.cons (.var 3) .nil)))) .nil)) (.bcall .repr (.cons (.call 11 (.cons (.var 5) (.cons (.var 3) .nil))) .nil))) (.cons (.ret (.cst (.bl false)))
  .nil) .nil)
  .nil))
  (.cons .cnt
  .nil))) .nil)
  (.cons (.ifS (.or (.not (.call 10 (.cons (.var 5) (.cons (.var 9) .nil)))) (.or (.cmp .IsNot (.call 2 (.cons (.var 4) (.cons (.var 5) (.cons (.var 9) .nil)))) (.cst (.bl true))) (.cmp .IsNot (.call 2 (.cons (.var 4) (.cons (.var 5) (.cons (.bin .Add (.var 9) (.tup (.cons (.cst (.int 0)) .nil))) .nil)))) (.cst (.bl false))))) (.cons (.ret (.cst (.bl false)))
  .nil) .nil)
  (.cons (.for (.nm 6) (.range (.cons (.var 4) .nil)) (.cons (.asg (.nm 10) (.bin .Add (.lst (.cons (.cst (.int 0)) .nil)) (.comp (.nm 12) (.range (.cons (.var 4) .nil)) .none (.mcall .get (.call 12 (.cons (.var 4) (.cons (.var 5) (.cons (.var 12) .nil)))) (.cons (.var 6) (.cons (.cst (.int 0)) .nil))) [12])))
  (.cons (.ifS (.cmp .NotEq (.ix (.var 9) (.var 6)) (.bcall .min1 (.cons (.var 10) .nil))) (.cons (.ret (.cst (.bl false)))
  .nil) .nil)
  .nil)))
  (.cons (.asg (.nm 7) (.bcall .tuple (.cons (.comp (.nm 14) (.val (.var 9)) .none (.bin .Sub (.bin .Add (.var 14) (.call 6 (.cons (.var 1) (.cons (.cst (.int 3)) .nil)))) (.cst (.int 1))) [14]) .nil)))
  (.cons (.ifS (.cmp .NotEq (.bcall .repr (.cons (.call 2 (.cons (.var 4) (.cons (.var 5) (.cons (.var 7) .nil)))) .nil)) (.bcall .repr (.cons (.call 10 (.cons (.var 5) (.cons (.var 7) .nil))) .nil))) (.cons (.ret (.cst (.bl false)))
  .nil) .nil)
  (.cons (.par 11 12 (.call 6 (.cons (.var 1) (.cons (.var 4) .nil))) (.call 6 (.cons (.var 1) (.cons (.var 4) .nil))))
  (.cons (.ifS (.not (.call 9 (.cons (.call 4 (.cons (.var 4) (.cons (.var 5) (.cons (.var 11) (.cons (.var 12) .nil))))) (.cons (.mcall .get (.call 12 (.cons (.var 4) (.cons (.var 5) (.cons (.var 12) .nil)))) (.cons (.var 11) .nil)) .nil)))) (.cons (.ret (.cst (.bl false)))
  .nil) .nil)
  .nil)))))))))))
  (.cons (.asg (.nm 3) (.ix (.lst (.cons (.tup (.cons (.cst (.int 0)) (.cons (.lst .nil) (.cons (.cst (.int 0)) (.cons (.cst (.int 0)) .nil))))) (.cons (.tup (.cons (.cst (.int 13)) (.cons (.lst .nil) (.cons (.cst (.int 0)) (.cons (.cst (.int 0)) .nil))))) (.cons (.tup (.cons (.cst (.int 2)) (.cons (.lst (.cons (.tup (.cons (.cst (.int 2)) (.cons (.cst (.int 0)) (.cons (.cst (.int 1)) .nil)))) .nil)) (.cons (.cst (.int 0)) (.cons (.cst (.int 0)) .nil))))) (.cons (.tup (.cons (.cst (.int 2)) (.cons (.lst (.cons (.tup (.cons (.cst (.int 0)) (.cons (.neg (.cst (.int 1))) (.cons (.cst (.int 1)) .nil)))) .nil)) (.cons (.cst (.int 0)) (.cons (.cst (.int 0)) .nil))))) (.cons (.tup (.cons (.cst (.int 2)) (.cons (.lst .nil) (.cons (.cst (.int 2)) (.cons (.cst (.int 0)) .nil))))) (.cons (.tup (.cons (.cst (.int 2)) (.cons (.lst .nil) (.cons (.cst (.int 0)) (.cons (.neg (.cst (.int 1))) .nil))))) .nil))))))) (.call 6 (.cons (.var 1) (.cons (.cst (.int 6)) .nil)))))
  (.cons (.ret (.and (.call 13 (.cons (.ix (.var 3) (.cst (.int 0))) (.cons (.ix (.var 3) (.cst (.int 1))) (.cons (.ix (.var 3) (.cst (.int 2))) (.cons (.ix (.var 3) (.cst (.int 3))) .nil))))) (.not (.call 13 (.cons (.cst (.int 2)) (.cons (.lst .nil) (.cons (.cst (.int 0)) (.cons (.cst (.int 1)) .nil))))))))
  .nil))))
def f_check_differences : Fn := ⟨"check_differences", ["count", "rows"], 2, 5, true, b_check_differences⟩
def f_differences : Fn := ⟨"differences", ["count", "rows"], 2, 12, true, b_differences⟩
def f_keeps : Fn := ⟨"keeps", ["count", "rows", "values"], 3, 6, true, b_keeps⟩
def f_is_against : Fn := ⟨"is_against", ["count", "rows", "circle"], 3, 5, true, b_is_against⟩
def f_tightest : Fn := ⟨"tightest", ["count", "rows", "first", "second"], 4, 9, true, b_tightest⟩
def f__law_tape : Fn := ⟨"_law_tape", ["script"], 1, 4, true, b__law_tape⟩
def f__law_take : Fn := ⟨"_law_take", ["tape", "many"], 2, 4, true, b__law_take⟩
def f__law_is_integer : Fn := ⟨"_law_is_integer", ["actual"], 1, 1, true, b__law_is_integer⟩
def f__law_same_items : Fn := ⟨"_law_same_items", ["actual", "expected"], 2, 3, true, b__law_same_items⟩
def f__law_same : Fn := ⟨"_law_same", ["actual", "expected"], 2, 3, true, b__law_same⟩
def f__law_keeps : Fn := ⟨"_law_keeps", ["rows", "values"], 2, 5, true, b__law_keeps⟩
def f__law_against : Fn := ⟨"_law_against", ["rows", "circle"], 2, 4, true, b__law_against⟩
def f__law_chains : Fn := ⟨"_law_chains", ["count", "rows", "start"], 3, 8, true, b__law_chains⟩
def f__law_is_refused : Fn := ⟨"_law_is_refused", ["count", "rows", "a", "b"], 4, 4, true, b__law_is_refused⟩
def f_law : Fn := ⟨"law", ["script"], 1, 15, true, b_law⟩
def fns : List Fn := [f_check_differences, f_differences, f_keeps, f_is_against, f_tightest, f__law_tape, f__law_take, f__law_is_integer, f__law_same_items, f__law_same, f__law_keeps, f__law_against, f__law_chains, f__law_is_refused, f_law]
def G : Tab := ⟨[.int 12], fun _ _ => none, fun _ => none⟩
def gn : Gn := ⟨["check_differences", "differences", "keeps", "is_against", "tightest", "_law_tape", "_law_take", "_law_is_integer", "_law_same_items", "_law_same", "_law_keeps", "_law_against", "_law_chains", "_law_is_refused", "law"], ["ProofError", "NoEquation"], ["MOST_VARIABLES"], [], ["range", "enumerate", "tuple", "len", "all", "zip", "sum", "abs", "int", "isinstance", "bool", "str", "list", "dict", "repr", "min"]⟩
theorem fn_0 : fns[0]? = some f_check_differences := rfl
theorem fn_1 : fns[1]? = some f_differences := rfl
theorem fn_2 : fns[2]? = some f_keeps := rfl
theorem fn_3 : fns[3]? = some f_is_against := rfl
theorem fn_4 : fns[4]? = some f_tightest := rfl
theorem fn_5 : fns[5]? = some f__law_tape := rfl
theorem fn_6 : fns[6]? = some f__law_take := rfl
theorem fn_7 : fns[7]? = some f__law_is_integer := rfl
theorem fn_8 : fns[8]? = some f__law_same_items := rfl
theorem fn_9 : fns[9]? = some f__law_same := rfl
theorem fn_10 : fns[10]? = some f__law_keeps := rfl
theorem fn_11 : fns[11]? = some f__law_against := rfl
theorem fn_12 : fns[12]? = some f__law_chains := rfl
theorem fn_13 : fns[13]? = some f__law_is_refused := rfl
theorem fn_14 : fns[14]? = some f_law := rfl
end Lw

end

section
set_option Elab.async false
set_option linter.all false
set_option maxRecDepth 10000
set_option autoImplicit false
/-! K29M: rows of differences, without any program. -/
namespace Df
abbrev Row := Nat × Nat × Int
abbrev Val := Nat → Option Int
/-- the row tells less -/
def Upd (r : Row) (v : Val) (y : Int) : Prop := v r.2.1 = some y ∧ ∀ x, v r.1 = some x → y + r.2.2 < x
def put {α : Type} (f : Nat → α) (a : Nat) (x : α) : Nat → α := fun i => if i = a then x else f i
theorem put_same {α : Type} {f : Nat → α} {a : Nat} {x : α} : put f a x a = x := by simp [put]
theorem put_ne {α : Type} {f : Nat → α} {a i : Nat} {x : α} (h : i ≠ a) : put f a x i = f i := by simp [put, h]
structure Inv (rows : List Row) (v0 v : Val) (w : Nat → Option Nat) (t : Nat → Nat) (K j : Nat) : Prop where
  tle : ∀ a, t a ≤ K + j
  mono : ∀ a x0, v0 a = some x0 → ∃ x, v a = some x ∧ x ≤ x0
  core : ∀ a, (w a = none ∧ t a = 0 ∧ v a = v0 a) ∨ ∃ i b m x y, w a = some i ∧ rows[i]? = some (a, b, m) ∧ 0 < t a ∧ t a ≤ t b + rows.length ∧ v a = some x ∧ v b = some y ∧ y + m ≤ x ∧ (t a ≤ t b → y + m < x)
  J : ∀ i a b m p y, rows[i]? = some (a, b, m) → (p = K + i + 1 ∧ i < j ∨ p + rows.length = K + i + 1 ∧ j ≤ i) → t b < p → v b = some y → ∃ x, v a = some x ∧ x ≤ y + m
theorem inv0 (rows : List Row) (v0 : Val) : Inv rows v0 v0 (fun _ => none) (fun _ => 0) 0 0 where
  tle _ := by simp
  mono a x0 h := ⟨x0, h, by omega⟩
  core a := .inl ⟨rfl, rfl, rfl⟩
  J i a b m p y h hp ht hv := by
    have := (List.getElem?_eq_some_iff.mp h).1
    omega
theorem Inv.next {rows : List Row} {v0 v : Val} {w : Nat → Option Nat} {t : Nat → Nat} {K : Nat} (h : Inv rows v0 v w t K rows.length) : Inv rows v0 v w t (K + rows.length) 0 where
  tle a := h.tle a
  mono := h.mono
  core := h.core
  J i a b m p y hi hp ht hv := by
    have := (List.getElem?_eq_some_iff.mp hi).1
    exact h.J i a b m p y hi (by omega) ht hv
theorem Inv.no {rows : List Row} {v0 v : Val} {w : Nat → Option Nat} {t : Nat → Nat} {K j : Nat} (h : Inv rows v0 v w t K j) {r : Row} (hr : rows[j]? = some r) (hn : ∀ y, ¬ Upd r v y) :
    Inv rows v0 v w t K (j + 1) where
  tle a := by have := h.tle a; omega
  mono := h.mono
  core := h.core
  J i a b m p y hi hp ht hv := by
    by_cases hij : i = j
    · subst hij
      rw [hr] at hi; cases hi
      have h1 := hn y
      unfold Upd at h1
      simp only [not_and] at h1
      have h2 := h1 hv
      cases ha : v a with
      | none => exact absurd (fun x hx => by rw [ha] at hx; cases hx) h2
      | some x =>
        refine ⟨x, rfl, ?_⟩
        rcases Int.lt_or_le (y + m) x with h3 | h3
        · exact absurd (fun x' hx => by rw [ha] at hx; cases hx; exact h3) h2
        · exact h3
    · exact h.J i a b m p y hi (by omega) ht hv
theorem Inv.yes {rows : List Row} {v0 v : Val} {w : Nat → Option Nat} {t : Nat → Nat} {K j : Nat} (h : Inv rows v0 v w t K j) {a b : Nat} {m y : Int} (hr : rows[j]? = some (a, b, m)) (hu : Upd (a, b, m) v y) :
    Inv rows v0 (put v a (some (y + m))) (put w a (some j)) (put t a (K + j + 1)) K (j + 1) := by
  obtain ⟨hb, hu⟩ := hu
  simp only at hb hu
  have hjL := (List.getElem?_eq_some_iff.mp hr).1
  refine ⟨?_, ?_, ?_, ?_⟩
  · intro c
    by_cases hc : c = a
    · subst hc; rw [put_same]; omega
    · rw [put_ne hc]; have := h.tle c; omega
  · intro c x0 hx0
    obtain ⟨x, hx, hle⟩ := h.mono c x0 hx0
    by_cases hc : c = a
    · subst hc; rw [put_same]
      have := hu x hx
      exact ⟨_, rfl, by omega⟩
    · rw [put_ne hc]; exact ⟨x, hx, hle⟩
  · intro c
    by_cases hc : c = a
    · subst hc
      right
      by_cases hbc : b = c
      · subst hbc
        have := hu y hb
        refine ⟨j, b, m, y + m, y + m, put_same, hr, by rw [put_same]; omega, by omega, put_same, put_same, by omega, fun _ => by omega⟩
      · refine ⟨j, b, m, y + m, y, put_same, hr, by rw [put_same]; omega, ?_, put_same, by rw [put_ne hbc]; exact hb, by omega, ?_⟩
        · rw [put_same, put_ne hbc]
          rcases Nat.lt_or_ge (t b + rows.length) (K + j + 1) with hlt | hge
          · exfalso
            obtain ⟨x, hx, hle⟩ := h.J j c b m (K + j + 1 - rows.length) y hr (.inr ⟨by omega, by omega⟩) (by omega) hb
            have := hu x hx
            omega
          · exact hge
        · rw [put_same, put_ne hbc]
          have := h.tle b
          intro hh; omega
    · rw [put_ne hc, put_ne hc, put_ne hc]
      rcases h.core c with h1 | ⟨i, b', m', x, y', h1, h2, h3, h4, h5, h6, h7, h8⟩
      · exact .inl h1
      · right
        by_cases hb' : b' = a
        · subst hb'
          have := hu y' h6
          have := h.tle c
          refine ⟨i, b', m', x, y + m, h1, h2, h3, by rw [put_same]; omega, h5, put_same, by omega, fun _ => by omega⟩
        · exact ⟨i, b', m', x, y', h1, h2, h3, by rw [put_ne hb']; exact h4, h5, by rw [put_ne hb']; exact h6, h7, by rw [put_ne hb']; exact h8⟩
  · intro i a' b' m' p y' hi hp ht hv
    have hiL := (List.getElem?_eq_some_iff.mp hi).1
    have hb' : b' ≠ a := by
      intro e; subst e
      rw [put_same] at ht
      omega
    rw [put_ne hb'] at ht hv
    by_cases hij : i = j
    · subst hij
      rw [hr] at hi; cases hi
      rw [hb] at hv; cases hv
      exact ⟨_, put_same, by omega⟩
    · obtain ⟨x, hx, hle⟩ := h.J i a' b' m' p y' hi (by omega) ht hv
      by_cases ha : a' = a
      · subst ha
        have := hu x hx
        exact ⟨_, put_same, by omega⟩
      · exact ⟨x, by rw [put_ne ha]; exact hx, hle⟩

theorem pig : ∀ (c : Nat) (f : Nat → Nat), (∀ i, i ≤ c → f i < c) → ∃ i j, i < j ∧ j ≤ c ∧ f i = f j
  | 0, f, h => absurd (h 0 (by omega)) (by omega)
  | c + 1, f, h => by
    by_cases he : ∃ i, i ≤ c ∧ f i = f (c + 1)
    · obtain ⟨i, hi, e⟩ := he
      exact ⟨i, c + 1, by omega, by omega, e⟩
    · have hne : ∀ i, i ≤ c → f i ≠ f (c + 1) := fun i hi e => he ⟨i, hi, e⟩
      obtain ⟨i, j, h1, h2, h3⟩ := pig c (fun i => if f i > f (c + 1) then f i - 1 else f i) (fun i hi => by
        have := h i (by omega)
        have := h (c + 1) (by omega)
        have := hne i hi
        split <;> omega)
      have := hne i (by omega)
      have := hne j h2
      refine ⟨i, j, h1, by omega, ?_⟩
      split at h3 <;> split at h3 <;> omega

/-! ### chains of rows -/
def sumM (m : Nat → Int) : Nat → Int
  | 0 => 0
  | n + 1 => sumM m n + m n
theorem cyc {v : Val} {t : Nat → Nat} {x : Nat → Nat} {m : Nat → Int} {p : Nat} (e : ∀ s, s < p → ∃ X Y, v (x s) = some X ∧ v (x (s + 1)) = some Y ∧ Y + m s ≤ X ∧ (t (x s) ≤ t (x (s + 1)) → Y + m s < X)) :
    ∀ n, 1 ≤ n → n ≤ p → ∃ X Y, v (x 0) = some X ∧ v (x n) = some Y ∧ Y + sumM m n ≤ X ∧ (t (x 0) ≤ t (x n) → Y + sumM m n < X)
  | 0, h, _ => by omega
  | 1, h, hp => by
    obtain ⟨X, Y, h1, h2, h3, h4⟩ := e 0 hp
    refine ⟨X, Y, h1, h2, ?_, ?_⟩ <;> simp only [sumM, Int.zero_add]
    · exact h3
    · exact h4
  | n + 2, h, hp => by
    obtain ⟨X, Y, h1, h2, h3, h4⟩ := cyc e (n + 1) (by omega) (by omega)
    obtain ⟨Y', Z, g1, g2, g3, g4⟩ := e (n + 1) (by omega)
    rw [h2] at g1; cases g1
    refine ⟨X, Z, h1, g2, ?_, ?_⟩ <;> rw [sumM]
    · omega
    · intro ht
      rcases Nat.lt_or_ge (t (x (n + 1))) (t (x 0)) with h5 | h5
      · have g5 : t (x (n + 1)) ≤ t (x (n + 2)) → Z + m (n + 1) < Y := g4
        have := g5 (by omega); omega
      · have := h4 h5; omega
theorem cyc_neg {v : Val} {t : Nat → Nat} {x : Nat → Nat} {m : Nat → Int} {p : Nat} (e : ∀ s, s < p → ∃ X Y, v (x s) = some X ∧ v (x (s + 1)) = some Y ∧ Y + m s ≤ X ∧ (t (x s) ≤ t (x (s + 1)) → Y + m s < X))
    (hp : 1 ≤ p) (hx : x p = x 0) : sumM m p < 0 := by
  obtain ⟨X, Y, h1, h2, h3, h4⟩ := cyc e p hp (Nat.le_refl _)
  rw [hx, h1] at h2; cases h2
  have := h4 (by rw [hx]; exact Nat.le_refl _)
  omega
/-- where the chain of reasons leads -/
def nxt (rows : List Row) (w : Nat → Option Nat) (a : Nat) : Nat := match w a with
  | some i => match rows[i]? with
    | some r => r.2.1
    | none => 0
  | none => 0
def mst (rows : List Row) (w : Nat → Option Nat) (a : Nat) : Int := match w a with
  | some i => match rows[i]? with
    | some r => r.2.2
    | none => 0
  | none => 0
def walk (f : Nat → Nat) (a : Nat) : Nat → Nat
  | 0 => a
  | n + 1 => f (walk f a n)
theorem walk_add (f : Nat → Nat) (a : Nat) {i j : Nat} (h : walk f a i = walk f a j) : ∀ k, walk f a (i + k) = walk f a (j + k)
  | 0 => h
  | k + 1 => by rw [← Nat.add_assoc, ← Nat.add_assoc, walk, walk, walk_add f a h k]
structure Okay (c : Nat) (rows : List Row) : Prop where
  ok : ∀ (i a b : Nat) (m : Int), rows[i]? = some (a, b, m) → a < c ∧ b < c
/-- a late change has a circle of reasons behind it -/
theorem Inv.circle {c : Nat} {rows : List Row} {v0 v : Val} {w : Nat → Option Nat} {t : Nat → Nat} {K j : Nat} (h : Inv rows v0 v w t K j) (ho : Okay c rows) {a : Nat} (ha : a < c) (ht : c * rows.length < t a) :
    (∀ s, walk (nxt rows w) a s < c ∧ ∃ i, w (walk (nxt rows w) a s) = some i ∧ rows[i]? = some (walk (nxt rows w) a s, walk (nxt rows w) a (s + 1), mst rows w (walk (nxt rows w) a s))) ∧
    (∃ p, 1 ≤ p ∧ p ≤ c ∧ walk (nxt rows w) a (c + p) = walk (nxt rows w) a c) ∧
    (∀ s p, 1 ≤ p → walk (nxt rows w) a (s + p) = walk (nxt rows w) a s → sumM (fun k => mst rows w (walk (nxt rows w) a (s + k))) p < 0) := by
  have edge : ∀ b, 0 < t b → ∃ i, w b = some i ∧ rows[i]? = some (b, nxt rows w b, mst rows w b) ∧ t b ≤ t (nxt rows w b) + rows.length := by
    intro b hb
    rcases h.core b with ⟨_, h2, _⟩ | ⟨i, b', m, x, y, h1, h2, h3, h4, h5, h6, h7, h8⟩
    · omega
    · have e1 : nxt rows w b = b' := by unfold nxt; rw [h1]; simp only [h2]
      have e2 : mst rows w b = m := by unfold mst; rw [h1]; simp only [h2]
      rw [e1, e2]
      exact ⟨i, h1, h2, h4⟩
  have base : ∀ s, s ≤ c → walk (nxt rows w) a s < c ∧ t a ≤ t (walk (nxt rows w) a s) + s * rows.length := by
    intro s
    induction s with
    | zero => intro _; exact ⟨ha, by simp [walk]⟩
    | succ s ih =>
      intro hs
      obtain ⟨h1, h2⟩ := ih (by omega)
      have hm : s * rows.length ≤ c * rows.length := Nat.mul_le_mul_right _ (by omega)
      obtain ⟨i, g1, g2, g3⟩ := edge (walk (nxt rows w) a s) (by omega)
      refine ⟨(ho.ok _ _ _ _ g2).2, ?_⟩
      rw [walk, Nat.succ_mul]; omega
  have pos : ∀ s, s ≤ c → 0 < t (walk (nxt rows w) a s) := by
    intro s hs
    have := (base s hs).2
    have hm : s * rows.length ≤ c * rows.length := Nat.mul_le_mul_right _ (by omega)
    omega
  obtain ⟨i, j', h1, h2, h3⟩ := pig c (walk (nxt rows w) a) (fun i hi => (base i hi).1)
  -- every place is one of the first
  have low : ∀ s, ∃ s', s' ≤ c ∧ walk (nxt rows w) a s = walk (nxt rows w) a s' := by
    intro s
    induction s with
    | zero => exact ⟨0, by omega, rfl⟩
    | succ s ih =>
      obtain ⟨s', g1, g2⟩ := ih
      by_cases hs : s' = c
      · subst hs
        have e := walk_add (nxt rows w) a h3 (s' - j')
        rw [show j' + (s' - j') = s' by omega] at e
        exact ⟨i + (s' - j') + 1, by omega, by rw [walk, walk, e, g2]⟩
      · exact ⟨s' + 1, by omega, by rw [walk, walk, g2]⟩
  have all : ∀ s, walk (nxt rows w) a s < c ∧ 0 < t (walk (nxt rows w) a s) := by
    intro s
    obtain ⟨s', g1, g2⟩ := low s
    rw [g2]
    exact ⟨(base s' g1).1, pos s' g1⟩
  refine ⟨?_, ?_, ?_⟩
  · intro s
    obtain ⟨i, g1, g2, g3⟩ := edge _ (all s).2
    exact ⟨(all s).1, i, g1, g2⟩
  · refine ⟨j' - i, by omega, by omega, ?_⟩
    have e := walk_add (nxt rows w) a h3 (c - i)
    rw [show i + (c - i) = c by omega, show j' + (c - i) = c + (j' - i) by omega] at e
    exact e.symm
  · intro s p hp hx
    refine cyc_neg (v := v) (t := t) (x := fun k => walk (nxt rows w) a (s + k)) ?_ hp hx
    intro k hk
    rcases h.core (walk (nxt rows w) a (s + k)) with ⟨_, h2, _⟩ | ⟨i, b', m, x, y, h1, h2, h3, h4, h5, h6, h7, h8⟩
    · have := (all (s + k)).2; omega
    · have e1 : nxt rows w (walk (nxt rows w) a (s + k)) = b' := by
        rw [nxt, h1]; simp only [h2]
      have e2 : mst rows w (walk (nxt rows w) a (s + k)) = m := by
        rw [mst, h1]; simp only [h2]
      rw [e2, ← Nat.add_assoc, walk, e1]
      exact ⟨x, y, h5, h6, h7, h8⟩
def Feas (rows : List Row) (u : Nat → Int) : Prop := ∀ (i a b : Nat) (m : Int), rows[i]? = some (a, b, m) → u a ≤ u b + m
/-- where there are values there is no late change -/
theorem Inv.still {c : Nat} {rows : List Row} {v0 v : Val} {w : Nat → Option Nat} {t : Nat → Nat} {K j : Nat} (h : Inv rows v0 v w t K j) (ho : Okay c rows) {u : Nat → Int} (hf : Feas rows u) {a : Nat} (ha : a < c) :
    t a ≤ c * rows.length := by
  rcases Nat.lt_or_ge (c * rows.length) (t a) with ht | ht
  · exfalso
    obtain ⟨h1, ⟨p, h2, h3, h4⟩, h5⟩ := h.circle ho ha ht
    have h6 := h5 c p h2 h4
    have h7 : ∀ n, u (walk (nxt rows w) a c) ≤ u (walk (nxt rows w) a (c + n)) + sumM (fun k => mst rows w (walk (nxt rows w) a (c + k))) n := by
      intro n
      induction n with
      | zero => simp [sumM]
      | succ n ih =>
        obtain ⟨_, i, g1, g2⟩ := h1 (c + n)
        have := hf _ _ _ _ g2
        rw [sumM, ← Nat.add_assoc]
        omega
    have := h7 p
    rw [h4] at this
    omega
  · exact ht
end Df

end

section
set_option Elab.async false
set_option linter.all false
set_option maxRecDepth 100000
set_option maxHeartbeats 4000000
set_option autoImplicit false
/-! K29R: what the functions of differences tell. -/
namespace Lw
open PF PySem Df
theorem is_0 : IsFn f_check_differences 2 5 b_check_differences := ⟨rfl, rfl, rfl, rfl⟩
def rowT (r : Row) : T := .tup [.int r.1, .int r.2.1, .int r.2.2]
theorem hG : G.consts[0]? = some (.int 12) := rfl
variable {N c rr : Nat} {rows : List Row} {st : Store}
theorem check_b {cl : Call} (hc : 1 ≤ c ∧ c ≤ 12) (ho : Okay c rows) (hr : st[rr]? = some (.lst (rows.map rowT))) :
    ∃ sl, evSs cl G b_check_differences [some (.int c), some (.ref rr), none, none, none] st = .nx sl st := by
  unfold b_check_differences
  have c1 : decide ((1 : Int) ≤ c) = true := b_decT (by omega)
  have c2 : decide ((c : Int) ≤ 12) = true := b_decT (by omega)
  simp only [Ss_cons, Ss_nil, q_nx, q_rt, q_bk, q_ct, q_xc, evS.eq_1, evS.eq_2, evS.eq_3, evS.eq_5, evS.eq_6, evS.eq_7, evS.eq_8, evS.eq_9, evS.eq_10, evS.eq_11, evS.eq_14, evE.eq_1, evE.eq_2, evE.eq_3, evE.eq_4, evE.eq_5, evE.eq_6, evE.eq_7, evE.eq_8, evE.eq_9, evE.eq_10, evE.eq_11, evE.eq_12, evE.eq_13, evE.eq_14, evE.eq_15, evE.eq_16, evE.eq_17, evE.eq_18, evE.eq_19, evE.eq_20, evE.eq_21, evE.eq_22, evE.eq_23, evEs, evIt, evTg, evTgs, evC, evEo, evKV, R.bind_ok, R.bind_exc, R.thenS_ok, R.thenS_exc, R.ofOpt_some, R.noExc_ok, s_add, s_sub, s_mul, s_div, s_mod, s_addT, s_eq, s_ne, s_lt, s_le, s_gt, s_ge, s_isB, s_isnB, s_isN, s_isnN, s_ixT, s_ixR, s_keyI, s_keyS, s_lenT, s_lenR, s_abs, s_int, s_tupT, s_truRB, s_min2, s_max2, s_repr, s_isi, s_itT, s_itR, s_itZT, s_lenIT, s_lenIR, s_lenIN, s_lenIZ, s_slcT, s_revT, s_alloc, List.getElem?_cons_zero, List.getElem?_cons_succ, List.set_cons_zero, List.set_cons_succ, Option.map_some, Option.bind_some, if_true, and_self, true_and, reduceIte, Bool.not_true, Bool.not_false, Bool.false_eq_true, eqT_int, Tgs.len, List.length_cons, List.length_nil, Nat.zero_add, Nat.reduceAdd, wipeL, decide_true, decide_false, hG, c1, c2]
  refine seq_of (P := fun r => ∃ sl, r = .nx sl st) (fun r => ∃ sl, r = .nx sl st) ?_ (by rintro r ⟨sl, rfl⟩; exact ⟨sl, by rw [q_nx, Ss_nil]⟩)
  refine for_ind (P := fun r => ∃ sl, r = .nx sl st) rows.length (fun i sl s => s = st ∧ ∃ x y z, sl = [some (.int c), some (.ref rr), x, y, z]) (J := .lst rr) (st' := st) (by simp only [Ss_cons, Ss_nil, q_nx, q_rt, q_bk, q_ct, q_xc, evS.eq_1, evS.eq_2, evS.eq_3, evS.eq_5, evS.eq_6, evS.eq_7, evS.eq_8, evS.eq_9, evS.eq_10, evS.eq_11, evS.eq_14, evE.eq_1, evE.eq_2, evE.eq_3, evE.eq_4, evE.eq_5, evE.eq_6, evE.eq_7, evE.eq_8, evE.eq_9, evE.eq_10, evE.eq_11, evE.eq_12, evE.eq_13, evE.eq_14, evE.eq_15, evE.eq_16, evE.eq_17, evE.eq_18, evE.eq_19, evE.eq_20, evE.eq_21, evE.eq_22, evE.eq_23, evEs, evIt, evTg, evTgs, evC, evEo, evKV, R.bind_ok, R.bind_exc, R.thenS_ok, R.thenS_exc, R.ofOpt_some, R.noExc_ok, s_add, s_sub, s_mul, s_div, s_mod, s_addT, s_eq, s_ne, s_lt, s_le, s_gt, s_ge, s_isB, s_isnB, s_isN, s_isnN, s_ixT, s_ixR, s_keyI, s_keyS, s_lenT, s_lenR, s_abs, s_int, s_tupT, s_truRB, s_min2, s_max2, s_repr, s_isi, s_itT, s_itR, s_itZT, s_lenIT, s_lenIR, s_lenIN, s_lenIZ, s_slcT, s_revT, s_alloc, List.getElem?_cons_zero, List.getElem?_cons_succ, List.set_cons_zero, List.set_cons_succ, Option.map_some, Option.bind_some, if_true, and_self, true_and, reduceIte, Bool.not_true, Bool.not_false, Bool.false_eq_true, eqT_int, Tgs.len, List.length_cons, List.length_nil, Nat.zero_add, Nat.reduceAdd, wipeL, decide_true, decide_false, s_itL hr]) (by rw [s_lenIL hr, List.length_map]) ⟨rfl, _, _, _, rfl⟩ ?_ ?_
  · rintro i sl s hi ⟨rfl, x, y, z, rfl⟩
    rcases hh : rows[i] with ⟨a, b, m⟩
    have hx : rows[i]? = some (a, b, m) := by rw [List.getElem?_eq_getElem hi, hh]
    obtain ⟨o1, o2⟩ := ho.ok _ _ _ _ hx
    have d1 : decide ((0 : Int) ≤ a) = true := b_decT (by omega)
    have d2 : decide ((a : Int) < c) = true := b_decT (by omega)
    have d3 : decide ((0 : Int) ≤ b) = true := b_decT (by omega)
    have d4 : decide ((b : Int) < c) = true := b_decT (by omega)
    refine ⟨rowT (a, b, m), [some (.int c), some (.ref rr), some (.int a), some (.int b), some (.int m)], s, by rw [s_getIL hr, List.getElem?_map, hx]; rfl, by simp only [Ss_cons, Ss_nil, q_nx, q_rt, q_bk, q_ct, q_xc, evS.eq_1, evS.eq_2, evS.eq_3, evS.eq_5, evS.eq_6, evS.eq_7, evS.eq_8, evS.eq_9, evS.eq_10, evS.eq_11, evS.eq_14, evE.eq_1, evE.eq_2, evE.eq_3, evE.eq_4, evE.eq_5, evE.eq_6, evE.eq_7, evE.eq_8, evE.eq_9, evE.eq_10, evE.eq_11, evE.eq_12, evE.eq_13, evE.eq_14, evE.eq_15, evE.eq_16, evE.eq_17, evE.eq_18, evE.eq_19, evE.eq_20, evE.eq_21, evE.eq_22, evE.eq_23, evEs, evIt, evTg, evTgs, evC, evEo, evKV, R.bind_ok, R.bind_exc, R.thenS_ok, R.thenS_exc, R.ofOpt_some, R.noExc_ok, s_add, s_sub, s_mul, s_div, s_mod, s_addT, s_eq, s_ne, s_lt, s_le, s_gt, s_ge, s_isB, s_isnB, s_isN, s_isnN, s_ixT, s_ixR, s_keyI, s_keyS, s_lenT, s_lenR, s_abs, s_int, s_tupT, s_truRB, s_min2, s_max2, s_repr, s_isi, s_itT, s_itR, s_itZT, s_lenIT, s_lenIR, s_lenIN, s_lenIZ, s_slcT, s_revT, s_alloc, List.getElem?_cons_zero, List.getElem?_cons_succ, List.set_cons_zero, List.set_cons_succ, Option.map_some, Option.bind_some, if_true, and_self, true_and, reduceIte, Bool.not_true, Bool.not_false, Bool.false_eq_true, eqT_int, Tgs.len, List.length_cons, List.length_nil, Nat.zero_add, Nat.reduceAdd, wipeL, decide_true, decide_false, rowT], ?_⟩
    simp only [Ss_cons, Ss_nil, q_nx, q_rt, q_bk, q_ct, q_xc, evS.eq_1, evS.eq_2, evS.eq_3, evS.eq_5, evS.eq_6, evS.eq_7, evS.eq_8, evS.eq_9, evS.eq_10, evS.eq_11, evS.eq_14, evE.eq_1, evE.eq_2, evE.eq_3, evE.eq_4, evE.eq_5, evE.eq_6, evE.eq_7, evE.eq_8, evE.eq_9, evE.eq_10, evE.eq_11, evE.eq_12, evE.eq_13, evE.eq_14, evE.eq_15, evE.eq_16, evE.eq_17, evE.eq_18, evE.eq_19, evE.eq_20, evE.eq_21, evE.eq_22, evE.eq_23, evEs, evIt, evTg, evTgs, evC, evEo, evKV, R.bind_ok, R.bind_exc, R.thenS_ok, R.thenS_exc, R.ofOpt_some, R.noExc_ok, s_add, s_sub, s_mul, s_div, s_mod, s_addT, s_eq, s_ne, s_lt, s_le, s_gt, s_ge, s_isB, s_isnB, s_isN, s_isnN, s_ixT, s_ixR, s_keyI, s_keyS, s_lenT, s_lenR, s_abs, s_int, s_tupT, s_truRB, s_min2, s_max2, s_repr, s_isi, s_itT, s_itR, s_itZT, s_lenIT, s_lenIR, s_lenIN, s_lenIZ, s_slcT, s_revT, s_alloc, List.getElem?_cons_zero, List.getElem?_cons_succ, List.set_cons_zero, List.set_cons_succ, Option.map_some, Option.bind_some, if_true, and_self, true_and, reduceIte, Bool.not_true, Bool.not_false, Bool.false_eq_true, eqT_int, Tgs.len, List.length_cons, List.length_nil, Nat.zero_add, Nat.reduceAdd, wipeL, decide_true, decide_false, d1, d2, d3, d4]
    exact ⟨_, _, _, rfl⟩
  · rintro sl s ⟨rfl, x, y, z, rfl⟩
    exact ⟨by rw [s_lenIL hr, List.length_map], _, rfl⟩
theorem check_ok (hc : 1 ≤ c ∧ c ≤ 12) (ho : Okay c rows) (hr : st[rr]? = some (.lst (rows.map rowT))) (hs : Cls st) : run fns G (N + 1) 0 [.int c, .ref rr] st = .ok .non st := by
  obtain ⟨sl, h⟩ := check_b (cl := run fns G N) hc ho hr
  rw [run_as fn_0 is_0 _ rfl rfl]
  show gc st.length (evSs (run fns G N) G b_check_differences [some (.int c), some (.ref rr), none, none, none] st).toR = _
  rw [h, r_nx, gc_pure hs rfl List.take_length]

/-! ### differences -/
def encW : Option Nat → Int
  | none => -1
  | some i => i
def z0 (c : Nat) : Val := fun a => (List.replicate c (0 : Int))[a]?
structure Bf (c : Nat) (rows : List Row) (vl wl : List Int) (w : Nat → Option Nat) (t : Nat → Nat) (K j : Nat) : Prop where
  hv : vl.length = c
  hw : wl.length = c
  he : ∀ a, a < c → wl[a]? = some (encW (w a))
  inv : Inv rows (z0 c) (fun a => vl[a]?) w t K j
def Last (c : Nat) (rows : List Row) (vl : List Int) (t : Nat → Nat) (K j : Nat) (last : Int) : Prop :=
  (last = -1 ∧ ∀ i a b m, i < j → rows[i]? = some (a, b, m) → ∀ y, vl[b]? = some y → ∃ x, vl[a]? = some x ∧ x ≤ y + m) ∨ (∃ l : Nat, last = l ∧ l < c ∧ K < t l)
theorem put_set {vl : List Int} {a : Nat} {x : Int} (h : a < vl.length) : (fun i => (vl.set a x)[i]?) = put (fun i => vl[i]?) a (some x) := by
  funext i
  unfold put
  by_cases e : i = a
  · subst e; simp [h]
  · rw [if_neg e, List.getElem?_set_ne (Ne.symm e)]
theorem Bf.yes {c : Nat} {rows : List Row} {vl wl : List Int} {w : Nat → Option Nat} {t : Nat → Nat} {K j : Nat} (h : Bf c rows vl wl w t K j) {a b : Nat} {m y : Int} (hr : rows[j]? = some (a, b, m)) (ha : a < c)
    (hu : Upd (a, b, m) (fun a => vl[a]?) y) : Bf c rows (vl.set a (y + m)) (wl.set a (j : Int)) (put w a (some j)) (put t a (K + j + 1)) K (j + 1) where
  hv := by rw [List.length_set, h.hv]
  hw := by rw [List.length_set, h.hw]
  he i hi := by
    by_cases e : i = a
    · subst e; rw [put_same]; simp [h.hw, hi, encW]
    · rw [put_ne e, List.getElem?_set_ne (Ne.symm e), h.he i hi]
  inv := by rw [put_set (by rw [h.hv]; exact ha)]; exact h.inv.yes hr hu
def dS (st : Store) (vl wl : List Int) : Store := st ++ [.lst [.int 0], .lst (vl.map .int), .lst [.int (-1)], .lst (wl.map .int)]
theorem dS_v {vl wl : List Int} : (dS st vl wl)[st.length + 1]? = some (.lst (vl.map .int)) := by
  unfold dS; rw [List.getElem?_append_right (by omega), Nat.add_sub_cancel_left]; rfl
theorem dS_w {vl wl : List Int} : (dS st vl wl)[st.length + 3]? = some (.lst (wl.map .int)) := by
  unfold dS; rw [List.getElem?_append_right (by omega), Nat.add_sub_cancel_left]; rfl
theorem dS_o {vl wl : List Int} {n : Nat} {d : Cell} (h : st[n]? = some d) : (dS st vl wl)[n]? = some d := by
  unfold dS; rw [List.getElem?_append_left (lt_of_get h), h]
theorem dS_sv {vl wl vl' : List Int} : (dS st vl wl).set (st.length + 1) (.lst (vl'.map .int)) = dS st vl' wl := by
  unfold dS; rw [List.set_append_right _ _ (by omega), Nat.add_sub_cancel_left]; rfl
theorem dS_sw {vl wl wl' : List Int} : (dS st vl wl).set (st.length + 3) (.lst (wl'.map .int)) = dS st vl wl' := by
  unfold dS; rw [List.set_append_right _ _ (by omega), Nat.add_sub_cancel_left]; rfl
theorem dS_take {vl wl : List Int} : (dS st vl wl).take st.length = st := by
  unfold dS; exact List.take_left' rfl
theorem map_set' {vl : List Int} {a : Nat} {x : Int} : (vl.map T.int).set a (.int x) = (vl.set a x).map .int := by rw [List.map_set]
def b_in : Ss := (.cons (.ifS (.cmp .Lt (.bin .Add (.ix (.var 2) (.var 10)) (.var 11)) (.ix (.var 2) (.var 9))) (.cons (.asg (.sub (.var 2) (.var 9)) (.bin .Add (.ix (.var 2) (.var 10)) (.var 11)))
  (.cons (.asg (.sub (.var 3) (.var 9)) (.var 8))
  (.cons (.asg (.nm 4) (.var 9))
  .nil))) .nil)
  .nil)
abbrev dsl (c rr L : Nat) (last : Int) (x5 x6 x7 x8 x9 x10 x11 : Option T) : Sl := [some (.int c), some (.ref rr), some (.ref (L + 1)), some (.ref (L + 3)), some (.int last), x5, x6, x7, x8, x9, x10, x11]
/-- one round -/
theorem round_b {cl : Call} (ho : Okay c rows) (hr : st[rr]? = some (.lst (rows.map rowT))) {vl wl : List Int} {w : Nat → Option Nat} {t : Nat → Nat} {K : Nat} (h : Bf c rows vl wl w t K 0) {x5 x6 x7 x8 x9 x10 x11 : Option T} :
    ∃ vl' wl' w' t' last x8' x9' x10' x11', Bf c rows vl' wl' w' t' K rows.length ∧ Last c rows vl' t' K rows.length last ∧
      evS cl G (.for (.tup (.cons (.nm 8) (.cons (.tup (.cons (.nm 9) (.cons (.nm 10) (.cons (.nm 11) .nil)))) .nil))) (.enum (.var 1)) b_in)
        (dsl c rr st.length (-1) x5 x6 x7 x8 x9 x10 x11) (dS st vl wl) =
      .nx (dsl c rr st.length last x5 x6 x7 x8' x9' x10' x11') (dS st vl' wl') := by
  refine for_ind (P := fun r => ∃ vl' wl' w' t' last x8' x9' x10' x11', Bf c rows vl' wl' w' t' K rows.length ∧ Last c rows vl' t' K rows.length last ∧ r = .nx (dsl c rr st.length last x5 x6 x7 x8' x9' x10' x11') (dS st vl' wl')) rows.length
    (fun j sl s => ∃ vl wl w t last x8 x9 x10 x11, Bf c rows vl wl w t K j ∧ Last c rows vl t K j last ∧ s = dS st vl wl ∧
      sl = dsl c rr st.length last x5 x6 x7 x8 x9 x10 x11)
    (J := .enumL rr) (st' := dS st vl wl) (by simp only [Ss_cons, Ss_nil, q_nx, q_rt, q_bk, q_ct, q_xc, evS.eq_1, evS.eq_2, evS.eq_3, evS.eq_5, evS.eq_6, evS.eq_7, evS.eq_8, evS.eq_9, evS.eq_10, evS.eq_11, evS.eq_14, evE.eq_1, evE.eq_2, evE.eq_3, evE.eq_4, evE.eq_5, evE.eq_6, evE.eq_7, evE.eq_8, evE.eq_9, evE.eq_10, evE.eq_11, evE.eq_12, evE.eq_13, evE.eq_14, evE.eq_15, evE.eq_16, evE.eq_17, evE.eq_18, evE.eq_19, evE.eq_20, evE.eq_21, evE.eq_22, evE.eq_23, evEs, evIt, evTg, evTgs, evC, evEo, evKV, R.bind_ok, R.bind_exc, R.thenS_ok, R.thenS_exc, R.ofOpt_some, R.noExc_ok, s_add, s_sub, s_mul, s_div, s_mod, s_addT, s_eq, s_ne, s_lt, s_le, s_gt, s_ge, s_isB, s_isnB, s_isN, s_isnN, s_ixT, s_ixR, s_keyI, s_keyS, s_lenT, s_lenR, s_abs, s_int, s_tupT, s_truRB, s_min2, s_max2, s_repr, s_isi, s_itT, s_itR, s_itZT, s_lenIT, s_lenIR, s_lenIN, s_lenIZ, s_slcT, s_revT, s_alloc, List.getElem?_cons_zero, List.getElem?_cons_succ, List.set_cons_zero, List.set_cons_succ, Option.map_some, Option.bind_some, if_true, and_self, true_and, reduceIte, Bool.not_true, Bool.not_false, Bool.false_eq_true, eqT_int, Tgs.len, List.length_cons, List.length_nil, Nat.zero_add, Nat.reduceAdd, wipeL, decide_true, decide_false, s_itEn (dS_o hr)]) (by rw [s_lenIE (dS_o hr), List.length_map]) ⟨vl, wl, w, t, -1, x8, x9, x10, x11, h, .inl ⟨rfl, by intro i a b m hi; omega⟩, rfl, rfl⟩ ?_ ?_
  · rintro j sl s hj ⟨vl, wl, w, t, last, x8, x9, x10, x11, h, hl, rfl, rfl⟩
    rcases hh : rows[j] with ⟨a, b, m⟩
    have hx : rows[j]? = some (a, b, m) := by rw [List.getElem?_eq_getElem hj, hh]
    obtain ⟨ha, hb⟩ := ho.ok _ _ _ _ hx
    refine ⟨.tup [.int j, rowT (a, b, m)], [some (.int c), some (.ref rr), some (.ref (st.length + 1)), some (.ref (st.length + 3)), some (.int last), x5, x6, x7, some (.int j), some (.int a), some (.int b), some (.int m)], dS st vl wl,
      by rw [s_getIE (dS_o hr), List.getElem?_map, hx]; rfl, by simp only [Ss_cons, Ss_nil, q_nx, q_rt, q_bk, q_ct, q_xc, evS.eq_1, evS.eq_2, evS.eq_3, evS.eq_5, evS.eq_6, evS.eq_7, evS.eq_8, evS.eq_9, evS.eq_10, evS.eq_11, evS.eq_14, evE.eq_1, evE.eq_2, evE.eq_3, evE.eq_4, evE.eq_5, evE.eq_6, evE.eq_7, evE.eq_8, evE.eq_9, evE.eq_10, evE.eq_11, evE.eq_12, evE.eq_13, evE.eq_14, evE.eq_15, evE.eq_16, evE.eq_17, evE.eq_18, evE.eq_19, evE.eq_20, evE.eq_21, evE.eq_22, evE.eq_23, evEs, evIt, evTg, evTgs, evC, evEo, evKV, R.bind_ok, R.bind_exc, R.thenS_ok, R.thenS_exc, R.ofOpt_some, R.noExc_ok, s_add, s_sub, s_mul, s_div, s_mod, s_addT, s_eq, s_ne, s_lt, s_le, s_gt, s_ge, s_isB, s_isnB, s_isN, s_isnN, s_ixT, s_ixR, s_keyI, s_keyS, s_lenT, s_lenR, s_abs, s_int, s_tupT, s_truRB, s_min2, s_max2, s_repr, s_isi, s_itT, s_itR, s_itZT, s_lenIT, s_lenIR, s_lenIN, s_lenIZ, s_slcT, s_revT, s_alloc, List.getElem?_cons_zero, List.getElem?_cons_succ, List.set_cons_zero, List.set_cons_succ, Option.map_some, Option.bind_some, if_true, and_self, true_and, reduceIte, Bool.not_true, Bool.not_false, Bool.false_eq_true, eqT_int, Tgs.len, List.length_cons, List.length_nil, Nat.zero_add, Nat.reduceAdd, wipeL, decide_true, decide_false, rowT], ?_⟩
    have ga : vl[a]? = some (vl[a]'(by rw [h.hv]; exact ha)) := List.getElem?_eq_getElem _
    have gb : vl[b]? = some (vl[b]'(by rw [h.hv]; exact hb)) := List.getElem?_eq_getElem _
    generalize vl[a]'(by rw [h.hv]; exact ha) = X at ga
    generalize vl[b]'(by rw [h.hv]; exact hb) = Y at gb
    have ia : ixN (vl.map T.int).length a = some a := ixN_nat (by rw [List.length_map, h.hv]; exact ha)
    have ib : ixN (vl.map T.int).length b = some b := ixN_nat (by rw [List.length_map, h.hv]; exact hb)
    have iw : ixN (wl.map T.int).length a = some a := ixN_nat (by rw [List.length_map, h.hw]; exact ha)
    have ma : (vl.map T.int)[a]? = some (.int X) := by rw [List.getElem?_map, ga]; rfl
    have mb : (vl.map T.int)[b]? = some (.int Y) := by rw [List.getElem?_map, gb]; rfl
    unfold b_in
    by_cases hu : Y + m < X
    · have d1 : decide (Y + m < X) = true := b_decT hu
      simp only [Ss_cons, Ss_nil, q_nx, q_rt, q_bk, q_ct, q_xc, evS.eq_1, evS.eq_2, evS.eq_3, evS.eq_5, evS.eq_6, evS.eq_7, evS.eq_8, evS.eq_9, evS.eq_10, evS.eq_11, evS.eq_14, evE.eq_1, evE.eq_2, evE.eq_3, evE.eq_4, evE.eq_5, evE.eq_6, evE.eq_7, evE.eq_8, evE.eq_9, evE.eq_10, evE.eq_11, evE.eq_12, evE.eq_13, evE.eq_14, evE.eq_15, evE.eq_16, evE.eq_17, evE.eq_18, evE.eq_19, evE.eq_20, evE.eq_21, evE.eq_22, evE.eq_23, evEs, evIt, evTg, evTgs, evC, evEo, evKV, R.bind_ok, R.bind_exc, R.thenS_ok, R.thenS_exc, R.ofOpt_some, R.noExc_ok, s_add, s_sub, s_mul, s_div, s_mod, s_addT, s_eq, s_ne, s_lt, s_le, s_gt, s_ge, s_isB, s_isnB, s_isN, s_isnN, s_ixT, s_ixR, s_keyI, s_keyS, s_lenT, s_lenR, s_abs, s_int, s_tupT, s_truRB, s_min2, s_max2, s_repr, s_isi, s_itT, s_itR, s_itZT, s_lenIT, s_lenIR, s_lenIN, s_lenIZ, s_slcT, s_revT, s_alloc, List.getElem?_cons_zero, List.getElem?_cons_succ, List.set_cons_zero, List.set_cons_succ, Option.map_some, Option.bind_some, if_true, and_self, true_and, reduceIte, Bool.not_true, Bool.not_false, Bool.false_eq_true, eqT_int, Tgs.len, List.length_cons, List.length_nil, Nat.zero_add, Nat.reduceAdd, wipeL, decide_true, decide_false, s_ixL dS_v, ia, ib, ma, mb, d1, s_setL dS_v ia, map_set', dS_sv, s_setL dS_w iw, dS_sw]
      have hup : Upd (a, b, m) (fun a => vl[a]?) Y := ⟨gb, fun x hx => by simp only at hx; rw [ga] at hx; cases hx; exact hu⟩
      exact ⟨_, _, _, _, _, _, _, _, _, h.yes hx ha hup, .inr ⟨a, rfl, ha, by rw [put_same]; omega⟩, rfl, rfl⟩
    · have d1 : decide (Y + m < X) = false := b_decF hu
      simp only [Ss_cons, Ss_nil, q_nx, q_rt, q_bk, q_ct, q_xc, evS.eq_1, evS.eq_2, evS.eq_3, evS.eq_5, evS.eq_6, evS.eq_7, evS.eq_8, evS.eq_9, evS.eq_10, evS.eq_11, evS.eq_14, evE.eq_1, evE.eq_2, evE.eq_3, evE.eq_4, evE.eq_5, evE.eq_6, evE.eq_7, evE.eq_8, evE.eq_9, evE.eq_10, evE.eq_11, evE.eq_12, evE.eq_13, evE.eq_14, evE.eq_15, evE.eq_16, evE.eq_17, evE.eq_18, evE.eq_19, evE.eq_20, evE.eq_21, evE.eq_22, evE.eq_23, evEs, evIt, evTg, evTgs, evC, evEo, evKV, R.bind_ok, R.bind_exc, R.thenS_ok, R.thenS_exc, R.ofOpt_some, R.noExc_ok, s_add, s_sub, s_mul, s_div, s_mod, s_addT, s_eq, s_ne, s_lt, s_le, s_gt, s_ge, s_isB, s_isnB, s_isN, s_isnN, s_ixT, s_ixR, s_keyI, s_keyS, s_lenT, s_lenR, s_abs, s_int, s_tupT, s_truRB, s_min2, s_max2, s_repr, s_isi, s_itT, s_itR, s_itZT, s_lenIT, s_lenIR, s_lenIN, s_lenIZ, s_slcT, s_revT, s_alloc, List.getElem?_cons_zero, List.getElem?_cons_succ, List.set_cons_zero, List.set_cons_succ, Option.map_some, Option.bind_some, if_true, and_self, true_and, reduceIte, Bool.not_true, Bool.not_false, Bool.false_eq_true, eqT_int, Tgs.len, List.length_cons, List.length_nil, Nat.zero_add, Nat.reduceAdd, wipeL, decide_true, decide_false, s_ixL dS_v, ia, ib, ma, mb, d1]
      have hnu : ∀ y, ¬ Upd (a, b, m) (fun a => vl[a]?) y := by
        rintro y ⟨h1, h2⟩
        simp only at h1 h2
        rw [gb] at h1; cases h1
        exact hu (h2 X ga)
      refine ⟨vl, wl, w, t, last, _, _, _, _, ⟨h.hv, h.hw, h.he, h.inv.no hx hnu⟩, ?_, rfl, rfl⟩
      rcases hl with ⟨h1, h2⟩ | h1
      · refine .inl ⟨h1, ?_⟩
        intro i a' b' m' hi hx' y hy
        by_cases e : i = j
        · subst e
          rw [hx] at hx'; cases hx'
          rw [gb] at hy; cases hy
          exact ⟨X, ga, by omega⟩
        · exact h2 i a' b' m' (by omega) hx' y hy
      · exact .inr h1
  · rintro sl s ⟨vl, wl, w, t, last, x8, x9, x10, x11, h, hl, rfl, rfl⟩
    exact ⟨by rw [s_lenIE (dS_o hr), List.length_map], vl, wl, w, t, last, x8, x9, x10, x11, h, hl, rfl⟩

end Lw

end

section
set_option Elab.async false
set_option linter.all false
set_option maxRecDepth 100000
set_option maxHeartbeats 4000000
set_option autoImplicit false
/-! K29R: what the functions of differences tell. -/
namespace Lw
open PF PySem Df
variable {N c rr : Nat} {rows : List Row} {st : Store}
theorem ix3_0 : ixN 3 0 = some 0 := rfl
theorem ix3_1 : ixN 3 1 = some 1 := rfl
theorem ix3_2 : ixN 3 2 = some 2 := rfl
theorem ix2_0 : ixN 2 0 = some 0 := rfl
theorem ix2_1 : ixN 2 1 = some 1 := rfl
def Stable (rows : List Row) (v : Val) : Prop := ∀ (i a b : Nat) (m : Int), rows[i]? = some (a, b, m) → ∀ y, v b = some y → ∃ x, v a = some x ∧ x ≤ y + m
def b_out : Ss := (.cons (.asg (.nm 4) (.neg (.cst (.int 1))))
  (.cons (.for (.tup (.cons (.nm 8) (.cons (.tup (.cons (.nm 9) (.cons (.nm 10) (.cons (.nm 11) .nil)))) .nil))) (.enum (.var 1)) b_in)
  (.cons (.ifS (.cmp .Lt (.var 4) (.cst (.int 0))) (.cons (.ret (.tup (.cons (.cst (.str s_values)) (.cons (.bcall .tuple (.cons (.var 2) .nil)) .nil))))
  .nil) .nil)
  .nil)))
def OutP (c : Nat) (rows : List Row) (rr : Nat) (st : Store) (r : RS) : Prop :=
  (∃ vl wl w t K, r = .rt (.tup [.str s_values, .tup (vl.map .int)]) (dS st vl wl) ∧ Bf c rows vl wl w t K rows.length ∧ Stable rows (fun a => vl[a]?)) ∨
  (∃ vl wl w t x5 x8 x9 x10 x11, ∃ l : Nat, r = .nx (dsl c rr st.length l x5 none none x8 x9 x10 x11) (dS st vl wl) ∧ Bf c rows vl wl w t (c * rows.length) rows.length ∧ l < c ∧ c * rows.length < t l)
theorem lt_size2 {n : Nat} (h : n ≤ 1000) : n ≤ sizeLine := Nat.le_trans h (by simp [sizeLine])
theorem two_le : (2 ≤ sizeLine) = True := eq_true (lt_size2 (by omega))
theorem out_b {cl : Call} (ho : Okay c rows) (hc : c < 1000) (hr : st[rr]? = some (.lst (rows.map rowT))) {vl wl : List Int} {w : Nat → Option Nat} {t : Nat → Nat} (h : Bf c rows vl wl w t 0 0) {last : Int} :
    OutP c rows rr st (evS cl G (.for (.nm 5) (.range (.cons (.bin .Add (.var 0) (.cst (.int 1))) .nil)) b_out) (dsl c rr st.length last none none none none none none none) (dS st vl wl)) := by
  refine for_ind (P := OutP c rows rr st) (c + 1)
    (fun k sl s => ∃ vl wl w t last x5 x8 x9 x10 x11, sl = dsl c rr st.length last x5 none none x8 x9 x10 x11 ∧ s = dS st vl wl ∧
      ((k = 0 ∧ Bf c rows vl wl w t 0 0) ∨ ∃ k', k = k' + 1 ∧ Bf c rows vl wl w t (k' * rows.length) rows.length ∧ ∃ l : Nat, last = l ∧ l < c ∧ k' * rows.length < t l))
    (J := .rng 0 (c + 1)) (st' := dS st vl wl) (it_rng1 (i := (c : Int) + 1) (by simp only [Ss_cons, Ss_nil, q_nx, q_rt, q_bk, q_ct, q_xc, evS.eq_1, evS.eq_2, evS.eq_3, evS.eq_5, evS.eq_6, evS.eq_7, evS.eq_8, evS.eq_9, evS.eq_10, evS.eq_11, evS.eq_14, evE.eq_1, evE.eq_2, evE.eq_3, evE.eq_4, evE.eq_5, evE.eq_6, evE.eq_7, evE.eq_8, evE.eq_9, evE.eq_10, evE.eq_11, evE.eq_12, evE.eq_13, evE.eq_14, evE.eq_15, evE.eq_16, evE.eq_17, evE.eq_18, evE.eq_19, evE.eq_20, evE.eq_21, evE.eq_22, evE.eq_23, evEs, evIt, evTg, evTgs, evC, evEo, evKV, R.bind_ok, R.bind_exc, R.thenS_ok, R.thenS_exc, R.ofOpt_some, R.noExc_ok, s_add, s_sub, s_mul, s_div, s_mod, s_addT, s_eq, s_ne, s_lt, s_le, s_gt, s_ge, s_isB, s_isnB, s_isN, s_isnN, s_ixT, s_ixR, s_keyI, s_keyS, s_lenT, s_lenR, s_abs, s_int, s_tupT, s_truRB, s_min2, s_max2, s_repr, s_isi, s_itT, s_itR, s_itZT, s_lenIT, s_lenIR, s_lenIN, s_lenIZ, s_slcT, s_revT, s_alloc, List.getElem?_cons_zero, List.getElem?_cons_succ, List.set_cons_zero, List.set_cons_succ, Option.map_some, Option.bind_some, if_true, and_self, true_and, reduceIte, Bool.not_true, Bool.not_false, Bool.false_eq_true, eqT_int, Tgs.len, List.length_cons, List.length_nil, Nat.zero_add, Nat.reduceAdd, wipeL, decide_true, decide_false]) (b62 (by omega) (by omega)) (by omega)) s_lenIN ⟨vl, wl, w, t, last, none, none, none, none, none, rfl, rfl, .inl ⟨rfl, h⟩⟩ ?_ ?_
  · rintro k sl s hk ⟨vl, wl, w, t, last, x5, x8, x9, x10, x11, rfl, rfl, hi⟩
    have hb : Bf c rows vl wl w t (k * rows.length) 0 := by
      rcases hi with ⟨rfl, h⟩ | ⟨k', rfl, h, _⟩
      · rw [Nat.zero_mul]; exact h
      · rw [Nat.succ_mul]; exact ⟨h.hv, h.hw, h.he, h.inv.next⟩
    refine ⟨.int k, dsl c rr st.length last (some (.int k)) none none x8 x9 x10 x11, dS st vl wl, by rw [s_getIN, if_pos hk, Int.zero_add], by simp only [Ss_cons, Ss_nil, q_nx, q_rt, q_bk, q_ct, q_xc, evS.eq_1, evS.eq_2, evS.eq_3, evS.eq_5, evS.eq_6, evS.eq_7, evS.eq_8, evS.eq_9, evS.eq_10, evS.eq_11, evS.eq_14, evE.eq_1, evE.eq_2, evE.eq_3, evE.eq_4, evE.eq_5, evE.eq_6, evE.eq_7, evE.eq_8, evE.eq_9, evE.eq_10, evE.eq_11, evE.eq_12, evE.eq_13, evE.eq_14, evE.eq_15, evE.eq_16, evE.eq_17, evE.eq_18, evE.eq_19, evE.eq_20, evE.eq_21, evE.eq_22, evE.eq_23, evEs, evIt, evTg, evTgs, evC, evEo, evKV, R.bind_ok, R.bind_exc, R.thenS_ok, R.thenS_exc, R.ofOpt_some, R.noExc_ok, s_add, s_sub, s_mul, s_div, s_mod, s_addT, s_eq, s_ne, s_lt, s_le, s_gt, s_ge, s_isB, s_isnB, s_isN, s_isnN, s_ixT, s_ixR, s_keyI, s_keyS, s_lenT, s_lenR, s_abs, s_int, s_tupT, s_truRB, s_min2, s_max2, s_repr, s_isi, s_itT, s_itR, s_itZT, s_lenIT, s_lenIR, s_lenIN, s_lenIZ, s_slcT, s_revT, s_alloc, List.getElem?_cons_zero, List.getElem?_cons_succ, List.set_cons_zero, List.set_cons_succ, Option.map_some, Option.bind_some, if_true, and_self, true_and, reduceIte, Bool.not_true, Bool.not_false, Bool.false_eq_true, eqT_int, Tgs.len, List.length_cons, List.length_nil, Nat.zero_add, Nat.reduceAdd, wipeL, decide_true, decide_false], ?_⟩
    obtain ⟨vl', wl', w', t', last', x8', x9', x10', x11', g1, g2, g3⟩ := round_b (cl := cl) ho hr hb (x5 := some (.int k)) (x6 := none) (x7 := none) (x8 := x8) (x9 := x9) (x10 := x10) (x11 := x11)
    unfold b_out
    simp only [Ss_cons, Ss_nil, q_nx, q_rt, q_bk, q_ct, q_xc, evS.eq_1, evS.eq_2, evS.eq_3, evS.eq_5, evS.eq_6, evS.eq_7, evS.eq_8, evS.eq_9, evS.eq_10, evS.eq_11, evS.eq_14, evE.eq_1, evE.eq_2, evE.eq_3, evE.eq_4, evE.eq_5, evE.eq_6, evE.eq_7, evE.eq_8, evE.eq_9, evE.eq_10, evE.eq_11, evE.eq_12, evE.eq_13, evE.eq_14, evE.eq_15, evE.eq_16, evE.eq_17, evE.eq_18, evE.eq_19, evE.eq_20, evE.eq_21, evE.eq_22, evE.eq_23, evEs, evIt, evTg, evTgs, evC, evEo, evKV, R.bind_ok, R.bind_exc, R.thenS_ok, R.thenS_exc, R.ofOpt_some, R.noExc_ok, s_add, s_sub, s_mul, s_div, s_mod, s_addT, s_eq, s_ne, s_lt, s_le, s_gt, s_ge, s_isB, s_isnB, s_isN, s_isnN, s_ixT, s_ixR, s_keyI, s_keyS, s_lenT, s_lenR, s_abs, s_int, s_tupT, s_truRB, s_min2, s_max2, s_repr, s_isi, s_itT, s_itR, s_itZT, s_lenIT, s_lenIR, s_lenIN, s_lenIZ, s_slcT, s_revT, s_alloc, List.getElem?_cons_zero, List.getElem?_cons_succ, List.set_cons_zero, List.set_cons_succ, Option.map_some, Option.bind_some, if_true, and_self, true_and, reduceIte, Bool.not_true, Bool.not_false, Bool.false_eq_true, eqT_int, Tgs.len, List.length_cons, List.length_nil, Nat.zero_add, Nat.reduceAdd, wipeL, decide_true, decide_false]
    rw [g3]
    rcases g2 with ⟨rfl, hs⟩ | ⟨l, rfl, hl, ht⟩
    · have d : decide ((-1 : Int) < 0) = true := b_decT (by omega)
      simp only [Ss_cons, Ss_nil, q_nx, q_rt, q_bk, q_ct, q_xc, evS.eq_1, evS.eq_2, evS.eq_3, evS.eq_5, evS.eq_6, evS.eq_7, evS.eq_8, evS.eq_9, evS.eq_10, evS.eq_11, evS.eq_14, evE.eq_1, evE.eq_2, evE.eq_3, evE.eq_4, evE.eq_5, evE.eq_6, evE.eq_7, evE.eq_8, evE.eq_9, evE.eq_10, evE.eq_11, evE.eq_12, evE.eq_13, evE.eq_14, evE.eq_15, evE.eq_16, evE.eq_17, evE.eq_18, evE.eq_19, evE.eq_20, evE.eq_21, evE.eq_22, evE.eq_23, evEs, evIt, evTg, evTgs, evC, evEo, evKV, R.bind_ok, R.bind_exc, R.thenS_ok, R.thenS_exc, R.ofOpt_some, R.noExc_ok, s_add, s_sub, s_mul, s_div, s_mod, s_addT, s_eq, s_ne, s_lt, s_le, s_gt, s_ge, s_isB, s_isnB, s_isN, s_isnN, s_ixT, s_ixR, s_keyI, s_keyS, s_lenT, s_lenR, s_abs, s_int, s_tupT, s_truRB, s_min2, s_max2, s_repr, s_isi, s_itT, s_itR, s_itZT, s_lenIT, s_lenIR, s_lenIN, s_lenIZ, s_slcT, s_revT, s_alloc, List.getElem?_cons_zero, List.getElem?_cons_succ, List.set_cons_zero, List.set_cons_succ, Option.map_some, Option.bind_some, if_true, and_self, true_and, reduceIte, Bool.not_true, Bool.not_false, Bool.false_eq_true, eqT_int, Tgs.len, List.length_cons, List.length_nil, Nat.zero_add, Nat.reduceAdd, wipeL, decide_true, decide_false, d, s_tupL dS_v, two_le]
      exact .inl ⟨vl', wl', w', t', _, rfl, g1, fun i a b m hi y hy => hs i a b m (List.getElem?_eq_some_iff.mp hi).1 hi y hy⟩
    · have d : decide ((l : Int) < 0) = false := b_decF (by omega)
      simp only [Ss_cons, Ss_nil, q_nx, q_rt, q_bk, q_ct, q_xc, evS.eq_1, evS.eq_2, evS.eq_3, evS.eq_5, evS.eq_6, evS.eq_7, evS.eq_8, evS.eq_9, evS.eq_10, evS.eq_11, evS.eq_14, evE.eq_1, evE.eq_2, evE.eq_3, evE.eq_4, evE.eq_5, evE.eq_6, evE.eq_7, evE.eq_8, evE.eq_9, evE.eq_10, evE.eq_11, evE.eq_12, evE.eq_13, evE.eq_14, evE.eq_15, evE.eq_16, evE.eq_17, evE.eq_18, evE.eq_19, evE.eq_20, evE.eq_21, evE.eq_22, evE.eq_23, evEs, evIt, evTg, evTgs, evC, evEo, evKV, R.bind_ok, R.bind_exc, R.thenS_ok, R.thenS_exc, R.ofOpt_some, R.noExc_ok, s_add, s_sub, s_mul, s_div, s_mod, s_addT, s_eq, s_ne, s_lt, s_le, s_gt, s_ge, s_isB, s_isnB, s_isN, s_isnN, s_ixT, s_ixR, s_keyI, s_keyS, s_lenT, s_lenR, s_abs, s_int, s_tupT, s_truRB, s_min2, s_max2, s_repr, s_isi, s_itT, s_itR, s_itZT, s_lenIT, s_lenIR, s_lenIN, s_lenIZ, s_slcT, s_revT, s_alloc, List.getElem?_cons_zero, List.getElem?_cons_succ, List.set_cons_zero, List.set_cons_succ, Option.map_some, Option.bind_some, if_true, and_self, true_and, reduceIte, Bool.not_true, Bool.not_false, Bool.false_eq_true, eqT_int, Tgs.len, List.length_cons, List.length_nil, Nat.zero_add, Nat.reduceAdd, wipeL, decide_true, decide_false, d]
      exact ⟨vl', wl', w', t', l, _, _, _, _, _, rfl, rfl, .inr ⟨k, rfl, g1, l, rfl, hl, ht⟩⟩
  · rintro sl s ⟨vl, wl, w, t, last, x5, x8, x9, x10, x11, rfl, rfl, hi⟩
    refine ⟨rfl, ?_⟩
    rcases hi with ⟨h, _⟩ | ⟨k', h1, h2, l, h3, h4, h5⟩
    · omega
    · have : k' = c := by omega
      subst this; subst h3
      exact .inr ⟨vl, wl, w, t, x5, x8, x9, x10, x11, l, rfl, h2, h4, h5⟩

/-! the circle -/
def rowI (rows : List Row) (i : Int) : Row := rows.getD i.toNat (0, 0, 0)
def inB (rows : List Row) (q : List Int) : Bool := q.all fun i => decide (0 ≤ i) && decide (i < rows.length)
def folB (rows : List Row) (q : List Int) : Bool := (List.range q.length).all fun k => decide ((rowI rows (q.getD k 0)).2.1 = (rowI rows ((q ++ q).getD (k + 1) 0)).1)
def sumQ (rows : List Row) (q : List Int) : Int := (q.map fun i => (rowI rows i).2.2).sum
def against (rows : List Row) (q : List Int) : Bool := !q.isEmpty && inB rows q && folB rows q && decide (sumQ rows q < 0)
theorem sum_range (f : Nat → Int) : ∀ n, ((List.range n).map f).sum = sumM f n
  | 0 => rfl
  | n + 1 => by rw [List.range_succ, List.map_append, List.sum_append, sum_range f n]; simp [sumM]
def cq (w : Nat → Option Nat) (x : Nat → Nat) (n : Nat) : List Int := (List.range n).map fun k => (((w (x k)).getD 0 : Nat) : Int)
theorem cq_succ (w : Nat → Option Nat) (x : Nat → Nat) (n : Nat) : cq w x (n + 1) = cq w x n ++ [(((w (x n)).getD 0 : Nat) : Int)] := by
  unfold cq; rw [List.range_succ, List.map_append]; rfl
theorem cq_get (w : Nat → Option Nat) (x : Nat → Nat) {n k : Nat} (h : k < n) : (cq w x n).getD k 0 = (((w (x k)).getD 0 : Nat) : Int) := by
  unfold cq; simp [List.getD_eq_getElem?_getD, h]
theorem cq_len (w : Nat → Option Nat) (x : Nat → Nat) {n : Nat} : (cq w x n).length = n := by unfold cq; simp
theorem cq_against {w : Nat → Option Nat} {x : Nat → Nat} {m : Nat → Int} {n : Nat} (hn : 1 ≤ n) (h : ∀ k, ∃ i, w (x k) = some i ∧ rows[i]? = some (x k, x (k + 1), m k)) (hx : x n = x 0) (hs : sumM m n < 0) :
    against rows (cq w x n) = true := by
  have hrow : ∀ k, rowI rows (((w (x k)).getD 0 : Nat) : Int) = (x k, x (k + 1), m k) := by
    intro k
    obtain ⟨i, h1, h2⟩ := h k
    rw [h1]
    unfold rowI
    simp [List.getD_eq_getElem?_getD, h2]
  unfold against
  simp only [Bool.and_eq_true]
  refine ⟨⟨⟨?_, ?_⟩, ?_⟩, ?_⟩
  · rw [Bool.not_eq_true', List.isEmpty_eq_false_iff, ← List.length_pos_iff, cq_len]; exact hn
  · unfold inB cq
    rw [List.all_eq_true]
    intro i hi
    obtain ⟨k, _, rfl⟩ := List.mem_map.mp hi
    obtain ⟨i, h1, h2⟩ := h k
    have := (List.getElem?_eq_some_iff.mp h2).1
    rw [h1]
    simp
    exact this
  · unfold folB
    rw [List.all_eq_true]
    intro k hk
    rw [List.mem_range, cq_len] at hk
    rw [decide_eq_true_eq, cq_get w x hk, hrow]
    have : (cq w x n ++ cq w x n).getD (k + 1) 0 = (((w (x (k + 1))).getD 0 : Nat) : Int) := by
      rw [List.getD_eq_getElem?_getD]
      by_cases e : k + 1 < n
      · rw [List.getElem?_append_left (by rw [cq_len]; exact e), ← List.getD_eq_getElem?_getD, cq_get w x e]
      · have e' : k + 1 = n := by omega
        rw [List.getElem?_append_right (by rw [cq_len]; omega), cq_len, ← List.getD_eq_getElem?_getD, cq_get w x (by omega), e', hx, Nat.sub_self]
    rw [this, hrow]
  · unfold sumQ cq
    rw [List.map_map, decide_eq_true_eq]
    have : ((fun i => (rowI rows i).2.2) ∘ fun k => (((w (x k)).getD 0 : Nat) : Int)) = m := by
      funext k
      simp only [Function.comp, hrow]
    rw [this, sum_range]; exact hs
end Lw

end

section
set_option Elab.async false
set_option linter.all false
set_option maxRecDepth 100000
set_option maxHeartbeats 4000000
set_option autoImplicit false
namespace Lw
open PF PySem Df
variable {N c rr : Nat} {rows : List Row} {st : Store}
def b_dif_1 : Ss := (.cons (.asg (.nm 4) (.ix (.ix (.var 1) (.ix (.var 3) (.var 4))) (.cst (.int 1))))
  .nil)
def b_dif_2 : Ss := (.cons (.expr (.mcall .append (.var 6) (.cons (.ix (.var 3) (.var 7)) .nil)))
  (.cons (.asg (.nm 7) (.ix (.ix (.var 1) (.ix (.var 3) (.var 7))) (.cst (.int 1))))
  .nil))
/-- what differences tells -/
def Good (c : Nat) (rows : List Row) (vl : List Int) : Prop := vl.length = c ∧ Stable rows (fun a => vl[a]?) ∧ ∃ w t K j, Inv rows (z0 c) (fun a => vl[a]?) w t K j
def DifP (c : Nat) (rows : List Row) (v : T) : Prop :=
  (∃ vl, v = .tup [.str s_values, .tup (vl.map .int)] ∧ Good c rows vl) ∨
  (∃ q : List Int, v = .tup [.str s_circle, .tup (q.map .int)] ∧ q.length ≤ c ∧ against rows q = true ∧ (∀ u, ¬ Feas rows u))
theorem dif_1 {cl : Call} (hc : c < 1000) (hr : st[rr]? = some (.lst (rows.map rowT))) {vl wl : List Int} {w : Nat → Option Nat} {l : Nat} {x5 x8 x9 x10 x11 : Option T} (hw : wl.length = c) (he : ∀ a, a < c → wl[a]? = some (encW (w a)))
    (h : ∀ s, walk (nxt rows w) l s < c ∧ ∃ i, w (walk (nxt rows w) l s) = some i ∧ rows[i]? = some (walk (nxt rows w) l s, walk (nxt rows w) l (s + 1), mst rows w (walk (nxt rows w) l s))) :
    ∃ x5', evS cl G (.for (.nm 5) (.range (.cons (.var 0) .nil)) b_dif_1) (dsl c rr st.length l x5 none none x8 x9 x10 x11) (dS st vl wl) = .nx (dsl c rr st.length (walk (nxt rows w) l c : Nat) x5' none none x8 x9 x10 x11) (dS st vl wl) := by
  refine for_ind (P := fun r => ∃ x5', r = .nx (dsl c rr st.length (walk (nxt rows w) l c : Nat) x5' none none x8 x9 x10 x11) (dS st vl wl)) c
    (fun k sl s => s = dS st vl wl ∧ ∃ x5, sl = dsl c rr st.length (walk (nxt rows w) l k : Nat) x5 none none x8 x9 x10 x11)
    (J := .rng 0 c) (st' := dS st vl wl) (it_rng1 (i := (c : Int)) (by simp only [Ss_cons, Ss_nil, q_nx, q_rt, q_bk, q_ct, q_xc, evS.eq_1, evS.eq_2, evS.eq_3, evS.eq_5, evS.eq_6, evS.eq_7, evS.eq_8, evS.eq_9, evS.eq_10, evS.eq_11, evS.eq_14, evE.eq_1, evE.eq_2, evE.eq_3, evE.eq_4, evE.eq_5, evE.eq_6, evE.eq_7, evE.eq_8, evE.eq_9, evE.eq_10, evE.eq_11, evE.eq_12, evE.eq_13, evE.eq_14, evE.eq_15, evE.eq_16, evE.eq_17, evE.eq_18, evE.eq_19, evE.eq_20, evE.eq_21, evE.eq_22, evE.eq_23, evEs, evIt, evTg, evTgs, evC, evEo, evKV, R.bind_ok, R.bind_exc, R.thenS_ok, R.thenS_exc, R.ofOpt_some, R.noExc_ok, s_add, s_sub, s_mul, s_div, s_mod, s_addT, s_eq, s_ne, s_lt, s_le, s_gt, s_ge, s_isB, s_isnB, s_isN, s_isnN, s_ixT, s_ixR, s_keyI, s_keyS, s_lenT, s_lenR, s_abs, s_int, s_tupT, s_truRB, s_min2, s_max2, s_repr, s_isi, s_itT, s_itR, s_itZT, s_lenIT, s_lenIR, s_lenIN, s_lenIZ, s_slcT, s_revT, s_alloc, List.getElem?_cons_zero, List.getElem?_cons_succ, List.set_cons_zero, List.set_cons_succ, Option.map_some, Option.bind_some, if_true, and_self, true_and, reduceIte, Bool.not_true, Bool.not_false, Bool.false_eq_true, eqT_int, Tgs.len, List.length_cons, List.length_nil, Nat.zero_add, Nat.reduceAdd, wipeL, decide_true, decide_false]) (b62 (by omega) (by omega)) (by omega)) s_lenIN ⟨rfl, x5, rfl⟩ ?_ ?_
  · rintro k sl s hk ⟨rfl, x5, rfl⟩
    refine ⟨.int k, dsl c rr st.length (walk (nxt rows w) l k : Nat) (some (.int k)) none none x8 x9 x10 x11, dS st vl wl, by rw [s_getIN, if_pos hk, Int.zero_add], by simp only [Ss_cons, Ss_nil, q_nx, q_rt, q_bk, q_ct, q_xc, evS.eq_1, evS.eq_2, evS.eq_3, evS.eq_5, evS.eq_6, evS.eq_7, evS.eq_8, evS.eq_9, evS.eq_10, evS.eq_11, evS.eq_14, evE.eq_1, evE.eq_2, evE.eq_3, evE.eq_4, evE.eq_5, evE.eq_6, evE.eq_7, evE.eq_8, evE.eq_9, evE.eq_10, evE.eq_11, evE.eq_12, evE.eq_13, evE.eq_14, evE.eq_15, evE.eq_16, evE.eq_17, evE.eq_18, evE.eq_19, evE.eq_20, evE.eq_21, evE.eq_22, evE.eq_23, evEs, evIt, evTg, evTgs, evC, evEo, evKV, R.bind_ok, R.bind_exc, R.thenS_ok, R.thenS_exc, R.ofOpt_some, R.noExc_ok, s_add, s_sub, s_mul, s_div, s_mod, s_addT, s_eq, s_ne, s_lt, s_le, s_gt, s_ge, s_isB, s_isnB, s_isN, s_isnN, s_ixT, s_ixR, s_keyI, s_keyS, s_lenT, s_lenR, s_abs, s_int, s_tupT, s_truRB, s_min2, s_max2, s_repr, s_isi, s_itT, s_itR, s_itZT, s_lenIT, s_lenIR, s_lenIN, s_lenIZ, s_slcT, s_revT, s_alloc, List.getElem?_cons_zero, List.getElem?_cons_succ, List.set_cons_zero, List.set_cons_succ, Option.map_some, Option.bind_some, if_true, and_self, true_and, reduceIte, Bool.not_true, Bool.not_false, Bool.false_eq_true, eqT_int, Tgs.len, List.length_cons, List.length_nil, Nat.zero_add, Nat.reduceAdd, wipeL, decide_true, decide_false], ?_⟩
    obtain ⟨h1, i, h2, h3⟩ := h k
    have iw : ixN (wl.map T.int).length (walk (nxt rows w) l k : Nat) = some (walk (nxt rows w) l k) := ixN_nat (by rw [List.length_map, hw]; exact h1)
    have mw : (wl.map T.int)[walk (nxt rows w) l k]? = some (.int (i : Nat)) := by rw [List.getElem?_map, he _ h1, h2]; rfl
    have ir : ixN (rows.map rowT).length (i : Nat) = some i := ixN_nat (by rw [List.length_map]; exact (List.getElem?_eq_some_iff.mp h3).1)
    have mr : (rows.map rowT)[i]? = some (rowT (walk (nxt rows w) l k, walk (nxt rows w) l (k + 1), mst rows w (walk (nxt rows w) l k))) := by rw [List.getElem?_map, h3]; rfl
    unfold b_dif_1
    simp only [Ss_cons, Ss_nil, q_nx, q_rt, q_bk, q_ct, q_xc, evS.eq_1, evS.eq_2, evS.eq_3, evS.eq_5, evS.eq_6, evS.eq_7, evS.eq_8, evS.eq_9, evS.eq_10, evS.eq_11, evS.eq_14, evE.eq_1, evE.eq_2, evE.eq_3, evE.eq_4, evE.eq_5, evE.eq_6, evE.eq_7, evE.eq_8, evE.eq_9, evE.eq_10, evE.eq_11, evE.eq_12, evE.eq_13, evE.eq_14, evE.eq_15, evE.eq_16, evE.eq_17, evE.eq_18, evE.eq_19, evE.eq_20, evE.eq_21, evE.eq_22, evE.eq_23, evEs, evIt, evTg, evTgs, evC, evEo, evKV, R.bind_ok, R.bind_exc, R.thenS_ok, R.thenS_exc, R.ofOpt_some, R.noExc_ok, s_add, s_sub, s_mul, s_div, s_mod, s_addT, s_eq, s_ne, s_lt, s_le, s_gt, s_ge, s_isB, s_isnB, s_isN, s_isnN, s_ixT, s_ixR, s_keyI, s_keyS, s_lenT, s_lenR, s_abs, s_int, s_tupT, s_truRB, s_min2, s_max2, s_repr, s_isi, s_itT, s_itR, s_itZT, s_lenIT, s_lenIR, s_lenIN, s_lenIZ, s_slcT, s_revT, s_alloc, List.getElem?_cons_zero, List.getElem?_cons_succ, List.set_cons_zero, List.set_cons_succ, Option.map_some, Option.bind_some, if_true, and_self, true_and, reduceIte, Bool.not_true, Bool.not_false, Bool.false_eq_true, eqT_int, Tgs.len, List.length_cons, List.length_nil, Nat.zero_add, Nat.reduceAdd, wipeL, decide_true, decide_false, s_ixL dS_w, s_ixL (dS_o hr), iw, mw, ir, mr, rowT, ix3_1]
    exact ⟨_, rfl⟩
  · rintro sl s ⟨rfl, x5, rfl⟩
    exact ⟨s_lenIN, x5, rfl⟩
theorem dif_2 {cl : Call} (hc : c < 1000) (hr : st[rr]? = some (.lst (rows.map rowT))) {vl wl : List Int} {w : Nat → Option Nat} {l : Nat} {x5 x8 x9 x10 x11 : Option T} (hw : wl.length = c) (he : ∀ a, a < c → wl[a]? = some (encW (w a)))
    {f : Nat → Nat} {m : Nat → Int} (h : ∀ s, f s < c ∧ ∃ i, w (f s) = some i ∧ rows[i]? = some (f s, f (s + 1), m s)) {p : Nat} (hp : 1 ≤ p) (hpc : p ≤ c) (hf : f p = f 0) :
    ∃ n x7, 1 ≤ n ∧ n ≤ p ∧ f n = f 0 ∧ evS cl G (.whl (.or (.not (.var 6)) (.cmp .NotEq (.var 7) (.var 4))) b_dif_2) (dsl c rr st.length (f 0 : Nat) x5 (some (.ref (st.length + 4))) (some (.int (f 0 : Nat))) x8 x9 x10 x11) (dS st vl wl ++ [Cell.lst []]) =
      .nx (dsl c rr st.length (f 0 : Nat) x5 (some (.ref (st.length + 4))) x7 x8 x9 x10 x11) (dS st vl wl ++ [Cell.lst ((cq w f n).map .int)]) := by
  have hL : (dS st vl wl).length = st.length + 4 := by unfold dS; simp
  have hnew : ∀ xs, (dS st vl wl ++ [Cell.lst xs])[st.length + 4]? = some (.lst xs) := fun xs => by rw [← hL]; exact get_new
  have hset : ∀ xs ys, (dS st vl wl ++ [Cell.lst xs]).set (st.length + 4) (Cell.lst ys) = dS st vl wl ++ [Cell.lst ys] := fun xs ys => by rw [← hL]; exact set_new
  refine while_ind (P := fun r => ∃ n x7, 1 ≤ n ∧ n ≤ p ∧ f n = f 0 ∧ r = .nx (dsl c rr st.length (f 0 : Nat) x5 (some (.ref (st.length + 4))) x7 x8 x9 x10 x11) (dS st vl wl ++ [Cell.lst ((cq w f n).map .int)]))
    (fun k sl s => ∃ n, k + n = p ∧ sl = dsl c rr st.length (f 0 : Nat) x5 (some (.ref (st.length + 4))) (some (.int (f n : Nat))) x8 x9 x10 x11 ∧ s = dS st vl wl ++ [Cell.lst ((cq w f n).map .int)]) p (by omega) ⟨0, rfl, rfl, rfl⟩ ?_
  rintro k sl s ⟨n, hn, rfl, rfl⟩
  by_cases hend : 1 ≤ n ∧ f n = f 0
  · refine ⟨.bl false, false, dS st vl wl ++ [Cell.lst ((cq w f n).map .int)], ?_, rfl, ?_⟩
    · have e1 : (((cq w f n).map T.int).isEmpty) = false := by
        rw [List.isEmpty_eq_false_iff, ← List.length_pos_iff, List.length_map, cq_len]; exact hend.1
      have e2 : decide (((f n : Nat) : Int) = (f 0 : Nat)) = true := b_decT (by rw [hend.2])
      have e3 : truR (dS st vl wl ++ [Cell.lst ((cq w f n).map .int)]) (.ref (st.length + 4)) = .ok true (dS st vl wl ++ [Cell.lst ((cq w f n).map .int)]) := s_tru (by rw [s_truL (hnew _), e1]; rfl)
      simp only [Ss_cons, Ss_nil, q_nx, q_rt, q_bk, q_ct, q_xc, evS.eq_1, evS.eq_2, evS.eq_3, evS.eq_5, evS.eq_6, evS.eq_7, evS.eq_8, evS.eq_9, evS.eq_10, evS.eq_11, evS.eq_14, evE.eq_1, evE.eq_2, evE.eq_3, evE.eq_4, evE.eq_5, evE.eq_6, evE.eq_7, evE.eq_8, evE.eq_9, evE.eq_10, evE.eq_11, evE.eq_12, evE.eq_13, evE.eq_14, evE.eq_15, evE.eq_16, evE.eq_17, evE.eq_18, evE.eq_19, evE.eq_20, evE.eq_21, evE.eq_22, evE.eq_23, evEs, evIt, evTg, evTgs, evC, evEo, evKV, R.bind_ok, R.bind_exc, R.thenS_ok, R.thenS_exc, R.ofOpt_some, R.noExc_ok, s_add, s_sub, s_mul, s_div, s_mod, s_addT, s_eq, s_ne, s_lt, s_le, s_gt, s_ge, s_isB, s_isnB, s_isN, s_isnN, s_ixT, s_ixR, s_keyI, s_keyS, s_lenT, s_lenR, s_abs, s_int, s_tupT, s_truRB, s_min2, s_max2, s_repr, s_isi, s_itT, s_itR, s_itZT, s_lenIT, s_lenIR, s_lenIN, s_lenIZ, s_slcT, s_revT, s_alloc, List.getElem?_cons_zero, List.getElem?_cons_succ, List.set_cons_zero, List.set_cons_succ, Option.map_some, Option.bind_some, if_true, and_self, true_and, reduceIte, Bool.not_true, Bool.not_false, Bool.false_eq_true, eqT_int, Tgs.len, List.length_cons, List.length_nil, Nat.zero_add, Nat.reduceAdd, wipeL, decide_true, decide_false, e3, e2]
    · rw [if_neg (by simp)]
      exact ⟨n, _, hend.1, by omega, hend.2, rfl⟩
  · refine ⟨.bl true, true, dS st vl wl ++ [Cell.lst ((cq w f n).map .int)], ?_, rfl, ?_⟩
    · by_cases h0 : n = 0
      · subst h0
        have e3 : truR (dS st vl wl ++ [Cell.lst ((cq w f 0).map .int)]) (.ref (st.length + 4)) = .ok false (dS st vl wl ++ [Cell.lst ((cq w f 0).map .int)]) := s_tru (by rw [s_truL (hnew _)]; rfl)
        simp only [Ss_cons, Ss_nil, q_nx, q_rt, q_bk, q_ct, q_xc, evS.eq_1, evS.eq_2, evS.eq_3, evS.eq_5, evS.eq_6, evS.eq_7, evS.eq_8, evS.eq_9, evS.eq_10, evS.eq_11, evS.eq_14, evE.eq_1, evE.eq_2, evE.eq_3, evE.eq_4, evE.eq_5, evE.eq_6, evE.eq_7, evE.eq_8, evE.eq_9, evE.eq_10, evE.eq_11, evE.eq_12, evE.eq_13, evE.eq_14, evE.eq_15, evE.eq_16, evE.eq_17, evE.eq_18, evE.eq_19, evE.eq_20, evE.eq_21, evE.eq_22, evE.eq_23, evEs, evIt, evTg, evTgs, evC, evEo, evKV, R.bind_ok, R.bind_exc, R.thenS_ok, R.thenS_exc, R.ofOpt_some, R.noExc_ok, s_add, s_sub, s_mul, s_div, s_mod, s_addT, s_eq, s_ne, s_lt, s_le, s_gt, s_ge, s_isB, s_isnB, s_isN, s_isnN, s_ixT, s_ixR, s_keyI, s_keyS, s_lenT, s_lenR, s_abs, s_int, s_tupT, s_truRB, s_min2, s_max2, s_repr, s_isi, s_itT, s_itR, s_itZT, s_lenIT, s_lenIR, s_lenIN, s_lenIZ, s_slcT, s_revT, s_alloc, List.getElem?_cons_zero, List.getElem?_cons_succ, List.set_cons_zero, List.set_cons_succ, Option.map_some, Option.bind_some, if_true, and_self, true_and, reduceIte, Bool.not_true, Bool.not_false, Bool.false_eq_true, eqT_int, Tgs.len, List.length_cons, List.length_nil, Nat.zero_add, Nat.reduceAdd, wipeL, decide_true, decide_false, e3]
      · have e1 : (((cq w f n).map T.int).isEmpty) = false := by
          rw [List.isEmpty_eq_false_iff, ← List.length_pos_iff, List.length_map, cq_len]; omega
        have e2 : decide (((f n : Nat) : Int) = (f 0 : Nat)) = false := b_decF (by intro e; exact hend ⟨by omega, by omega⟩)
        have e3 : truR (dS st vl wl ++ [Cell.lst ((cq w f n).map .int)]) (.ref (st.length + 4)) = .ok true (dS st vl wl ++ [Cell.lst ((cq w f n).map .int)]) := s_tru (by rw [s_truL (hnew _), e1]; rfl)
        simp only [Ss_cons, Ss_nil, q_nx, q_rt, q_bk, q_ct, q_xc, evS.eq_1, evS.eq_2, evS.eq_3, evS.eq_5, evS.eq_6, evS.eq_7, evS.eq_8, evS.eq_9, evS.eq_10, evS.eq_11, evS.eq_14, evE.eq_1, evE.eq_2, evE.eq_3, evE.eq_4, evE.eq_5, evE.eq_6, evE.eq_7, evE.eq_8, evE.eq_9, evE.eq_10, evE.eq_11, evE.eq_12, evE.eq_13, evE.eq_14, evE.eq_15, evE.eq_16, evE.eq_17, evE.eq_18, evE.eq_19, evE.eq_20, evE.eq_21, evE.eq_22, evE.eq_23, evEs, evIt, evTg, evTgs, evC, evEo, evKV, R.bind_ok, R.bind_exc, R.thenS_ok, R.thenS_exc, R.ofOpt_some, R.noExc_ok, s_add, s_sub, s_mul, s_div, s_mod, s_addT, s_eq, s_ne, s_lt, s_le, s_gt, s_ge, s_isB, s_isnB, s_isN, s_isnN, s_ixT, s_ixR, s_keyI, s_keyS, s_lenT, s_lenR, s_abs, s_int, s_tupT, s_truRB, s_min2, s_max2, s_repr, s_isi, s_itT, s_itR, s_itZT, s_lenIT, s_lenIR, s_lenIN, s_lenIZ, s_slcT, s_revT, s_alloc, List.getElem?_cons_zero, List.getElem?_cons_succ, List.set_cons_zero, List.set_cons_succ, Option.map_some, Option.bind_some, if_true, and_self, true_and, reduceIte, Bool.not_true, Bool.not_false, Bool.false_eq_true, eqT_int, Tgs.len, List.length_cons, List.length_nil, Nat.zero_add, Nat.reduceAdd, wipeL, decide_true, decide_false, e3, e2]
    · rw [if_pos rfl]
      have hnp : n < p := by
        rcases Nat.lt_or_ge n p with h1 | h1
        · exact h1
        · have : n = p := by omega
          subst this
          exact absurd ⟨hp, hf⟩ hend
      obtain ⟨h1, i, h2, h3⟩ := h n
      have iw : ixN (wl.map T.int).length (f n : Nat) = some (f n) := ixN_nat (by rw [List.length_map, hw]; exact h1)
      have mw : (wl.map T.int)[f n]? = some (.int (i : Nat)) := by rw [List.getElem?_map, he _ h1, h2]; rfl
      have ir : ixN (rows.map rowT).length (i : Nat) = some i := ixN_nat (by rw [List.length_map]; exact (List.getElem?_eq_some_iff.mp h3).1)
      have mr : (rows.map rowT)[i]? = some (rowT (f n, f (n + 1), m n)) := by rw [List.getElem?_map, h3]; rfl
      have hlt : (((cq w f n).map T.int).length < sizeLine) = True := eq_true (lt_size (by rw [List.length_map, cq_len]; omega))
      have hcat : (cq w f n).map T.int ++ [.int (i : Nat)] = (cq w f (n + 1)).map .int := by rw [cq_succ, List.map_append, h2]; rfl
      unfold b_dif_2
      simp only [Ss_cons, Ss_nil, q_nx, q_rt, q_bk, q_ct, q_xc, evS.eq_1, evS.eq_2, evS.eq_3, evS.eq_5, evS.eq_6, evS.eq_7, evS.eq_8, evS.eq_9, evS.eq_10, evS.eq_11, evS.eq_14, evE.eq_1, evE.eq_2, evE.eq_3, evE.eq_4, evE.eq_5, evE.eq_6, evE.eq_7, evE.eq_8, evE.eq_9, evE.eq_10, evE.eq_11, evE.eq_12, evE.eq_13, evE.eq_14, evE.eq_15, evE.eq_16, evE.eq_17, evE.eq_18, evE.eq_19, evE.eq_20, evE.eq_21, evE.eq_22, evE.eq_23, evEs, evIt, evTg, evTgs, evC, evEo, evKV, R.bind_ok, R.bind_exc, R.thenS_ok, R.thenS_exc, R.ofOpt_some, R.noExc_ok, s_add, s_sub, s_mul, s_div, s_mod, s_addT, s_eq, s_ne, s_lt, s_le, s_gt, s_ge, s_isB, s_isnB, s_isN, s_isnN, s_ixT, s_ixR, s_keyI, s_keyS, s_lenT, s_lenR, s_abs, s_int, s_tupT, s_truRB, s_min2, s_max2, s_repr, s_isi, s_itT, s_itR, s_itZT, s_lenIT, s_lenIR, s_lenIN, s_lenIZ, s_slcT, s_revT, s_alloc, List.getElem?_cons_zero, List.getElem?_cons_succ, List.set_cons_zero, List.set_cons_succ, Option.map_some, Option.bind_some, if_true, and_self, true_and, reduceIte, Bool.not_true, Bool.not_false, Bool.false_eq_true, eqT_int, Tgs.len, List.length_cons, List.length_nil, Nat.zero_add, Nat.reduceAdd, wipeL, decide_true, decide_false, s_okA (hnew _), s_append (hnew _), hset, s_ixL (get_app dS_w), s_ixL (get_app (dS_o hr)), iw, mw, ir, mr, rowT, ix3_1, hlt, hcat]
      exact ⟨k - 1, by omega, n + 1, by omega, rfl, rfl⟩
end Lw

end

section
set_option Elab.async false
set_option linter.all false
set_option maxRecDepth 100000
set_option maxHeartbeats 4000000
set_option autoImplicit false
namespace Lw
open PF PySem Df
variable {N c rr : Nat} {rows : List Row} {st : Store}
theorem is_1 : IsFn f_differences 2 12 b_differences := ⟨rfl, rfl, rfl, rfl⟩
theorem flat_rep (x : Int) : ∀ n, (List.replicate n [T.int x]).flatten = (List.replicate n x).map T.int
  | 0 => rfl
  | n + 1 => by rw [List.replicate_succ, List.replicate_succ, List.flatten_cons, flat_rep x n]; rfl
theorem repl_b {cl : Call} {e : E} {x : Int} {k : Nat} {sl : Sl} (hc : c < 1000) (hk : sl[k]? = some (some (.int c))) (he : evE cl G e sl st = .ok (.int x) st) :
    evE cl G (.bin .Mult (.lst (.cons e .nil)) (.var k)) sl st = .ok (.ref (st.length + 1)) (st ++ [Cell.lst [.int x]] ++ [Cell.lst ((List.replicate c x).map .int)]) := by
  have h1 : (1 ≤ sizeLine) = True := eq_true (lt_size2 (by omega))
  have g : (st ++ [Cell.lst [.int x]])[st.length]? = some (Cell.lst [.int x]) := get_new
  have h2 : (inS P62 (c : Int) = true ∧ [T.int x].length * (c : Int).toNat ≤ sizeLine) := ⟨in62 (by omega), by
    rw [List.length_singleton, Nat.one_mul, Int.toNat_natCast]; exact lt_size2 (by omega)⟩
  have h3 := s_repl (k := (c : Int)) g
  rw [if_pos h2, Int.toNat_natCast, flat_rep, s_alloc, List.length_append, List.length_singleton] at h3
  simp only [Ss_cons, Ss_nil, q_nx, q_rt, q_bk, q_ct, q_xc, evS.eq_1, evS.eq_2, evS.eq_3, evS.eq_5, evS.eq_6, evS.eq_7, evS.eq_8, evS.eq_9, evS.eq_10, evS.eq_11, evS.eq_14, evE.eq_1, evE.eq_2, evE.eq_3, evE.eq_4, evE.eq_5, evE.eq_6, evE.eq_7, evE.eq_8, evE.eq_9, evE.eq_10, evE.eq_11, evE.eq_12, evE.eq_13, evE.eq_14, evE.eq_15, evE.eq_16, evE.eq_17, evE.eq_18, evE.eq_19, evE.eq_20, evE.eq_21, evE.eq_22, evE.eq_23, evEs, evIt, evTg, evTgs, evC, evEo, evKV, R.bind_ok, R.bind_exc, R.thenS_ok, R.thenS_exc, R.ofOpt_some, R.noExc_ok, s_add, s_sub, s_mul, s_div, s_mod, s_addT, s_eq, s_ne, s_lt, s_le, s_gt, s_ge, s_isB, s_isnB, s_isN, s_isnN, s_ixT, s_ixR, s_keyI, s_keyS, s_lenT, s_lenR, s_abs, s_int, s_tupT, s_truRB, s_min2, s_max2, s_repr, s_isi, s_itT, s_itR, s_itZT, s_lenIT, s_lenIR, s_lenIN, s_lenIZ, s_slcT, s_revT, s_alloc, List.getElem?_cons_zero, List.getElem?_cons_succ, List.set_cons_zero, List.set_cons_succ, Option.map_some, Option.bind_some, if_true, and_self, true_and, reduceIte, Bool.not_true, Bool.not_false, Bool.false_eq_true, eqT_int, Tgs.len, List.length_cons, List.length_nil, Nat.zero_add, Nat.reduceAdd, wipeL, decide_true, decide_false, he, h1, hk, h3]
def dif0 : Ss := (.cons (.asg (.nm 2) (.bin .Mult (.lst (.cons (.cst (.int 0)) .nil)) (.var 0)))
  (.cons (.asg (.nm 3) (.bin .Mult (.lst (.cons (.neg (.cst (.int 1))) .nil)) (.var 0)))
  (.cons (.asg (.nm 4) (.neg (.cst (.int 1)))) .nil)))
theorem dif_0 {cl : Call} (hc : c < 1000) : evSs cl G dif0 [some (.int c), some (.ref rr), none, none, none, none, none, none, none, none, none, none] st =
    .nx (dsl c rr st.length (-1) none none none none none none none) (dS st (List.replicate c 0) (List.replicate c (-1))) := by
  unfold dif0
  have e1 := repl_b (cl := cl) (st := st) (e := .cst (.int 0)) (x := 0) (k := 0) (c := c) (sl := [some (.int c), some (.ref rr), none, none, none, none, none, none, none, none, none, none]) hc rfl (by simp only [Ss_cons, Ss_nil, q_nx, q_rt, q_bk, q_ct, q_xc, evS.eq_1, evS.eq_2, evS.eq_3, evS.eq_5, evS.eq_6, evS.eq_7, evS.eq_8, evS.eq_9, evS.eq_10, evS.eq_11, evS.eq_14, evE.eq_1, evE.eq_2, evE.eq_3, evE.eq_4, evE.eq_5, evE.eq_6, evE.eq_7, evE.eq_8, evE.eq_9, evE.eq_10, evE.eq_11, evE.eq_12, evE.eq_13, evE.eq_14, evE.eq_15, evE.eq_16, evE.eq_17, evE.eq_18, evE.eq_19, evE.eq_20, evE.eq_21, evE.eq_22, evE.eq_23, evEs, evIt, evTg, evTgs, evC, evEo, evKV, R.bind_ok, R.bind_exc, R.thenS_ok, R.thenS_exc, R.ofOpt_some, R.noExc_ok, s_add, s_sub, s_mul, s_div, s_mod, s_addT, s_eq, s_ne, s_lt, s_le, s_gt, s_ge, s_isB, s_isnB, s_isN, s_isnN, s_ixT, s_ixR, s_keyI, s_keyS, s_lenT, s_lenR, s_abs, s_int, s_tupT, s_truRB, s_min2, s_max2, s_repr, s_isi, s_itT, s_itR, s_itZT, s_lenIT, s_lenIR, s_lenIN, s_lenIZ, s_slcT, s_revT, s_alloc, List.getElem?_cons_zero, List.getElem?_cons_succ, List.set_cons_zero, List.set_cons_succ, Option.map_some, Option.bind_some, if_true, and_self, true_and, reduceIte, Bool.not_true, Bool.not_false, Bool.false_eq_true, eqT_int, Tgs.len, List.length_cons, List.length_nil, Nat.zero_add, Nat.reduceAdd, wipeL, decide_true, decide_false])
  have e2 := repl_b (cl := cl) (st := st ++ [Cell.lst [.int 0]] ++ [Cell.lst ((List.replicate c 0).map .int)]) (e := .neg (.cst (.int 1))) (x := -1) (k := 0) (c := c)
    (sl := [some (.int c), some (.ref rr), some (.ref (st.length + 1)), none, none, none, none, none, none, none, none, none]) hc rfl (by simp only [Ss_cons, Ss_nil, q_nx, q_rt, q_bk, q_ct, q_xc, evS.eq_1, evS.eq_2, evS.eq_3, evS.eq_5, evS.eq_6, evS.eq_7, evS.eq_8, evS.eq_9, evS.eq_10, evS.eq_11, evS.eq_14, evE.eq_1, evE.eq_2, evE.eq_3, evE.eq_4, evE.eq_5, evE.eq_6, evE.eq_7, evE.eq_8, evE.eq_9, evE.eq_10, evE.eq_11, evE.eq_12, evE.eq_13, evE.eq_14, evE.eq_15, evE.eq_16, evE.eq_17, evE.eq_18, evE.eq_19, evE.eq_20, evE.eq_21, evE.eq_22, evE.eq_23, evEs, evIt, evTg, evTgs, evC, evEo, evKV, R.bind_ok, R.bind_exc, R.thenS_ok, R.thenS_exc, R.ofOpt_some, R.noExc_ok, s_add, s_sub, s_mul, s_div, s_mod, s_addT, s_eq, s_ne, s_lt, s_le, s_gt, s_ge, s_isB, s_isnB, s_isN, s_isnN, s_ixT, s_ixR, s_keyI, s_keyS, s_lenT, s_lenR, s_abs, s_int, s_tupT, s_truRB, s_min2, s_max2, s_repr, s_isi, s_itT, s_itR, s_itZT, s_lenIT, s_lenIR, s_lenIN, s_lenIZ, s_slcT, s_revT, s_alloc, List.getElem?_cons_zero, List.getElem?_cons_succ, List.set_cons_zero, List.set_cons_succ, Option.map_some, Option.bind_some, if_true, and_self, true_and, reduceIte, Bool.not_true, Bool.not_false, Bool.false_eq_true, eqT_int, Tgs.len, List.length_cons, List.length_nil, Nat.zero_add, Nat.reduceAdd, wipeL, decide_true, decide_false])
  have hl : (st ++ [Cell.lst [.int 0]] ++ [Cell.lst ((List.replicate c 0).map .int)] : Store).length + 1 = st.length + 3 := by simp
  rw [hl] at e2
  rw [Ss_cons, evS.eq_1, e1]
  simp only [R.thenS_ok, evTg, R.noExc_ok, q_nx, List.set_cons_zero, List.set_cons_succ]
  rw [Ss_cons, evS.eq_1, e2]
  simp only [Ss_cons, Ss_nil, q_nx, q_rt, q_bk, q_ct, q_xc, evS.eq_1, evS.eq_2, evS.eq_3, evS.eq_5, evS.eq_6, evS.eq_7, evS.eq_8, evS.eq_9, evS.eq_10, evS.eq_11, evS.eq_14, evE.eq_1, evE.eq_2, evE.eq_3, evE.eq_4, evE.eq_5, evE.eq_6, evE.eq_7, evE.eq_8, evE.eq_9, evE.eq_10, evE.eq_11, evE.eq_12, evE.eq_13, evE.eq_14, evE.eq_15, evE.eq_16, evE.eq_17, evE.eq_18, evE.eq_19, evE.eq_20, evE.eq_21, evE.eq_22, evE.eq_23, evEs, evIt, evTg, evTgs, evC, evEo, evKV, R.bind_ok, R.bind_exc, R.thenS_ok, R.thenS_exc, R.ofOpt_some, R.noExc_ok, s_add, s_sub, s_mul, s_div, s_mod, s_addT, s_eq, s_ne, s_lt, s_le, s_gt, s_ge, s_isB, s_isnB, s_isN, s_isnN, s_ixT, s_ixR, s_keyI, s_keyS, s_lenT, s_lenR, s_abs, s_int, s_tupT, s_truRB, s_min2, s_max2, s_repr, s_isi, s_itT, s_itR, s_itZT, s_lenIT, s_lenIR, s_lenIN, s_lenIZ, s_slcT, s_revT, s_alloc, List.getElem?_cons_zero, List.getElem?_cons_succ, List.set_cons_zero, List.set_cons_succ, Option.map_some, Option.bind_some, if_true, and_self, true_and, reduceIte, Bool.not_true, Bool.not_false, Bool.false_eq_true, eqT_int, Tgs.len, List.length_cons, List.length_nil, Nat.zero_add, Nat.reduceAdd, wipeL, decide_true, decide_false]
  unfold dsl dS
  simp only [List.append_assoc, List.cons_append, List.nil_append]
theorem bf0 (c : Nat) (rows : List Row) : Bf c rows (List.replicate c 0) (List.replicate c (-1)) (fun _ => none) (fun _ => 0) 0 0 where
  hv := List.length_replicate
  hw := List.length_replicate
  he a ha := by rw [List.getElem?_replicate, if_pos ha]; rfl
  inv := inv0 rows (z0 c)
theorem b_dif_eq : b_differences = (.cons (.expr (.call 0 (.cons (.var 0) (.cons (.var 1) .nil))))
  (.cons (.asg (.nm 2) (.bin .Mult (.lst (.cons (.cst (.int 0)) .nil)) (.var 0)))
  (.cons (.asg (.nm 3) (.bin .Mult (.lst (.cons (.neg (.cst (.int 1))) .nil)) (.var 0)))
  (.cons (.asg (.nm 4) (.neg (.cst (.int 1))))
  (.cons (.for (.nm 5) (.range (.cons (.bin .Add (.var 0) (.cst (.int 1))) .nil)) b_out)
  (.cons (.for (.nm 5) (.range (.cons (.var 0) .nil)) b_dif_1)
  (.cons (.asg (.nm 6) (.lst .nil))
  (.cons (.asg (.nm 7) (.var 4))
  (.cons (.whl (.or (.not (.var 6)) (.cmp .NotEq (.var 7) (.var 4))) b_dif_2)
  (.cons (.ret (.tup (.cons (.cst (.str s_circle)) (.cons (.bcall .tuple (.cons (.var 6) .nil)) .nil))))
  .nil)))))))))) := rfl
theorem dif_spec (hc : 1 ≤ c ∧ c ≤ 12) (ho : Okay c rows) (hr : st[rr]? = some (.lst (rows.map rowT))) (hs : Cls st) : ∃ v, run fns G (N + 2) 1 [.int c, .ref rr] st = .ok v st ∧ DifP c rows v ∧ v.lim st.length = true := by
  rw [run_as fn_1 is_1 [some (.int c), some (.ref rr), none, none, none, none, none, none, none, none, none, none] rfl rfl]
  have hck := check_ok (N := N) hc ho hr hs
  have h0 := dif_0 (cl := run fns G (N + 1)) (st := st) (rr := rr) (c := c) (by omega)
  have limI : ∀ (l : List Int), T.lims st.length (l.map .int) = true := fun l => by induction l with
    | nil => rfl
    | cons x l ih => simp only [List.map_cons, T.lims, T.lim, ih, Bool.and_self]
  rw [b_dif_eq]
  have e1 : evSs (run fns G (N + 1)) G (.cons (.expr (.call 0 (.cons (.var 0) (.cons (.var 1) .nil))))
    (.cons (.asg (.nm 2) (.bin .Mult (.lst (.cons (.cst (.int 0)) .nil)) (.var 0)))
    (.cons (.asg (.nm 3) (.bin .Mult (.lst (.cons (.neg (.cst (.int 1))) .nil)) (.var 0)))
    (.cons (.asg (.nm 4) (.neg (.cst (.int 1)))) .nil)))) [some (.int c), some (.ref rr), none, none, none, none, none, none, none, none, none, none] st = .nx (dsl c rr st.length (-1) none none none none none none none) (dS st (List.replicate c 0) (List.replicate c (-1))) := by
    rw [Ss_cons, evS.eq_5]
    have : evE (run fns G (N + 1)) G (.call 0 (.cons (.var 0) (.cons (.var 1) .nil))) [some (.int c), some (.ref rr), none, none, none, none, none, none, none, none, none, none] st = .ok .non st := by
      simp only [Ss_cons, Ss_nil, q_nx, q_rt, q_bk, q_ct, q_xc, evS.eq_1, evS.eq_2, evS.eq_3, evS.eq_5, evS.eq_6, evS.eq_7, evS.eq_8, evS.eq_9, evS.eq_10, evS.eq_11, evS.eq_14, evE.eq_1, evE.eq_2, evE.eq_3, evE.eq_4, evE.eq_5, evE.eq_6, evE.eq_7, evE.eq_8, evE.eq_9, evE.eq_10, evE.eq_11, evE.eq_12, evE.eq_13, evE.eq_14, evE.eq_15, evE.eq_16, evE.eq_17, evE.eq_18, evE.eq_19, evE.eq_20, evE.eq_21, evE.eq_22, evE.eq_23, evEs, evIt, evTg, evTgs, evC, evEo, evKV, R.bind_ok, R.bind_exc, R.thenS_ok, R.thenS_exc, R.ofOpt_some, R.noExc_ok, s_add, s_sub, s_mul, s_div, s_mod, s_addT, s_eq, s_ne, s_lt, s_le, s_gt, s_ge, s_isB, s_isnB, s_isN, s_isnN, s_ixT, s_ixR, s_keyI, s_keyS, s_lenT, s_lenR, s_abs, s_int, s_tupT, s_truRB, s_min2, s_max2, s_repr, s_isi, s_itT, s_itR, s_itZT, s_lenIT, s_lenIR, s_lenIN, s_lenIZ, s_slcT, s_revT, s_alloc, List.getElem?_cons_zero, List.getElem?_cons_succ, List.set_cons_zero, List.set_cons_succ, Option.map_some, Option.bind_some, if_true, and_self, true_and, reduceIte, Bool.not_true, Bool.not_false, Bool.false_eq_true, eqT_int, Tgs.len, List.length_cons, List.length_nil, Nat.zero_add, Nat.reduceAdd, wipeL, decide_true, decide_false, hck]
    rw [this, R.thenS_ok, q_nx]
    exact h0
  have split4 : ∀ (s1 s2 s3 s4 : S) (r : Ss) (sl : Sl) (st : Store) (sl' : Sl) (st' : Store), evSs (run fns G (N + 1)) G (.cons s1 (.cons s2 (.cons s3 (.cons s4 .nil)))) sl st = .nx sl' st' → evSs (run fns G (N + 1)) G (.cons s1 (.cons s2 (.cons s3 (.cons s4 r)))) sl st = evSs (run fns G (N + 1)) G r sl' st' := by
    intro s1 s2 s3 s4 r sl st sl' st' h
    rw [Ss_cons] at h ⊢
    cases h1 : evS (run fns G (N + 1)) G s1 sl st <;> rw [h1] at h <;> try (cases h)
    rw [q_nx] at h ⊢
    rw [Ss_cons] at h ⊢
    rename_i a b
    cases h2 : evS (run fns G (N + 1)) G s2 a b <;> rw [h2] at h <;> try (cases h)
    rw [q_nx] at h ⊢
    rw [Ss_cons] at h ⊢
    rename_i a b
    cases h3 : evS (run fns G (N + 1)) G s3 a b <;> rw [h3] at h <;> try (cases h)
    rw [q_nx] at h ⊢
    rw [Ss_cons] at h ⊢
    rename_i a b
    cases h4 : evS (run fns G (N + 1)) G s4 a b <;> rw [h4] at h <;> cases h
    rfl
  rw [split4 _ _ _ _ _ _ _ _ _ e1, Ss_cons]
  have ho1 := out_b (cl := run fns G (N + 1)) ho (by omega) hr (bf0 c rows) (last := -1)
  rcases ho1 with ⟨vl, wl, w, t, K, e, hb, hst⟩ | ⟨vl, wl, w, t, x5, x8, x9, x10, x11, l, e, hb, hl, ht⟩
  · rw [e, q_rt, r_rt, gc_pure hs (by simp only [T.lim, T.lims, limI, Bool.and_self]) dS_take]
    exact ⟨_, rfl, .inl ⟨vl, rfl, hb.hv, hst, w, t, _, _, hb.inv⟩, by simp only [T.lim, T.lims, limI, Bool.and_self]⟩
  · rw [e, q_nx]
    have hcir := hb.inv.circle ho hl ht
    obtain ⟨g1, ⟨p, g2, g3, g4⟩, g5⟩ := hcir
    obtain ⟨x5', e1'⟩ := dif_1 (cl := run fns G (N + 1)) (x5 := x5) (x8 := x8) (x9 := x9) (x10 := x10) (x11 := x11) (by omega) hr hb.hw hb.he g1
    rw [Ss_cons, e1', q_nx]
    obtain ⟨n, x7, k1, k1', k2, e2⟩ := dif_2 (cl := run fns G (N + 1)) (x5 := x5') (x8 := x8) (x9 := x9) (x10 := x10) (x11 := x11) (st := st) (rr := rr) (l := l) (by omega) hr hb.hw hb.he (f := fun s => walk (nxt rows w) l (c + s)) (m := fun s => mst rows w (walk (nxt rows w) l (c + s)))
      (fun s => g1 (c + s)) g2 g3 g4
    have hL : (dS st vl wl).length = st.length + 4 := by unfold dS; simp
    have z : (0 ≤ sizeLine) = True := eq_true (Nat.zero_le _)
    have e3 : evS (run fns G (N + 1)) G (.asg (.nm 6) (.lst .nil)) (dsl c rr st.length (walk (nxt rows w) l c : Nat) x5' none none x8 x9 x10 x11) (dS st vl wl) = .nx (dsl c rr st.length (walk (nxt rows w) l c : Nat) x5' (some (.ref (st.length + 4))) none x8 x9 x10 x11) (dS st vl wl ++ [Cell.lst []]) := by
      simp only [Ss_cons, Ss_nil, q_nx, q_rt, q_bk, q_ct, q_xc, evS.eq_1, evS.eq_2, evS.eq_3, evS.eq_5, evS.eq_6, evS.eq_7, evS.eq_8, evS.eq_9, evS.eq_10, evS.eq_11, evS.eq_14, evE.eq_1, evE.eq_2, evE.eq_3, evE.eq_4, evE.eq_5, evE.eq_6, evE.eq_7, evE.eq_8, evE.eq_9, evE.eq_10, evE.eq_11, evE.eq_12, evE.eq_13, evE.eq_14, evE.eq_15, evE.eq_16, evE.eq_17, evE.eq_18, evE.eq_19, evE.eq_20, evE.eq_21, evE.eq_22, evE.eq_23, evEs, evIt, evTg, evTgs, evC, evEo, evKV, R.bind_ok, R.bind_exc, R.thenS_ok, R.thenS_exc, R.ofOpt_some, R.noExc_ok, s_add, s_sub, s_mul, s_div, s_mod, s_addT, s_eq, s_ne, s_lt, s_le, s_gt, s_ge, s_isB, s_isnB, s_isN, s_isnN, s_ixT, s_ixR, s_keyI, s_keyS, s_lenT, s_lenR, s_abs, s_int, s_tupT, s_truRB, s_min2, s_max2, s_repr, s_isi, s_itT, s_itR, s_itZT, s_lenIT, s_lenIR, s_lenIN, s_lenIZ, s_slcT, s_revT, s_alloc, List.getElem?_cons_zero, List.getElem?_cons_succ, List.set_cons_zero, List.set_cons_succ, Option.map_some, Option.bind_some, if_true, and_self, true_and, reduceIte, Bool.not_true, Bool.not_false, Bool.false_eq_true, eqT_int, Tgs.len, List.length_cons, List.length_nil, Nat.zero_add, Nat.reduceAdd, wipeL, decide_true, decide_false, z, hL]
    have e4 : evS (run fns G (N + 1)) G (.asg (.nm 7) (.var 4)) (dsl c rr st.length (walk (nxt rows w) l c : Nat) x5' (some (.ref (st.length + 4))) none x8 x9 x10 x11) (dS st vl wl ++ [Cell.lst []]) = .nx (dsl c rr st.length (walk (nxt rows w) l c : Nat) x5' (some (.ref (st.length + 4))) (some (.int (walk (nxt rows w) l c : Nat))) x8 x9 x10 x11) (dS st vl wl ++ [Cell.lst []]) := by
      simp only [Ss_cons, Ss_nil, q_nx, q_rt, q_bk, q_ct, q_xc, evS.eq_1, evS.eq_2, evS.eq_3, evS.eq_5, evS.eq_6, evS.eq_7, evS.eq_8, evS.eq_9, evS.eq_10, evS.eq_11, evS.eq_14, evE.eq_1, evE.eq_2, evE.eq_3, evE.eq_4, evE.eq_5, evE.eq_6, evE.eq_7, evE.eq_8, evE.eq_9, evE.eq_10, evE.eq_11, evE.eq_12, evE.eq_13, evE.eq_14, evE.eq_15, evE.eq_16, evE.eq_17, evE.eq_18, evE.eq_19, evE.eq_20, evE.eq_21, evE.eq_22, evE.eq_23, evEs, evIt, evTg, evTgs, evC, evEo, evKV, R.bind_ok, R.bind_exc, R.thenS_ok, R.thenS_exc, R.ofOpt_some, R.noExc_ok, s_add, s_sub, s_mul, s_div, s_mod, s_addT, s_eq, s_ne, s_lt, s_le, s_gt, s_ge, s_isB, s_isnB, s_isN, s_isnN, s_ixT, s_ixR, s_keyI, s_keyS, s_lenT, s_lenR, s_abs, s_int, s_tupT, s_truRB, s_min2, s_max2, s_repr, s_isi, s_itT, s_itR, s_itZT, s_lenIT, s_lenIR, s_lenIN, s_lenIZ, s_slcT, s_revT, s_alloc, List.getElem?_cons_zero, List.getElem?_cons_succ, List.set_cons_zero, List.set_cons_succ, Option.map_some, Option.bind_some, if_true, and_self, true_and, reduceIte, Bool.not_true, Bool.not_false, Bool.false_eq_true, eqT_int, Tgs.len, List.length_cons, List.length_nil, Nat.zero_add, Nat.reduceAdd, wipeL, decide_true, decide_false]
    rw [Ss_cons, e3, q_nx, Ss_cons, e4, q_nx, Ss_cons]
    simp only [Nat.add_zero] at e2
    rw [e2, q_nx]
    have hnew : ∀ xs, (dS st vl wl ++ [Cell.lst xs])[st.length + 4]? = some (.lst xs) := fun xs => by rw [← hL]; exact get_new
    simp only [Ss_cons, Ss_nil, q_nx, q_rt, q_bk, q_ct, q_xc, evS.eq_1, evS.eq_2, evS.eq_3, evS.eq_5, evS.eq_6, evS.eq_7, evS.eq_8, evS.eq_9, evS.eq_10, evS.eq_11, evS.eq_14, evE.eq_1, evE.eq_2, evE.eq_3, evE.eq_4, evE.eq_5, evE.eq_6, evE.eq_7, evE.eq_8, evE.eq_9, evE.eq_10, evE.eq_11, evE.eq_12, evE.eq_13, evE.eq_14, evE.eq_15, evE.eq_16, evE.eq_17, evE.eq_18, evE.eq_19, evE.eq_20, evE.eq_21, evE.eq_22, evE.eq_23, evEs, evIt, evTg, evTgs, evC, evEo, evKV, R.bind_ok, R.bind_exc, R.thenS_ok, R.thenS_exc, R.ofOpt_some, R.noExc_ok, s_add, s_sub, s_mul, s_div, s_mod, s_addT, s_eq, s_ne, s_lt, s_le, s_gt, s_ge, s_isB, s_isnB, s_isN, s_isnN, s_ixT, s_ixR, s_keyI, s_keyS, s_lenT, s_lenR, s_abs, s_int, s_tupT, s_truRB, s_min2, s_max2, s_repr, s_isi, s_itT, s_itR, s_itZT, s_lenIT, s_lenIR, s_lenIN, s_lenIZ, s_slcT, s_revT, s_alloc, List.getElem?_cons_zero, List.getElem?_cons_succ, List.set_cons_zero, List.set_cons_succ, Option.map_some, Option.bind_some, if_true, and_self, true_and, reduceIte, Bool.not_true, Bool.not_false, Bool.false_eq_true, eqT_int, Tgs.len, List.length_cons, List.length_nil, Nat.zero_add, Nat.reduceAdd, wipeL, decide_true, decide_false, s_tupL (hnew _), two_le]
    have htake : (dS st vl wl ++ [Cell.lst ((cq w (fun s => walk (nxt rows w) l (c + s)) n).map .int)]).take st.length = st := by
      rw [List.take_append_of_le_length (by rw [hL]; omega)]; exact dS_take
    rw [r_rt, gc_pure hs (by simp only [T.lim, T.lims, limI, Bool.and_self]) htake]
    refine ⟨_, rfl, .inr ⟨_, rfl, by rw [cq_len]; omega, cq_against k1 (m := fun s => mst rows w (walk (nxt rows w) l (c + s))) (fun s => (g1 (c + s)).2) k2 ?_, ?_⟩, by simp only [T.lim, T.lims, limI, Bool.and_self]⟩
    · exact g5 c n k1 k2
    · intro u hu
      have := hb.inv.still ho hu hl
      omega
end Lw

end

section
set_option Elab.async false
set_option linter.all false
set_option maxRecDepth 100000
set_option maxHeartbeats 4000000
set_option autoImplicit false
namespace Lw
open PF PySem Df
variable {N c rr : Nat} {rows : List Row} {st : Store}
theorem is_2 : IsFn f_keeps 3 6 b_keeps := ⟨rfl, rfl, rfl, rfl⟩
theorem is_3 : IsFn f_is_against 3 5 b_is_against := ⟨rfl, rfl, rfl, rfl⟩
theorem is_10 : IsFn f__law_keeps 2 5 b__law_keeps := ⟨rfl, rfl, rfl, rfl⟩
theorem is_11 : IsFn f__law_against 2 4 b__law_against := ⟨rfl, rfl, rfl, rfl⟩
/-! keeping -/
def keepR (vl : List Int) (r : Row) : Bool := decide (vl.getD r.1 0 - vl.getD r.2.1 0 ≤ r.2.2)
def keepT (vl : List Int) : T → T
  | .tup [.int a, .int b, .int m] => .bl (decide (vl.getD a.toNat 0 - vl.getD b.toNat 0 ≤ m))
  | _ => .non
theorem keep_map (vl : List Int) (rows : List Row) : (rows.map rowT).map (keepT vl) = (rows.map (keepR vl)).map .bl := by
  rw [List.map_map, List.map_map]
  congr 1
theorem get_of_mem {r : Row} (h : r ∈ rows) : ∃ i : Nat, rows[i]? = some r := List.mem_iff_getElem?.mp h
theorem getD_map {vl : List Int} {a : Nat} (h : a < vl.length) : (vl.map T.int)[a]? = some (.int (vl.getD a 0)) := by
  rw [List.getElem?_map, List.getD_eq_getElem?_getD, List.getElem?_eq_getElem h]; rfl
theorem comp_keep {cl : Call} {vl : List Int} {i j a b m : Nat} {sl : Sl} (ho : Okay c rows) (hv : c ≤ vl.length) (hl : rows.length ≤ 1000) (hr : st[rr]? = some (.lst (rows.map rowT)))
    (hi : sl[i]? = some (some (.ref rr)))
    (h2 : ∀ x y z : T, ∃ sl', evTgs cl G (.cons (.nm a) (.cons (.nm b) (.cons (.nm m) .nil))) [x, y, z] (wipeL sl [a, b, m]) = (fun st => .ok sl' st) ∧ sl'[j]? = some (some (.tup (vl.map .int))) ∧ sl'[a]? = some (some x) ∧ sl'[b]? = some (some y) ∧ sl'[m]? = some (some z)) :
    evE cl G (.comp (.tup (.cons (.nm a) (.cons (.nm b) (.cons (.nm m) .nil)))) (.val (.var i)) .none (.cmp .LtE (.bin .Sub (.ix (.var j) (.var a)) (.ix (.var j) (.var b))) (.var m)) [a, b, m]) sl st =
      .ok (.ref st.length) (st ++ [Cell.lst ((rows.map (keepR vl)).map .bl)]) := by
  rw [← keep_map]
  refine comp_map (rows.map rowT) (keepT vl) (J := .lst rr) (by simp only [Ss_cons, Ss_nil, q_nx, q_rt, q_bk, q_ct, q_xc, evS.eq_1, evS.eq_2, evS.eq_3, evS.eq_5, evS.eq_6, evS.eq_7, evS.eq_8, evS.eq_9, evS.eq_10, evS.eq_11, evS.eq_14, evE.eq_1, evE.eq_2, evE.eq_3, evE.eq_4, evE.eq_5, evE.eq_6, evE.eq_7, evE.eq_8, evE.eq_9, evE.eq_10, evE.eq_11, evE.eq_12, evE.eq_13, evE.eq_14, evE.eq_15, evE.eq_16, evE.eq_17, evE.eq_18, evE.eq_19, evE.eq_20, evE.eq_21, evE.eq_22, evE.eq_23, evEs, evIt, evTg, evTgs, evC, evEo, evKV, R.bind_ok, R.bind_exc, R.thenS_ok, R.thenS_exc, R.ofOpt_some, R.noExc_ok, s_add, s_sub, s_mul, s_div, s_mod, s_addT, s_eq, s_ne, s_lt, s_le, s_gt, s_ge, s_isB, s_isnB, s_isN, s_isnN, s_ixT, s_ixR, s_keyI, s_keyS, s_lenT, s_lenR, s_abs, s_int, s_tupT, s_truRB, s_min2, s_max2, s_repr, s_isi, s_itT, s_itR, s_itZT, s_lenIT, s_lenIR, s_lenIN, s_lenIZ, s_slcT, s_revT, s_alloc, List.getElem?_cons_zero, List.getElem?_cons_succ, List.set_cons_zero, List.set_cons_succ, Option.map_some, Option.bind_some, if_true, and_self, true_and, reduceIte, Bool.not_true, Bool.not_false, Bool.false_eq_true, eqT_int, Tgs.len, List.length_cons, List.length_nil, Nat.zero_add, Nat.reduceAdd, wipeL, decide_true, decide_false, hi, s_itL hr]) (lt_size2 (by rw [List.length_map]; exact hl)) (fun acc i => s_getIL (get_app hr)) (fun acc => s_lenIL (get_app hr)) (s_lenIL hr) ?_
  intro x acc hx
  obtain ⟨⟨a', b', m'⟩, hm, rfl⟩ := List.mem_map.mp hx
  obtain ⟨k, hk⟩ := get_of_mem hm
  obtain ⟨o1, o2⟩ := ho.ok _ _ _ _ hk
  obtain ⟨sl', e0, e1, e2, e3, e4⟩ := h2 (.int a') (.int b') (.int m')
  have ia : ixN (vl.map T.int).length a' = some a' := ixN_nat (by rw [List.length_map]; omega)
  have ib : ixN (vl.map T.int).length b' = some b' := ixN_nat (by rw [List.length_map]; omega)
  have e0' := congrFun e0 (st ++ [Cell.lst acc])
  simp only [rowT, evTg, Tgs.len, List.length_cons, List.length_nil, if_true]
  rw [e0']
  simp only [Ss_cons, Ss_nil, q_nx, q_rt, q_bk, q_ct, q_xc, evS.eq_1, evS.eq_2, evS.eq_3, evS.eq_5, evS.eq_6, evS.eq_7, evS.eq_8, evS.eq_9, evS.eq_10, evS.eq_11, evS.eq_14, evE.eq_1, evE.eq_2, evE.eq_3, evE.eq_4, evE.eq_5, evE.eq_6, evE.eq_7, evE.eq_8, evE.eq_9, evE.eq_10, evE.eq_11, evE.eq_12, evE.eq_13, evE.eq_14, evE.eq_15, evE.eq_16, evE.eq_17, evE.eq_18, evE.eq_19, evE.eq_20, evE.eq_21, evE.eq_22, evE.eq_23, evEs, evIt, evTg, evTgs, evC, evEo, evKV, R.bind_ok, R.bind_exc, R.thenS_ok, R.thenS_exc, R.ofOpt_some, R.noExc_ok, s_add, s_sub, s_mul, s_div, s_mod, s_addT, s_eq, s_ne, s_lt, s_le, s_gt, s_ge, s_isB, s_isnB, s_isN, s_isnN, s_ixT, s_ixR, s_keyI, s_keyS, s_lenT, s_lenR, s_abs, s_int, s_tupT, s_truRB, s_min2, s_max2, s_repr, s_isi, s_itT, s_itR, s_itZT, s_lenIT, s_lenIR, s_lenIN, s_lenIZ, s_slcT, s_revT, s_alloc, List.getElem?_cons_zero, List.getElem?_cons_succ, List.set_cons_zero, List.set_cons_succ, Option.map_some, Option.bind_some, if_true, and_self, true_and, reduceIte, Bool.not_true, Bool.not_false, Bool.false_eq_true, eqT_int, Tgs.len, List.length_cons, List.length_nil, Nat.zero_add, Nat.reduceAdd, wipeL, decide_true, decide_false, e1, e2, e3, e4, ia, ib, getD_map (show a' < vl.length by omega), getD_map (show b' < vl.length by omega), keepT, Int.toNat_natCast]
theorem lkeeps_spec {vl : List Int} (ho : Okay c rows) (hv : c ≤ vl.length) (hl : rows.length ≤ 1000) (hr : st[rr]? = some (.lst (rows.map rowT))) (hs : Cls st) :
    run fns G (N + 1) 10 [.ref rr, .tup (vl.map .int)] st = .ok (.bl (rows.all (keepR vl))) st := by
  rw [run_as fn_10 is_10 [some (.ref rr), some (.tup (vl.map .int)), none, none, none] rfl rfl]
  unfold b__law_keeps
  have h := comp_keep (cl := run fns G N) (vl := vl) (i := 0) (j := 1) (a := 2) (b := 3) (m := 4) (sl := [some (.ref rr), some (.tup (vl.map .int)), none, none, none]) ho hv hl hr rfl
    (fun x y z => ⟨[some (.ref rr), some (.tup (vl.map .int)), some x, some y, some z], by funext st; simp only [Ss_cons, Ss_nil, q_nx, q_rt, q_bk, q_ct, q_xc, evS.eq_1, evS.eq_2, evS.eq_3, evS.eq_5, evS.eq_6, evS.eq_7, evS.eq_8, evS.eq_9, evS.eq_10, evS.eq_11, evS.eq_14, evE.eq_1, evE.eq_2, evE.eq_3, evE.eq_4, evE.eq_5, evE.eq_6, evE.eq_7, evE.eq_8, evE.eq_9, evE.eq_10, evE.eq_11, evE.eq_12, evE.eq_13, evE.eq_14, evE.eq_15, evE.eq_16, evE.eq_17, evE.eq_18, evE.eq_19, evE.eq_20, evE.eq_21, evE.eq_22, evE.eq_23, evEs, evIt, evTg, evTgs, evC, evEo, evKV, R.bind_ok, R.bind_exc, R.thenS_ok, R.thenS_exc, R.ofOpt_some, R.noExc_ok, s_add, s_sub, s_mul, s_div, s_mod, s_addT, s_eq, s_ne, s_lt, s_le, s_gt, s_ge, s_isB, s_isnB, s_isN, s_isnN, s_ixT, s_ixR, s_keyI, s_keyS, s_lenT, s_lenR, s_abs, s_int, s_tupT, s_truRB, s_min2, s_max2, s_repr, s_isi, s_itT, s_itR, s_itZT, s_lenIT, s_lenIR, s_lenIN, s_lenIZ, s_slcT, s_revT, s_alloc, List.getElem?_cons_zero, List.getElem?_cons_succ, List.set_cons_zero, List.set_cons_succ, Option.map_some, Option.bind_some, if_true, and_self, true_and, reduceIte, Bool.not_true, Bool.not_false, Bool.false_eq_true, eqT_int, Tgs.len, List.length_cons, List.length_nil, Nat.zero_add, Nat.reduceAdd, wipeL, decide_true, decide_false], rfl, rfl, rfl, rfl⟩)
  simp only [Ss_cons, evS.eq_6, evE.eq_17, evEs, h, R.bind_ok, s_all get_new, R.thenS_ok, q_rt, r_rt]
  rw [gc_pure hs rfl (List.take_left' rfl), List.all_map]
  rfl
theorem keeps_spec {vl : List Int} (hc : 1 ≤ c ∧ c ≤ 12) (ho : Okay c rows) (hv : c ≤ vl.length) (hl : rows.length ≤ 1000) (hr : st[rr]? = some (.lst (rows.map rowT))) (hs : Cls st) :
    run fns G (N + 2) 2 [.int c, .ref rr, .tup (vl.map .int)] st = .ok (.bl (decide (vl.length = c) && rows.all (keepR vl))) st := by
  rw [run_as fn_2 is_2 [some (.int c), some (.ref rr), some (.tup (vl.map .int)), none, none, none] rfl rfl]
  unfold b_keeps
  have hck := check_ok (N := N) hc ho hr hs
  have h := comp_keep (cl := run fns G (N + 1)) (vl := vl) (i := 1) (j := 2) (a := 3) (b := 4) (m := 5) (sl := [some (.int c), some (.ref rr), some (.tup (vl.map .int)), none, none, none]) ho hv hl hr rfl
    (fun x y z => ⟨[some (.int c), some (.ref rr), some (.tup (vl.map .int)), some x, some y, some z], by funext st; simp only [Ss_cons, Ss_nil, q_nx, q_rt, q_bk, q_ct, q_xc, evS.eq_1, evS.eq_2, evS.eq_3, evS.eq_5, evS.eq_6, evS.eq_7, evS.eq_8, evS.eq_9, evS.eq_10, evS.eq_11, evS.eq_14, evE.eq_1, evE.eq_2, evE.eq_3, evE.eq_4, evE.eq_5, evE.eq_6, evE.eq_7, evE.eq_8, evE.eq_9, evE.eq_10, evE.eq_11, evE.eq_12, evE.eq_13, evE.eq_14, evE.eq_15, evE.eq_16, evE.eq_17, evE.eq_18, evE.eq_19, evE.eq_20, evE.eq_21, evE.eq_22, evE.eq_23, evEs, evIt, evTg, evTgs, evC, evEo, evKV, R.bind_ok, R.bind_exc, R.thenS_ok, R.thenS_exc, R.ofOpt_some, R.noExc_ok, s_add, s_sub, s_mul, s_div, s_mod, s_addT, s_eq, s_ne, s_lt, s_le, s_gt, s_ge, s_isB, s_isnB, s_isN, s_isnN, s_ixT, s_ixR, s_keyI, s_keyS, s_lenT, s_lenR, s_abs, s_int, s_tupT, s_truRB, s_min2, s_max2, s_repr, s_isi, s_itT, s_itR, s_itZT, s_lenIT, s_lenIR, s_lenIN, s_lenIZ, s_slcT, s_revT, s_alloc, List.getElem?_cons_zero, List.getElem?_cons_succ, List.set_cons_zero, List.set_cons_succ, Option.map_some, Option.bind_some, if_true, and_self, true_and, reduceIte, Bool.not_true, Bool.not_false, Bool.false_eq_true, eqT_int, Tgs.len, List.length_cons, List.length_nil, Nat.zero_add, Nat.reduceAdd, wipeL, decide_true, decide_false], rfl, rfl, rfl, rfl⟩)
  by_cases e : vl.length = c
  · have d : decide (((vl.map T.int).length : Int) = c) = true := b_decT (by rw [List.length_map, e])
    simp only [Ss_cons, Ss_nil, q_nx, q_rt, q_bk, q_ct, q_xc, evS.eq_1, evS.eq_2, evS.eq_3, evS.eq_5, evS.eq_6, evS.eq_7, evS.eq_8, evS.eq_9, evS.eq_10, evS.eq_11, evS.eq_14, evE.eq_1, evE.eq_2, evE.eq_3, evE.eq_4, evE.eq_5, evE.eq_6, evE.eq_7, evE.eq_8, evE.eq_9, evE.eq_10, evE.eq_11, evE.eq_12, evE.eq_13, evE.eq_14, evE.eq_15, evE.eq_16, evE.eq_17, evE.eq_18, evE.eq_19, evE.eq_20, evE.eq_21, evE.eq_22, evE.eq_23, evEs, evIt, evTg, evTgs, evC, evEo, evKV, R.bind_ok, R.bind_exc, R.thenS_ok, R.thenS_exc, R.ofOpt_some, R.noExc_ok, s_add, s_sub, s_mul, s_div, s_mod, s_addT, s_eq, s_ne, s_lt, s_le, s_gt, s_ge, s_isB, s_isnB, s_isN, s_isnN, s_ixT, s_ixR, s_keyI, s_keyS, s_lenT, s_lenR, s_abs, s_int, s_tupT, s_truRB, s_min2, s_max2, s_repr, s_isi, s_itT, s_itR, s_itZT, s_lenIT, s_lenIR, s_lenIN, s_lenIZ, s_slcT, s_revT, s_alloc, List.getElem?_cons_zero, List.getElem?_cons_succ, List.set_cons_zero, List.set_cons_succ, Option.map_some, Option.bind_some, if_true, and_self, true_and, reduceIte, Bool.not_true, Bool.not_false, Bool.false_eq_true, eqT_int, Tgs.len, List.length_cons, List.length_nil, Nat.zero_add, Nat.reduceAdd, wipeL, decide_true, decide_false, hck, d]
    rw [h]
    simp only [R.bind_ok, s_all get_new, R.thenS_ok, q_rt, r_rt]
    rw [gc_pure hs rfl (List.take_left' rfl), List.all_map, decide_eq_true e]
    rfl
  · have d : decide (((vl.map T.int).length : Int) = c) = false := b_decF (by rw [List.length_map]; omega)
    simp only [Ss_cons, Ss_nil, q_nx, q_rt, q_bk, q_ct, q_xc, evS.eq_1, evS.eq_2, evS.eq_3, evS.eq_5, evS.eq_6, evS.eq_7, evS.eq_8, evS.eq_9, evS.eq_10, evS.eq_11, evS.eq_14, evE.eq_1, evE.eq_2, evE.eq_3, evE.eq_4, evE.eq_5, evE.eq_6, evE.eq_7, evE.eq_8, evE.eq_9, evE.eq_10, evE.eq_11, evE.eq_12, evE.eq_13, evE.eq_14, evE.eq_15, evE.eq_16, evE.eq_17, evE.eq_18, evE.eq_19, evE.eq_20, evE.eq_21, evE.eq_22, evE.eq_23, evEs, evIt, evTg, evTgs, evC, evEo, evKV, R.bind_ok, R.bind_exc, R.thenS_ok, R.thenS_exc, R.ofOpt_some, R.noExc_ok, s_add, s_sub, s_mul, s_div, s_mod, s_addT, s_eq, s_ne, s_lt, s_le, s_gt, s_ge, s_isB, s_isnB, s_isN, s_isnN, s_ixT, s_ixR, s_keyI, s_keyS, s_lenT, s_lenR, s_abs, s_int, s_tupT, s_truRB, s_min2, s_max2, s_repr, s_isi, s_itT, s_itR, s_itZT, s_lenIT, s_lenIR, s_lenIN, s_lenIZ, s_slcT, s_revT, s_alloc, List.getElem?_cons_zero, List.getElem?_cons_succ, List.set_cons_zero, List.set_cons_succ, Option.map_some, Option.bind_some, if_true, and_self, true_and, reduceIte, Bool.not_true, Bool.not_false, Bool.false_eq_true, eqT_int, Tgs.len, List.length_cons, List.length_nil, Nat.zero_add, Nat.reduceAdd, wipeL, decide_true, decide_false, hck, d]
    rw [r_rt, gc_pure hs rfl List.take_length, decide_eq_false e]
    rfl
end Lw

end

section
set_option Elab.async false
set_option linter.all false
set_option maxRecDepth 100000
set_option maxHeartbeats 4000000
set_option autoImplicit false
namespace Lw
open PF PySem Df
variable {N c rr : Nat} {rows : List Row} {st : Store}
theorem cut1 {xs : List T} : cutT xs (some 1) none = xs.drop 1 := by
  unfold cutT sIx
  by_cases h : (1 : Int) > xs.length
  · have : xs = [] := by
      cases xs with
      | nil => rfl
      | cons x r => simp at h; omega
    subst this; simp
  · simp only [h, if_false]
    rw [if_neg (by omega), List.take_of_length_le (by rw [List.length_drop]; simp)]; rfl
theorem cut2 {xs : List T} : cutT xs none (some 1) = xs.take 1 := by
  unfold cutT sIx
  cases xs with
  | nil => rfl
  | cons x r =>
    have : ¬ ((1 : Int) > (x :: r).length) := by rw [List.length_cons]; omega
    simp only [this, if_false]
    rw [if_neg (by omega)]; rfl
theorem rot_get {q : List Int} {k : Nat} (h : k < q.length) : (q.drop 1 ++ q.take 1)[k]? = some ((q ++ q).getD (k + 1) 0) := by
  rw [List.getD_eq_getElem?_getD]
  by_cases e : k + 1 < q.length
  · rw [List.getElem?_append_left (by simp; omega), List.getElem?_append_left e, List.getElem?_drop, Nat.add_comm 1 k, List.getElem?_eq_getElem e]; rfl
  · have : k + 1 = q.length := by omega
    rw [List.getElem?_append_right (by simp; omega), List.getElem?_append_right (by omega)]
    have e1 : k - (q.drop 1).length = 0 := by simp; omega
    have e2 : k + 1 - q.length = 0 := by omega
    rw [e1, e2]
    cases q with
    | nil => simp at h
    | cons x r => rfl
def inT (L : Nat) : T → T
  | .int i => .bl (decide (0 ≤ i) && decide (i < L))
  | _ => .non
def inI (L : Nat) (i : Int) : Bool := decide (0 ≤ i) && decide (i < L)
theorem in_map (L : Nat) (q : List Int) : (q.map T.int).map (inT L) = (q.map (inI L)).map .bl := by
  rw [List.map_map, List.map_map]; congr 1
def smT (rows : List Row) : T → T
  | .int i => .int (rowI rows i).2.2
  | _ => .non
theorem sm_map (q : List Int) : (q.map T.int).map (smT rows) = (q.map fun i => (rowI rows i).2.2).map .int := by
  rw [List.map_map, List.map_map]; congr 1
theorem inB_get {q : List Int} (h : inB rows q = true) {i : Int} (hi : i ∈ q) : 0 ≤ i ∧ i < rows.length := by
  unfold inB at h
  have := List.all_eq_true.mp h i hi
  simpa using this
theorem row_get {i : Int} (h : 0 ≤ i ∧ i < rows.length) : ixN (rows.map rowT).length i = some i.toNat ∧ (rows.map rowT)[i.toNat]? = some (rowT (rowI rows i)) := by
  have hl : i.toNat < rows.length := by omega
  refine ⟨?_, ?_⟩
  · unfold ixN; rw [if_pos h.1, if_pos (by rw [List.length_map]; exact h.2)]
  · unfold rowI
    rw [List.getElem?_map, List.getD_eq_getElem?_getD, List.getElem?_eq_getElem hl]; rfl
theorem comp_in {cl : Call} {q : List Int} {i j a : Nat} {sl : Sl} (hl : q.length ≤ 1000) (hr : st[rr]? = some (.lst (rows.map rowT))) (hi : sl[i]? = some (some (.tup (q.map .int))))
    (h2 : ∀ x : T, ∃ sl', (wipeL sl [a]).set a (some x) = sl' ∧ sl'[j]? = some (some (.ref rr)) ∧ sl'[a]? = some (some x)) :
    evE cl G (.comp (.nm a) (.val (.var i)) .none (.chn .LtE .Lt (.cst (.int 0)) (.var a) (.bcall .len (.cons (.var j) .nil))) [a]) sl st = .ok (.ref st.length) (st ++ [Cell.lst ((q.map (inI rows.length)).map .bl)]) := by
  rw [← in_map]
  refine comp_map (q.map .int) (inT rows.length) (J := .tup (q.map .int)) (by simp only [Ss_cons, Ss_nil, q_nx, q_rt, q_bk, q_ct, q_xc, evS.eq_1, evS.eq_2, evS.eq_3, evS.eq_5, evS.eq_6, evS.eq_7, evS.eq_8, evS.eq_9, evS.eq_10, evS.eq_11, evS.eq_14, evE.eq_1, evE.eq_2, evE.eq_3, evE.eq_4, evE.eq_5, evE.eq_6, evE.eq_7, evE.eq_8, evE.eq_9, evE.eq_10, evE.eq_11, evE.eq_12, evE.eq_13, evE.eq_14, evE.eq_15, evE.eq_16, evE.eq_17, evE.eq_18, evE.eq_19, evE.eq_20, evE.eq_21, evE.eq_22, evE.eq_23, evEs, evIt, evTg, evTgs, evC, evEo, evKV, R.bind_ok, R.bind_exc, R.thenS_ok, R.thenS_exc, R.ofOpt_some, R.noExc_ok, s_add, s_sub, s_mul, s_div, s_mod, s_addT, s_eq, s_ne, s_lt, s_le, s_gt, s_ge, s_isB, s_isnB, s_isN, s_isnN, s_ixT, s_ixR, s_keyI, s_keyS, s_lenT, s_lenR, s_abs, s_int, s_tupT, s_truRB, s_min2, s_max2, s_repr, s_isi, s_itT, s_itR, s_itZT, s_lenIT, s_lenIR, s_lenIN, s_lenIZ, s_slcT, s_revT, s_alloc, List.getElem?_cons_zero, List.getElem?_cons_succ, List.set_cons_zero, List.set_cons_succ, Option.map_some, Option.bind_some, if_true, and_self, true_and, reduceIte, Bool.not_true, Bool.not_false, Bool.false_eq_true, eqT_int, Tgs.len, List.length_cons, List.length_nil, Nat.zero_add, Nat.reduceAdd, wipeL, decide_true, decide_false, hi]) (lt_size2 (by rw [List.length_map]; exact hl)) (fun _ _ => rfl) (fun _ => rfl) rfl ?_
  intro x acc hx
  obtain ⟨k, hk, rfl⟩ := List.mem_map.mp hx
  obtain ⟨sl', h0, e1, e2⟩ := h2 (.int k)
  simp only [evTg, evC, R.bind_ok, if_true]
  rw [h0]
  have hlen : ((rows.map rowT).length : Int) = rows.length := by rw [List.length_map]
  by_cases d : 0 ≤ k
  · have d' : decide (0 ≤ k) = true := b_decT d
    simp only [Ss_cons, Ss_nil, q_nx, q_rt, q_bk, q_ct, q_xc, evS.eq_1, evS.eq_2, evS.eq_3, evS.eq_5, evS.eq_6, evS.eq_7, evS.eq_8, evS.eq_9, evS.eq_10, evS.eq_11, evS.eq_14, evE.eq_1, evE.eq_2, evE.eq_3, evE.eq_4, evE.eq_5, evE.eq_6, evE.eq_7, evE.eq_8, evE.eq_9, evE.eq_10, evE.eq_11, evE.eq_12, evE.eq_13, evE.eq_14, evE.eq_15, evE.eq_16, evE.eq_17, evE.eq_18, evE.eq_19, evE.eq_20, evE.eq_21, evE.eq_22, evE.eq_23, evEs, evIt, evTg, evTgs, evC, evEo, evKV, R.bind_ok, R.bind_exc, R.thenS_ok, R.thenS_exc, R.ofOpt_some, R.noExc_ok, s_add, s_sub, s_mul, s_div, s_mod, s_addT, s_eq, s_ne, s_lt, s_le, s_gt, s_ge, s_isB, s_isnB, s_isN, s_isnN, s_ixT, s_ixR, s_keyI, s_keyS, s_lenT, s_lenR, s_abs, s_int, s_tupT, s_truRB, s_min2, s_max2, s_repr, s_isi, s_itT, s_itR, s_itZT, s_lenIT, s_lenIR, s_lenIN, s_lenIZ, s_slcT, s_revT, s_alloc, List.getElem?_cons_zero, List.getElem?_cons_succ, List.set_cons_zero, List.set_cons_succ, Option.map_some, Option.bind_some, if_true, and_self, true_and, reduceIte, Bool.not_true, Bool.not_false, Bool.false_eq_true, eqT_int, Tgs.len, List.length_cons, List.length_nil, Nat.zero_add, Nat.reduceAdd, wipeL, decide_true, decide_false, e1, e2, d', s_lenL (get_app hr), hlen, inT, Bool.true_and]
  · have d' : decide (0 ≤ k) = false := b_decF d
    simp only [Ss_cons, Ss_nil, q_nx, q_rt, q_bk, q_ct, q_xc, evS.eq_1, evS.eq_2, evS.eq_3, evS.eq_5, evS.eq_6, evS.eq_7, evS.eq_8, evS.eq_9, evS.eq_10, evS.eq_11, evS.eq_14, evE.eq_1, evE.eq_2, evE.eq_3, evE.eq_4, evE.eq_5, evE.eq_6, evE.eq_7, evE.eq_8, evE.eq_9, evE.eq_10, evE.eq_11, evE.eq_12, evE.eq_13, evE.eq_14, evE.eq_15, evE.eq_16, evE.eq_17, evE.eq_18, evE.eq_19, evE.eq_20, evE.eq_21, evE.eq_22, evE.eq_23, evEs, evIt, evTg, evTgs, evC, evEo, evKV, R.bind_ok, R.bind_exc, R.thenS_ok, R.thenS_exc, R.ofOpt_some, R.noExc_ok, s_add, s_sub, s_mul, s_div, s_mod, s_addT, s_eq, s_ne, s_lt, s_le, s_gt, s_ge, s_isB, s_isnB, s_isN, s_isnN, s_ixT, s_ixR, s_keyI, s_keyS, s_lenT, s_lenR, s_abs, s_int, s_tupT, s_truRB, s_min2, s_max2, s_repr, s_isi, s_itT, s_itR, s_itZT, s_lenIT, s_lenIR, s_lenIN, s_lenIZ, s_slcT, s_revT, s_alloc, List.getElem?_cons_zero, List.getElem?_cons_succ, List.set_cons_zero, List.set_cons_succ, Option.map_some, Option.bind_some, if_true, and_self, true_and, reduceIte, Bool.not_true, Bool.not_false, Bool.false_eq_true, eqT_int, Tgs.len, List.length_cons, List.length_nil, Nat.zero_add, Nat.reduceAdd, wipeL, decide_true, decide_false, e1, e2, d', inT, Bool.false_and]
theorem comp_sm {cl : Call} {q : List Int} {i j a : Nat} {sl : Sl} (hq : inB rows q = true) (hl : q.length ≤ 1000) (hr : st[rr]? = some (.lst (rows.map rowT))) (hi : sl[i]? = some (some (.tup (q.map .int))))
    (h2 : ∀ x : T, ∃ sl', (wipeL sl [a]).set a (some x) = sl' ∧ sl'[j]? = some (some (.ref rr)) ∧ sl'[a]? = some (some x)) :
    evE cl G (.comp (.nm a) (.val (.var i)) .none (.ix (.ix (.var j) (.var a)) (.cst (.int 2))) [a]) sl st = .ok (.ref st.length) (st ++ [Cell.lst ((q.map fun i => (rowI rows i).2.2).map .int)]) := by
  rw [← sm_map]
  refine comp_map (q.map .int) (smT rows) (J := .tup (q.map .int)) (by simp only [Ss_cons, Ss_nil, q_nx, q_rt, q_bk, q_ct, q_xc, evS.eq_1, evS.eq_2, evS.eq_3, evS.eq_5, evS.eq_6, evS.eq_7, evS.eq_8, evS.eq_9, evS.eq_10, evS.eq_11, evS.eq_14, evE.eq_1, evE.eq_2, evE.eq_3, evE.eq_4, evE.eq_5, evE.eq_6, evE.eq_7, evE.eq_8, evE.eq_9, evE.eq_10, evE.eq_11, evE.eq_12, evE.eq_13, evE.eq_14, evE.eq_15, evE.eq_16, evE.eq_17, evE.eq_18, evE.eq_19, evE.eq_20, evE.eq_21, evE.eq_22, evE.eq_23, evEs, evIt, evTg, evTgs, evC, evEo, evKV, R.bind_ok, R.bind_exc, R.thenS_ok, R.thenS_exc, R.ofOpt_some, R.noExc_ok, s_add, s_sub, s_mul, s_div, s_mod, s_addT, s_eq, s_ne, s_lt, s_le, s_gt, s_ge, s_isB, s_isnB, s_isN, s_isnN, s_ixT, s_ixR, s_keyI, s_keyS, s_lenT, s_lenR, s_abs, s_int, s_tupT, s_truRB, s_min2, s_max2, s_repr, s_isi, s_itT, s_itR, s_itZT, s_lenIT, s_lenIR, s_lenIN, s_lenIZ, s_slcT, s_revT, s_alloc, List.getElem?_cons_zero, List.getElem?_cons_succ, List.set_cons_zero, List.set_cons_succ, Option.map_some, Option.bind_some, if_true, and_self, true_and, reduceIte, Bool.not_true, Bool.not_false, Bool.false_eq_true, eqT_int, Tgs.len, List.length_cons, List.length_nil, Nat.zero_add, Nat.reduceAdd, wipeL, decide_true, decide_false, hi]) (lt_size2 (by rw [List.length_map]; exact hl)) (fun _ _ => rfl) (fun _ => rfl) rfl ?_
  intro x acc hx
  obtain ⟨k, hk, rfl⟩ := List.mem_map.mp hx
  obtain ⟨sl', h0, e1, e2⟩ := h2 (.int k)
  obtain ⟨r1, r2⟩ := row_get (inB_get hq hk)
  simp only [evTg, evC, R.bind_ok, if_true]
  rw [h0]
  rw [rowT] at r2
  simp only [Ss_cons, Ss_nil, q_nx, q_rt, q_bk, q_ct, q_xc, evS.eq_1, evS.eq_2, evS.eq_3, evS.eq_5, evS.eq_6, evS.eq_7, evS.eq_8, evS.eq_9, evS.eq_10, evS.eq_11, evS.eq_14, evE.eq_1, evE.eq_2, evE.eq_3, evE.eq_4, evE.eq_5, evE.eq_6, evE.eq_7, evE.eq_8, evE.eq_9, evE.eq_10, evE.eq_11, evE.eq_12, evE.eq_13, evE.eq_14, evE.eq_15, evE.eq_16, evE.eq_17, evE.eq_18, evE.eq_19, evE.eq_20, evE.eq_21, evE.eq_22, evE.eq_23, evEs, evIt, evTg, evTgs, evC, evEo, evKV, R.bind_ok, R.bind_exc, R.thenS_ok, R.thenS_exc, R.ofOpt_some, R.noExc_ok, s_add, s_sub, s_mul, s_div, s_mod, s_addT, s_eq, s_ne, s_lt, s_le, s_gt, s_ge, s_isB, s_isnB, s_isN, s_isnN, s_ixT, s_ixR, s_keyI, s_keyS, s_lenT, s_lenR, s_abs, s_int, s_tupT, s_truRB, s_min2, s_max2, s_repr, s_isi, s_itT, s_itR, s_itZT, s_lenIT, s_lenIR, s_lenIN, s_lenIZ, s_slcT, s_revT, s_alloc, List.getElem?_cons_zero, List.getElem?_cons_succ, List.set_cons_zero, List.set_cons_succ, Option.map_some, Option.bind_some, if_true, and_self, true_and, reduceIte, Bool.not_true, Bool.not_false, Bool.false_eq_true, eqT_int, Tgs.len, List.length_cons, List.length_nil, Nat.zero_add, Nat.reduceAdd, wipeL, decide_true, decide_false, e1, e2, s_ixL (get_app hr), r1, r2, ix3_2, smT]
theorem all_in (q : List Int) : (q.map (inI rows.length)).all id = inB rows q := by
  rw [List.all_map]; rfl
def folK (rows : List Row) (q : List Int) (k : Nat) : Bool := decide ((rowI rows (q.getD k 0)).2.1 = (rowI rows ((q ++ q).getD (k + 1) 0)).1)
theorem mem_getD {q : List Int} {k : Nat} (h : k < q.length) : q.getD k 0 ∈ q ∧ (q ++ q).getD (k + 1) 0 ∈ q := by
  refine ⟨?_, ?_⟩
  · rw [List.getD_eq_getElem?_getD, List.getElem?_eq_getElem h]; exact List.getElem_mem h
  · have := rot_get h
    have := List.mem_of_getElem? this
    rcases List.mem_append.mp this with h1 | h1
    · exact List.mem_of_mem_drop h1
    · exact List.mem_of_mem_take h1
def b_isa : Ss := (.cons (.ifS (.cmp .NotEq (.ix (.ix (.var 1) (.var 3)) (.cst (.int 1))) (.ix (.ix (.var 1) (.var 4)) (.cst (.int 0)))) (.cons (.ret (.cst (.bl false)))
  .nil) .nil)
  .nil)
theorem isa_for {cl : Call} {q : List Int} {x3 x4 : Option T} (hq : inB rows q = true) (hl : q.length ≤ 1000) (hr : st[rr]? = some (.lst (rows.map rowT))) :
    ∃ y3 y4, evS cl G (.for (.tup (.cons (.nm 3) (.cons (.nm 4) .nil))) (.zip (.var 2) (.bin .Add (.slc (.var 2) (.some (.cst (.int 1))) .none) (.slc (.var 2) .none (.some (.cst (.int 1)))))) b_isa)
      [some (.int c), some (.ref rr), some (.tup (q.map .int)), x3, x4] st = if folB rows q then .nx [some (.int c), some (.ref rr), some (.tup (q.map .int)), y3, y4] st else .rt (.bl false) st := by
  have hz : ((q.map T.int).drop 1).length + ((q.map T.int).take 1).length ≤ sizeLine := lt_size2 (by simp; omega)
  have hzl : min (q.map T.int).length ((q.map T.int).drop 1 ++ (q.map T.int).take 1).length = q.length := by simp; omega
  have fin : ∀ r : Bool, (∃ y3 y4, r = true ∧ folB rows q = true → True) := fun _ => ⟨x3, x4, fun _ => trivial⟩
  refine for_ind (P := fun r => ∃ y3 y4, r = if folB rows q then .nx [some (.int c), some (.ref rr), some (.tup (q.map .int)), y3, y4] st else .rt (.bl false) st) q.length
    (fun k sl s => s = st ∧ (∀ k', k' < k → folK rows q k' = true) ∧ ∃ x3 x4, sl = [some (.int c), some (.ref rr), some (.tup (q.map .int)), x3, x4])
    (J := .zipT (q.map .int) ((q.map T.int).drop 1 ++ (q.map T.int).take 1)) (st' := st) ?_ (by rw [s_lenIZ, hzl]) ⟨rfl, fun k' h => by omega, _, _, rfl⟩ ?_ ?_
  · simp only [Ss_cons, Ss_nil, q_nx, q_rt, q_bk, q_ct, q_xc, evS.eq_1, evS.eq_2, evS.eq_3, evS.eq_5, evS.eq_6, evS.eq_7, evS.eq_8, evS.eq_9, evS.eq_10, evS.eq_11, evS.eq_14, evE.eq_1, evE.eq_2, evE.eq_3, evE.eq_4, evE.eq_5, evE.eq_6, evE.eq_7, evE.eq_8, evE.eq_9, evE.eq_10, evE.eq_11, evE.eq_12, evE.eq_13, evE.eq_14, evE.eq_15, evE.eq_16, evE.eq_17, evE.eq_18, evE.eq_19, evE.eq_20, evE.eq_21, evE.eq_22, evE.eq_23, evEs, evIt, evTg, evTgs, evC, evEo, evKV, R.bind_ok, R.bind_exc, R.thenS_ok, R.thenS_exc, R.ofOpt_some, R.noExc_ok, s_add, s_sub, s_mul, s_div, s_mod, s_addT, s_eq, s_ne, s_lt, s_le, s_gt, s_ge, s_isB, s_isnB, s_isN, s_isnN, s_ixT, s_ixR, s_keyI, s_keyS, s_lenT, s_lenR, s_abs, s_int, s_tupT, s_truRB, s_min2, s_max2, s_repr, s_isi, s_itT, s_itR, s_itZT, s_lenIT, s_lenIR, s_lenIN, s_lenIZ, s_slcT, s_revT, s_alloc, List.getElem?_cons_zero, List.getElem?_cons_succ, List.set_cons_zero, List.set_cons_succ, Option.map_some, Option.bind_some, if_true, and_self, true_and, reduceIte, Bool.not_true, Bool.not_false, Bool.false_eq_true, eqT_int, Tgs.len, List.length_cons, List.length_nil, Nat.zero_add, Nat.reduceAdd, wipeL, decide_true, decide_false, cut1, cut2, hz]
  · rintro k sl s hk ⟨rfl, hf, x3, x4, rfl⟩
    obtain ⟨m1, m2⟩ := mem_getD hk
    obtain ⟨r1, r2⟩ := row_get (inB_get hq m1)
    obtain ⟨r3, r4⟩ := row_get (inB_get hq m2)
    refine ⟨.tup [.int (q.getD k 0), .int ((q ++ q).getD (k + 1) 0)], [some (.int c), some (.ref rr), some (.tup (q.map .int)), some (.int (q.getD k 0)), some (.int ((q ++ q).getD (k + 1) 0))], s, ?_, by simp only [Ss_cons, Ss_nil, q_nx, q_rt, q_bk, q_ct, q_xc, evS.eq_1, evS.eq_2, evS.eq_3, evS.eq_5, evS.eq_6, evS.eq_7, evS.eq_8, evS.eq_9, evS.eq_10, evS.eq_11, evS.eq_14, evE.eq_1, evE.eq_2, evE.eq_3, evE.eq_4, evE.eq_5, evE.eq_6, evE.eq_7, evE.eq_8, evE.eq_9, evE.eq_10, evE.eq_11, evE.eq_12, evE.eq_13, evE.eq_14, evE.eq_15, evE.eq_16, evE.eq_17, evE.eq_18, evE.eq_19, evE.eq_20, evE.eq_21, evE.eq_22, evE.eq_23, evEs, evIt, evTg, evTgs, evC, evEo, evKV, R.bind_ok, R.bind_exc, R.thenS_ok, R.thenS_exc, R.ofOpt_some, R.noExc_ok, s_add, s_sub, s_mul, s_div, s_mod, s_addT, s_eq, s_ne, s_lt, s_le, s_gt, s_ge, s_isB, s_isnB, s_isN, s_isnN, s_ixT, s_ixR, s_keyI, s_keyS, s_lenT, s_lenR, s_abs, s_int, s_tupT, s_truRB, s_min2, s_max2, s_repr, s_isi, s_itT, s_itR, s_itZT, s_lenIT, s_lenIR, s_lenIN, s_lenIZ, s_slcT, s_revT, s_alloc, List.getElem?_cons_zero, List.getElem?_cons_succ, List.set_cons_zero, List.set_cons_succ, Option.map_some, Option.bind_some, if_true, and_self, true_and, reduceIte, Bool.not_true, Bool.not_false, Bool.false_eq_true, eqT_int, Tgs.len, List.length_cons, List.length_nil, Nat.zero_add, Nat.reduceAdd, wipeL, decide_true, decide_false], ?_⟩
    · rw [s_getIZ, getD_map hk, ← List.map_drop, ← List.map_take, ← List.map_append, List.getElem?_map, rot_get hk]; rfl
    · unfold b_isa
      rw [rowT] at r2 r4
      have hd : folK rows q k = decide ((((rowI rows (q.getD k 0)).2.1 : Nat) : Int) = ((rowI rows ((q ++ q).getD (k + 1) 0)).1 : Nat)) := by
        unfold folK
        rw [decide_eq_decide]; omega
      by_cases e : folK rows q k = true
      · rw [e] at hd
        simp only [Ss_cons, Ss_nil, q_nx, q_rt, q_bk, q_ct, q_xc, evS.eq_1, evS.eq_2, evS.eq_3, evS.eq_5, evS.eq_6, evS.eq_7, evS.eq_8, evS.eq_9, evS.eq_10, evS.eq_11, evS.eq_14, evE.eq_1, evE.eq_2, evE.eq_3, evE.eq_4, evE.eq_5, evE.eq_6, evE.eq_7, evE.eq_8, evE.eq_9, evE.eq_10, evE.eq_11, evE.eq_12, evE.eq_13, evE.eq_14, evE.eq_15, evE.eq_16, evE.eq_17, evE.eq_18, evE.eq_19, evE.eq_20, evE.eq_21, evE.eq_22, evE.eq_23, evEs, evIt, evTg, evTgs, evC, evEo, evKV, R.bind_ok, R.bind_exc, R.thenS_ok, R.thenS_exc, R.ofOpt_some, R.noExc_ok, s_add, s_sub, s_mul, s_div, s_mod, s_addT, s_eq, s_ne, s_lt, s_le, s_gt, s_ge, s_isB, s_isnB, s_isN, s_isnN, s_ixT, s_ixR, s_keyI, s_keyS, s_lenT, s_lenR, s_abs, s_int, s_tupT, s_truRB, s_min2, s_max2, s_repr, s_isi, s_itT, s_itR, s_itZT, s_lenIT, s_lenIR, s_lenIN, s_lenIZ, s_slcT, s_revT, s_alloc, List.getElem?_cons_zero, List.getElem?_cons_succ, List.set_cons_zero, List.set_cons_succ, Option.map_some, Option.bind_some, if_true, and_self, true_and, reduceIte, Bool.not_true, Bool.not_false, Bool.false_eq_true, eqT_int, Tgs.len, List.length_cons, List.length_nil, Nat.zero_add, Nat.reduceAdd, wipeL, decide_true, decide_false, s_ixL hr, r1, r2, r3, r4, ix3_0, ix3_1, ← hd]
        refine ⟨?_, _, _, rfl⟩
        intro k' hk'
        by_cases e' : k' = k
        · subst e'; exact e
        · exact hf k' (by omega)
      · have e2 : folK rows q k = false := by simpa using e
        rw [e2] at hd
        simp only [Ss_cons, Ss_nil, q_nx, q_rt, q_bk, q_ct, q_xc, evS.eq_1, evS.eq_2, evS.eq_3, evS.eq_5, evS.eq_6, evS.eq_7, evS.eq_8, evS.eq_9, evS.eq_10, evS.eq_11, evS.eq_14, evE.eq_1, evE.eq_2, evE.eq_3, evE.eq_4, evE.eq_5, evE.eq_6, evE.eq_7, evE.eq_8, evE.eq_9, evE.eq_10, evE.eq_11, evE.eq_12, evE.eq_13, evE.eq_14, evE.eq_15, evE.eq_16, evE.eq_17, evE.eq_18, evE.eq_19, evE.eq_20, evE.eq_21, evE.eq_22, evE.eq_23, evEs, evIt, evTg, evTgs, evC, evEo, evKV, R.bind_ok, R.bind_exc, R.thenS_ok, R.thenS_exc, R.ofOpt_some, R.noExc_ok, s_add, s_sub, s_mul, s_div, s_mod, s_addT, s_eq, s_ne, s_lt, s_le, s_gt, s_ge, s_isB, s_isnB, s_isN, s_isnN, s_ixT, s_ixR, s_keyI, s_keyS, s_lenT, s_lenR, s_abs, s_int, s_tupT, s_truRB, s_min2, s_max2, s_repr, s_isi, s_itT, s_itR, s_itZT, s_lenIT, s_lenIR, s_lenIN, s_lenIZ, s_slcT, s_revT, s_alloc, List.getElem?_cons_zero, List.getElem?_cons_succ, List.set_cons_zero, List.set_cons_succ, Option.map_some, Option.bind_some, if_true, and_self, true_and, reduceIte, Bool.not_true, Bool.not_false, Bool.false_eq_true, eqT_int, Tgs.len, List.length_cons, List.length_nil, Nat.zero_add, Nat.reduceAdd, wipeL, decide_true, decide_false, s_ixL hr, r1, r2, r3, r4, ix3_0, ix3_1, ← hd]
        refine ⟨none, none, ?_⟩
        rw [if_neg]
        intro hh
        unfold folB at hh
        exact e (List.all_eq_true.mp hh k (List.mem_range.mpr hk))
  · rintro sl s ⟨rfl, hf, x3, x4, rfl⟩
    refine ⟨by rw [s_lenIZ, hzl], x3, x4, ?_⟩
    rw [if_pos]
    unfold folB
    exact List.all_eq_true.mpr fun k hk => hf k (List.mem_range.mp hk)
theorem isa_spec {q : List Int} (hc : 1 ≤ c ∧ c ≤ 12) (ho : Okay c rows) (hl : q.length ≤ 1000) (hr : st[rr]? = some (.lst (rows.map rowT))) (hs : Cls st) :
    run fns G (N + 2) 3 [.int c, .ref rr, .tup (q.map .int)] st = .ok (.bl (against rows q)) st := by
  rw [run_as fn_3 is_3 [some (.int c), some (.ref rr), some (.tup (q.map .int)), none, none] rfl rfl]
  have hck := check_ok (N := N) hc ho hr hs
  have hb : b_is_against = (.cons (.expr (.call 0 (.cons (.var 0) (.cons (.var 1) .nil))))
    (.cons (.ifS (.or (.cmp .Eq (.bcall .len (.cons (.var 2) .nil)) (.cst (.int 0))) (.not (.bcall .all (.cons (.comp (.nm 3) (.val (.var 2)) .none (.chn .LtE .Lt (.cst (.int 0)) (.var 3) (.bcall .len (.cons (.var 1) .nil))) [3]) .nil)))) (.cons (.ret (.cst (.bl false)))
    .nil) .nil)
    (.cons (.for (.tup (.cons (.nm 3) (.cons (.nm 4) .nil))) (.zip (.var 2) (.bin .Add (.slc (.var 2) (.some (.cst (.int 1))) .none) (.slc (.var 2) .none (.some (.cst (.int 1)))))) b_isa)
    (.cons (.ret (.cmp .Lt (.bcall .sum (.cons (.comp (.nm 3) (.val (.var 2)) .none (.ix (.ix (.var 1) (.var 3)) (.cst (.int 2))) [3]) .nil)) (.cst (.int 0)))) .nil)))) := rfl
  rw [hb]
  have hin := comp_in (cl := run fns G (N + 1)) (q := q) (i := 2) (j := 1) (a := 3) (sl := [some (.int c), some (.ref rr), some (.tup (q.map .int)), none, none]) hl hr rfl (fun x => ⟨_, rfl, rfl, rfl⟩)
  unfold against
  by_cases e0 : q = []
  · subst e0
    have d : decide (((0 : Nat) : Int) = 0) = true := b_decT rfl
    simp only [List.map_nil]
    simp only [Ss_cons, Ss_nil, q_nx, q_rt, q_bk, q_ct, q_xc, evS.eq_1, evS.eq_2, evS.eq_3, evS.eq_5, evS.eq_6, evS.eq_7, evS.eq_8, evS.eq_9, evS.eq_10, evS.eq_11, evS.eq_14, evE.eq_1, evE.eq_2, evE.eq_3, evE.eq_4, evE.eq_5, evE.eq_6, evE.eq_7, evE.eq_8, evE.eq_9, evE.eq_10, evE.eq_11, evE.eq_12, evE.eq_13, evE.eq_14, evE.eq_15, evE.eq_16, evE.eq_17, evE.eq_18, evE.eq_19, evE.eq_20, evE.eq_21, evE.eq_22, evE.eq_23, evEs, evIt, evTg, evTgs, evC, evEo, evKV, R.bind_ok, R.bind_exc, R.thenS_ok, R.thenS_exc, R.ofOpt_some, R.noExc_ok, s_add, s_sub, s_mul, s_div, s_mod, s_addT, s_eq, s_ne, s_lt, s_le, s_gt, s_ge, s_isB, s_isnB, s_isN, s_isnN, s_ixT, s_ixR, s_keyI, s_keyS, s_lenT, s_lenR, s_abs, s_int, s_tupT, s_truRB, s_min2, s_max2, s_repr, s_isi, s_itT, s_itR, s_itZT, s_lenIT, s_lenIR, s_lenIN, s_lenIZ, s_slcT, s_revT, s_alloc, List.getElem?_cons_zero, List.getElem?_cons_succ, List.set_cons_zero, List.set_cons_succ, Option.map_some, Option.bind_some, if_true, and_self, true_and, reduceIte, Bool.not_true, Bool.not_false, Bool.false_eq_true, eqT_int, Tgs.len, List.length_cons, List.length_nil, Nat.zero_add, Nat.reduceAdd, wipeL, decide_true, decide_false, List.map_nil] at hck ⊢
    simp only [Ss_cons, Ss_nil, q_nx, q_rt, q_bk, q_ct, q_xc, evS.eq_1, evS.eq_2, evS.eq_3, evS.eq_5, evS.eq_6, evS.eq_7, evS.eq_8, evS.eq_9, evS.eq_10, evS.eq_11, evS.eq_14, evE.eq_1, evE.eq_2, evE.eq_3, evE.eq_4, evE.eq_5, evE.eq_6, evE.eq_7, evE.eq_8, evE.eq_9, evE.eq_10, evE.eq_11, evE.eq_12, evE.eq_13, evE.eq_14, evE.eq_15, evE.eq_16, evE.eq_17, evE.eq_18, evE.eq_19, evE.eq_20, evE.eq_21, evE.eq_22, evE.eq_23, evEs, evIt, evTg, evTgs, evC, evEo, evKV, R.bind_ok, R.bind_exc, R.thenS_ok, R.thenS_exc, R.ofOpt_some, R.noExc_ok, s_add, s_sub, s_mul, s_div, s_mod, s_addT, s_eq, s_ne, s_lt, s_le, s_gt, s_ge, s_isB, s_isnB, s_isN, s_isnN, s_ixT, s_ixR, s_keyI, s_keyS, s_lenT, s_lenR, s_abs, s_int, s_tupT, s_truRB, s_min2, s_max2, s_repr, s_isi, s_itT, s_itR, s_itZT, s_lenIT, s_lenIR, s_lenIN, s_lenIZ, s_slcT, s_revT, s_alloc, List.getElem?_cons_zero, List.getElem?_cons_succ, List.set_cons_zero, List.set_cons_succ, Option.map_some, Option.bind_some, if_true, and_self, true_and, reduceIte, Bool.not_true, Bool.not_false, Bool.false_eq_true, eqT_int, Tgs.len, List.length_cons, List.length_nil, Nat.zero_add, Nat.reduceAdd, wipeL, decide_true, decide_false, hck, d]
    rw [r_rt, gc_pure hs rfl List.take_length]
    rfl
  · have e0' : q.isEmpty = false := by simpa using e0
    have d : decide (((q.map T.int).length : Int) = 0) = false := b_decF (by rw [List.length_map]; have := List.length_pos_iff.mpr e0; omega)
    simp only [Ss_cons, Ss_nil, q_nx, q_rt, q_bk, q_ct, q_xc, evS.eq_1, evS.eq_2, evS.eq_3, evS.eq_5, evS.eq_6, evS.eq_7, evS.eq_8, evS.eq_9, evS.eq_10, evS.eq_11, evS.eq_14, evE.eq_1, evE.eq_2, evE.eq_3, evE.eq_4, evE.eq_5, evE.eq_6, evE.eq_7, evE.eq_8, evE.eq_9, evE.eq_10, evE.eq_11, evE.eq_12, evE.eq_13, evE.eq_14, evE.eq_15, evE.eq_16, evE.eq_17, evE.eq_18, evE.eq_19, evE.eq_20, evE.eq_21, evE.eq_22, evE.eq_23, evEs, evIt, evTg, evTgs, evC, evEo, evKV, R.bind_ok, R.bind_exc, R.thenS_ok, R.thenS_exc, R.ofOpt_some, R.noExc_ok, s_add, s_sub, s_mul, s_div, s_mod, s_addT, s_eq, s_ne, s_lt, s_le, s_gt, s_ge, s_isB, s_isnB, s_isN, s_isnN, s_ixT, s_ixR, s_keyI, s_keyS, s_lenT, s_lenR, s_abs, s_int, s_tupT, s_truRB, s_min2, s_max2, s_repr, s_isi, s_itT, s_itR, s_itZT, s_lenIT, s_lenIR, s_lenIN, s_lenIZ, s_slcT, s_revT, s_alloc, List.getElem?_cons_zero, List.getElem?_cons_succ, List.set_cons_zero, List.set_cons_succ, Option.map_some, Option.bind_some, if_true, and_self, true_and, reduceIte, Bool.not_true, Bool.not_false, Bool.false_eq_true, eqT_int, Tgs.len, List.length_cons, List.length_nil, Nat.zero_add, Nat.reduceAdd, wipeL, decide_true, decide_false, hck, d]
    rw [hin]
    simp only [R.bind_ok, s_all get_new, all_in]
    by_cases e1 : inB rows q = true
    · simp only [Ss_cons, Ss_nil, q_nx, q_rt, q_bk, q_ct, q_xc, evS.eq_1, evS.eq_2, evS.eq_3, evS.eq_5, evS.eq_6, evS.eq_7, evS.eq_8, evS.eq_9, evS.eq_10, evS.eq_11, evS.eq_14, evE.eq_1, evE.eq_2, evE.eq_3, evE.eq_4, evE.eq_5, evE.eq_6, evE.eq_7, evE.eq_8, evE.eq_9, evE.eq_10, evE.eq_11, evE.eq_12, evE.eq_13, evE.eq_14, evE.eq_15, evE.eq_16, evE.eq_17, evE.eq_18, evE.eq_19, evE.eq_20, evE.eq_21, evE.eq_22, evE.eq_23, evEs, evIt, evTg, evTgs, evC, evEo, evKV, R.bind_ok, R.bind_exc, R.thenS_ok, R.thenS_exc, R.ofOpt_some, R.noExc_ok, s_add, s_sub, s_mul, s_div, s_mod, s_addT, s_eq, s_ne, s_lt, s_le, s_gt, s_ge, s_isB, s_isnB, s_isN, s_isnN, s_ixT, s_ixR, s_keyI, s_keyS, s_lenT, s_lenR, s_abs, s_int, s_tupT, s_truRB, s_min2, s_max2, s_repr, s_isi, s_itT, s_itR, s_itZT, s_lenIT, s_lenIR, s_lenIN, s_lenIZ, s_slcT, s_revT, s_alloc, List.getElem?_cons_zero, List.getElem?_cons_succ, List.set_cons_zero, List.set_cons_succ, Option.map_some, Option.bind_some, if_true, and_self, true_and, reduceIte, Bool.not_true, Bool.not_false, Bool.false_eq_true, eqT_int, Tgs.len, List.length_cons, List.length_nil, Nat.zero_add, Nat.reduceAdd, wipeL, decide_true, decide_false, e1]
      obtain ⟨y3, y4, hf⟩ := isa_for (cl := run fns G (N + 1)) (c := c) (x3 := none) (x4 := none) e1 hl (get_app hr (d := Cell.lst ((q.map (inI rows.length)).map .bl)))
      rw [hf]
      by_cases e2 : folB rows q = true
      · rw [if_pos e2, q_nx, e2]
        have hsm := comp_sm (cl := run fns G (N + 1)) (q := q) (i := 2) (j := 1) (a := 3) (sl := [some (.int c), some (.ref rr), some (.tup (q.map .int)), y3, y4]) e1 hl (get_app hr (d := Cell.lst ((q.map (inI rows.length)).map .bl))) rfl (fun x => ⟨_, rfl, rfl, rfl⟩)
        simp only [Ss_cons, Ss_nil, q_nx, q_rt, q_bk, q_ct, q_xc, evS.eq_1, evS.eq_2, evS.eq_3, evS.eq_5, evS.eq_6, evS.eq_7, evS.eq_8, evS.eq_9, evS.eq_10, evS.eq_11, evS.eq_14, evE.eq_1, evE.eq_2, evE.eq_3, evE.eq_4, evE.eq_5, evE.eq_6, evE.eq_7, evE.eq_8, evE.eq_9, evE.eq_10, evE.eq_11, evE.eq_12, evE.eq_13, evE.eq_14, evE.eq_15, evE.eq_16, evE.eq_17, evE.eq_18, evE.eq_19, evE.eq_20, evE.eq_21, evE.eq_22, evE.eq_23, evEs, evIt, evTg, evTgs, evC, evEo, evKV, R.bind_ok, R.bind_exc, R.thenS_ok, R.thenS_exc, R.ofOpt_some, R.noExc_ok, s_add, s_sub, s_mul, s_div, s_mod, s_addT, s_eq, s_ne, s_lt, s_le, s_gt, s_ge, s_isB, s_isnB, s_isN, s_isnN, s_ixT, s_ixR, s_keyI, s_keyS, s_lenT, s_lenR, s_abs, s_int, s_tupT, s_truRB, s_min2, s_max2, s_repr, s_isi, s_itT, s_itR, s_itZT, s_lenIT, s_lenIR, s_lenIN, s_lenIZ, s_slcT, s_revT, s_alloc, List.getElem?_cons_zero, List.getElem?_cons_succ, List.set_cons_zero, List.set_cons_succ, Option.map_some, Option.bind_some, if_true, and_self, true_and, reduceIte, Bool.not_true, Bool.not_false, Bool.false_eq_true, eqT_int, Tgs.len, List.length_cons, List.length_nil, Nat.zero_add, Nat.reduceAdd, wipeL, decide_true, decide_false]
        rw [hsm]
        simp only [Ss_cons, Ss_nil, q_nx, q_rt, q_bk, q_ct, q_xc, evS.eq_1, evS.eq_2, evS.eq_3, evS.eq_5, evS.eq_6, evS.eq_7, evS.eq_8, evS.eq_9, evS.eq_10, evS.eq_11, evS.eq_14, evE.eq_1, evE.eq_2, evE.eq_3, evE.eq_4, evE.eq_5, evE.eq_6, evE.eq_7, evE.eq_8, evE.eq_9, evE.eq_10, evE.eq_11, evE.eq_12, evE.eq_13, evE.eq_14, evE.eq_15, evE.eq_16, evE.eq_17, evE.eq_18, evE.eq_19, evE.eq_20, evE.eq_21, evE.eq_22, evE.eq_23, evEs, evIt, evTg, evTgs, evC, evEo, evKV, R.bind_ok, R.bind_exc, R.thenS_ok, R.thenS_exc, R.ofOpt_some, R.noExc_ok, s_add, s_sub, s_mul, s_div, s_mod, s_addT, s_eq, s_ne, s_lt, s_le, s_gt, s_ge, s_isB, s_isnB, s_isN, s_isnN, s_ixT, s_ixR, s_keyI, s_keyS, s_lenT, s_lenR, s_abs, s_int, s_tupT, s_truRB, s_min2, s_max2, s_repr, s_isi, s_itT, s_itR, s_itZT, s_lenIT, s_lenIR, s_lenIN, s_lenIZ, s_slcT, s_revT, s_alloc, List.getElem?_cons_zero, List.getElem?_cons_succ, List.set_cons_zero, List.set_cons_succ, Option.map_some, Option.bind_some, if_true, and_self, true_and, reduceIte, Bool.not_true, Bool.not_false, Bool.false_eq_true, eqT_int, Tgs.len, List.length_cons, List.length_nil, Nat.zero_add, Nat.reduceAdd, wipeL, decide_true, decide_false, s_sum get_new]
        rw [r_rt, gc_pure hs rfl (by rw [List.append_assoc]; exact List.take_left' rfl), e0']
        rfl
      · rw [if_neg e2, q_rt, r_rt, gc_pure hs rfl (List.take_left' rfl)]
        simp only [Bool.not_eq_true] at e2
        rw [e2, Bool.and_false, Bool.false_and]
    · simp only [Bool.not_eq_true] at e1
      simp only [Ss_cons, Ss_nil, q_nx, q_rt, q_bk, q_ct, q_xc, evS.eq_1, evS.eq_2, evS.eq_3, evS.eq_5, evS.eq_6, evS.eq_7, evS.eq_8, evS.eq_9, evS.eq_10, evS.eq_11, evS.eq_14, evE.eq_1, evE.eq_2, evE.eq_3, evE.eq_4, evE.eq_5, evE.eq_6, evE.eq_7, evE.eq_8, evE.eq_9, evE.eq_10, evE.eq_11, evE.eq_12, evE.eq_13, evE.eq_14, evE.eq_15, evE.eq_16, evE.eq_17, evE.eq_18, evE.eq_19, evE.eq_20, evE.eq_21, evE.eq_22, evE.eq_23, evEs, evIt, evTg, evTgs, evC, evEo, evKV, R.bind_ok, R.bind_exc, R.thenS_ok, R.thenS_exc, R.ofOpt_some, R.noExc_ok, s_add, s_sub, s_mul, s_div, s_mod, s_addT, s_eq, s_ne, s_lt, s_le, s_gt, s_ge, s_isB, s_isnB, s_isN, s_isnN, s_ixT, s_ixR, s_keyI, s_keyS, s_lenT, s_lenR, s_abs, s_int, s_tupT, s_truRB, s_min2, s_max2, s_repr, s_isi, s_itT, s_itR, s_itZT, s_lenIT, s_lenIR, s_lenIN, s_lenIZ, s_slcT, s_revT, s_alloc, List.getElem?_cons_zero, List.getElem?_cons_succ, List.set_cons_zero, List.set_cons_succ, Option.map_some, Option.bind_some, if_true, and_self, true_and, reduceIte, Bool.not_true, Bool.not_false, Bool.false_eq_true, eqT_int, Tgs.len, List.length_cons, List.length_nil, Nat.zero_add, Nat.reduceAdd, wipeL, decide_true, decide_false, e1]
      rw [r_rt, gc_pure hs rfl (List.take_left' rfl), Bool.and_false, Bool.false_and, Bool.false_and]
end Lw

end

section
set_option Elab.async false
set_option linter.all false
set_option maxRecDepth 100000
set_option maxHeartbeats 4000000
set_option autoImplicit false
namespace Lw
open PF PySem Df
variable {N c rr : Nat} {rows : List Row} {st : Store}
theorem z_le : (0 ≤ sizeLine) = True := eq_true (Nat.zero_le _)
theorem toDs_ints : ∀ q : List Int, toDs (q.map .int) = some (q.map .int)
  | [] => rfl
  | x :: q => by simp only [List.map_cons, toDs, toD, toDs_ints q]
theorem eqT_nil {q : List Int} : eqT st (.tup (q.map .int)) (.tup []) = some q.isEmpty := by
  unfold eqT
  have h1 : resD st (.tup (q.map .int)) = some (.tuple (q.map .int)) := by simp only [resD, toD, toDs_ints, Option.map_some]
  have h2 : resD st (.tup []) = some (.tuple []) := by simp only [resD, toD, toDs, Option.map_some]
  rw [h1, h2]
  have h3 : min (PyData.tuple (q.map PyData.int)).depth (PyData.tuple []).depth ≤ 190 := by
    have : (PyData.tuple []).depth ≤ 190 := by decide
    omega
  simp only [h3, if_true]
  cases q <;> simp [PyData.eqv, PyData.eqvAll]
def folT (rows : List Row) (q : List Int) : T → T
  | .int k => .bl (folK rows q k.toNat)
  | _ => .non
theorem comp_fol {cl : Call} {q : List Int} {sl : Sl} (hq : inB rows q = true) (hl : q.length ≤ 400) (hr : st[rr]? = some (.lst (rows.map rowT))) (hsl : sl = [some (.ref rr), some (.tup (q.map .int)), none, none]) :
    evE cl G (.comp (.nm 3) (.range (.cons (.bcall .len (.cons (.var 1) .nil)) .nil)) .none (.cmp .Eq (.ix (.ix (.var 0) (.ix (.var 1) (.var 3))) (.cst (.int 1))) (.ix (.ix (.var 0) (.ix (.bin .Add (.var 1) (.var 1)) (.bin .Add (.var 3) (.cst (.int 1))))) (.cst (.int 0)))) [3]) sl st =
      .ok (.ref st.length) (st ++ [Cell.lst (((List.range q.length).map (folK rows q)).map .bl)]) := by
  subst hsl
  have hm : ((List.range q.length).map (fun k : Nat => T.int k)).map (folT rows q) = ((List.range q.length).map (folK rows q)).map .bl := by
    rw [List.map_map, List.map_map]; congr 1
  rw [← hm]
  have hlen : ((List.range q.length).map (fun k : Nat => T.int k)).length = q.length := by simp
  refine comp_map ((List.range q.length).map (fun k : Nat => T.int k)) (folT rows q) (J := .rng 0 q.length) (it_rng1 (i := ((q.map T.int).length : Int)) (by simp only [Ss_cons, Ss_nil, q_nx, q_rt, q_bk, q_ct, q_xc, evS.eq_1, evS.eq_2, evS.eq_3, evS.eq_5, evS.eq_6, evS.eq_7, evS.eq_8, evS.eq_9, evS.eq_10, evS.eq_11, evS.eq_14, evE.eq_1, evE.eq_2, evE.eq_3, evE.eq_4, evE.eq_5, evE.eq_6, evE.eq_7, evE.eq_8, evE.eq_9, evE.eq_10, evE.eq_11, evE.eq_12, evE.eq_13, evE.eq_14, evE.eq_15, evE.eq_16, evE.eq_17, evE.eq_18, evE.eq_19, evE.eq_20, evE.eq_21, evE.eq_22, evE.eq_23, evEs, evIt, evTg, evTgs, evC, evEo, evKV, R.bind_ok, R.bind_exc, R.thenS_ok, R.thenS_exc, R.ofOpt_some, R.noExc_ok, s_add, s_sub, s_mul, s_div, s_mod, s_addT, s_eq, s_ne, s_lt, s_le, s_gt, s_ge, s_isB, s_isnB, s_isN, s_isnN, s_ixT, s_ixR, s_keyI, s_keyS, s_lenT, s_lenR, s_abs, s_int, s_tupT, s_truRB, s_min2, s_max2, s_repr, s_isi, s_itT, s_itR, s_itZT, s_lenIT, s_lenIR, s_lenIN, s_lenIZ, s_slcT, s_revT, s_alloc, List.getElem?_cons_zero, List.getElem?_cons_succ, List.set_cons_zero, List.set_cons_succ, Option.map_some, Option.bind_some, if_true, and_self, true_and, reduceIte, Bool.not_true, Bool.not_false, Bool.false_eq_true, eqT_int, Tgs.len, List.length_cons, List.length_nil, Nat.zero_add, Nat.reduceAdd, wipeL, decide_true, decide_false]) (b62 (by omega) (by simp; omega)) (by simp)) (lt_size2 (by rw [hlen]; omega)) ?_ (fun _ => by rw [hlen]; rfl) (by rw [hlen]; rfl) ?_
  · intro acc i
    rw [s_getIN, List.getElem?_map]
    by_cases h : i < q.length
    · rw [if_pos h, List.getElem?_range h]; simp
    · rw [if_neg h, List.getElem?_eq_none (by simpa using h)]; rfl
  · intro x acc hx
    obtain ⟨k, hk, rfl⟩ := List.mem_map.mp hx
    rw [List.mem_range] at hk
    obtain ⟨m1, m2⟩ := mem_getD hk
    obtain ⟨r1, r2⟩ := row_get (inB_get hq m1)
    obtain ⟨r3, r4⟩ := row_get (inB_get hq m2)
    rw [rowT] at r2 r4
    have i1 : ixN (q.map T.int).length (k : Nat) = some k := ixN_nat (by rw [List.length_map]; exact hk)
    have z : ((q.map T.int).length + (q.map T.int).length ≤ sizeLine) = True := eq_true (lt_size2 (by rw [List.length_map]; omega))
    have i2 : ixN (q.map T.int ++ q.map T.int).length ((k : Int) + 1) = some (k + 1) := by
      rw [show ((k : Int) + 1) = ((k + 1 : Nat) : Int) by omega]; exact ixN_nat (by simp; omega)
    have g2 : (q.map T.int ++ q.map T.int)[k + 1]? = some (.int ((q ++ q).getD (k + 1) 0)) := by
      rw [← List.map_append]; exact getD_map (by simp; omega)
    have hd : folK rows q k = decide ((((rowI rows (q.getD k 0)).2.1 : Nat) : Int) = ((rowI rows ((q ++ q).getD (k + 1) 0)).1 : Nat)) := by
      unfold folK
      rw [decide_eq_decide]; omega
    simp only [Ss_cons, Ss_nil, q_nx, q_rt, q_bk, q_ct, q_xc, evS.eq_1, evS.eq_2, evS.eq_3, evS.eq_5, evS.eq_6, evS.eq_7, evS.eq_8, evS.eq_9, evS.eq_10, evS.eq_11, evS.eq_14, evE.eq_1, evE.eq_2, evE.eq_3, evE.eq_4, evE.eq_5, evE.eq_6, evE.eq_7, evE.eq_8, evE.eq_9, evE.eq_10, evE.eq_11, evE.eq_12, evE.eq_13, evE.eq_14, evE.eq_15, evE.eq_16, evE.eq_17, evE.eq_18, evE.eq_19, evE.eq_20, evE.eq_21, evE.eq_22, evE.eq_23, evEs, evIt, evTg, evTgs, evC, evEo, evKV, R.bind_ok, R.bind_exc, R.thenS_ok, R.thenS_exc, R.ofOpt_some, R.noExc_ok, s_add, s_sub, s_mul, s_div, s_mod, s_addT, s_eq, s_ne, s_lt, s_le, s_gt, s_ge, s_isB, s_isnB, s_isN, s_isnN, s_ixT, s_ixR, s_keyI, s_keyS, s_lenT, s_lenR, s_abs, s_int, s_tupT, s_truRB, s_min2, s_max2, s_repr, s_isi, s_itT, s_itR, s_itZT, s_lenIT, s_lenIR, s_lenIN, s_lenIZ, s_slcT, s_revT, s_alloc, List.getElem?_cons_zero, List.getElem?_cons_succ, List.set_cons_zero, List.set_cons_succ, Option.map_some, Option.bind_some, if_true, and_self, true_and, reduceIte, Bool.not_true, Bool.not_false, Bool.false_eq_true, eqT_int, Tgs.len, List.length_cons, List.length_nil, Nat.zero_add, Nat.reduceAdd, wipeL, decide_true, decide_false, s_ixL (get_app hr), i1, getD_map hk, i2, g2, r1, r2, r3, r4, ix3_0, ix3_1, z, folT, Int.toNat_natCast, ← hd]
theorem lagainst_spec {q : List Int} (ho : Okay c rows) (hl : q.length ≤ 400) (hr : st[rr]? = some (.lst (rows.map rowT))) (hs : Cls st) :
    run fns G (N + 1) 11 [.ref rr, .tup (q.map .int)] st = .ok (.bl (against rows q)) st := by
  rw [run_as fn_11 is_11 [some (.ref rr), some (.tup (q.map .int)), none, none] rfl rfl]
  unfold b__law_against
  have hin := comp_in (cl := run fns G N) (q := q) (i := 1) (j := 0) (a := 3) (sl := [some (.ref rr), some (.tup (q.map .int)), none, none]) (by omega) hr rfl (fun x => ⟨_, rfl, rfl, rfl⟩)
  unfold against
  cases e0 : q.isEmpty with
  | true =>
    simp only [Ss_cons, Ss_nil, q_nx, q_rt, q_bk, q_ct, q_xc, evS.eq_1, evS.eq_2, evS.eq_3, evS.eq_5, evS.eq_6, evS.eq_7, evS.eq_8, evS.eq_9, evS.eq_10, evS.eq_11, evS.eq_14, evE.eq_1, evE.eq_2, evE.eq_3, evE.eq_4, evE.eq_5, evE.eq_6, evE.eq_7, evE.eq_8, evE.eq_9, evE.eq_10, evE.eq_11, evE.eq_12, evE.eq_13, evE.eq_14, evE.eq_15, evE.eq_16, evE.eq_17, evE.eq_18, evE.eq_19, evE.eq_20, evE.eq_21, evE.eq_22, evE.eq_23, evEs, evIt, evTg, evTgs, evC, evEo, evKV, R.bind_ok, R.bind_exc, R.thenS_ok, R.thenS_exc, R.ofOpt_some, R.noExc_ok, s_add, s_sub, s_mul, s_div, s_mod, s_addT, s_eq, s_ne, s_lt, s_le, s_gt, s_ge, s_isB, s_isnB, s_isN, s_isnN, s_ixT, s_ixR, s_keyI, s_keyS, s_lenT, s_lenR, s_abs, s_int, s_tupT, s_truRB, s_min2, s_max2, s_repr, s_isi, s_itT, s_itR, s_itZT, s_lenIT, s_lenIR, s_lenIN, s_lenIZ, s_slcT, s_revT, s_alloc, List.getElem?_cons_zero, List.getElem?_cons_succ, List.set_cons_zero, List.set_cons_succ, Option.map_some, Option.bind_some, if_true, and_self, true_and, reduceIte, Bool.not_true, Bool.not_false, Bool.false_eq_true, eqT_int, Tgs.len, List.length_cons, List.length_nil, Nat.zero_add, Nat.reduceAdd, wipeL, decide_true, decide_false, z_le, eqT_nil, e0]
    rw [r_rt, gc_pure hs rfl List.take_length]
    rfl
  | false =>
    simp only [Ss_cons, Ss_nil, q_nx, q_rt, q_bk, q_ct, q_xc, evS.eq_1, evS.eq_2, evS.eq_3, evS.eq_5, evS.eq_6, evS.eq_7, evS.eq_8, evS.eq_9, evS.eq_10, evS.eq_11, evS.eq_14, evE.eq_1, evE.eq_2, evE.eq_3, evE.eq_4, evE.eq_5, evE.eq_6, evE.eq_7, evE.eq_8, evE.eq_9, evE.eq_10, evE.eq_11, evE.eq_12, evE.eq_13, evE.eq_14, evE.eq_15, evE.eq_16, evE.eq_17, evE.eq_18, evE.eq_19, evE.eq_20, evE.eq_21, evE.eq_22, evE.eq_23, evEs, evIt, evTg, evTgs, evC, evEo, evKV, R.bind_ok, R.bind_exc, R.thenS_ok, R.thenS_exc, R.ofOpt_some, R.noExc_ok, s_add, s_sub, s_mul, s_div, s_mod, s_addT, s_eq, s_ne, s_lt, s_le, s_gt, s_ge, s_isB, s_isnB, s_isN, s_isnN, s_ixT, s_ixR, s_keyI, s_keyS, s_lenT, s_lenR, s_abs, s_int, s_tupT, s_truRB, s_min2, s_max2, s_repr, s_isi, s_itT, s_itR, s_itZT, s_lenIT, s_lenIR, s_lenIN, s_lenIZ, s_slcT, s_revT, s_alloc, List.getElem?_cons_zero, List.getElem?_cons_succ, List.set_cons_zero, List.set_cons_succ, Option.map_some, Option.bind_some, if_true, and_self, true_and, reduceIte, Bool.not_true, Bool.not_false, Bool.false_eq_true, eqT_int, Tgs.len, List.length_cons, List.length_nil, Nat.zero_add, Nat.reduceAdd, wipeL, decide_true, decide_false, z_le, eqT_nil, e0]
    rw [hin]
    simp only [R.bind_ok, s_all get_new, all_in]
    cases e1 : inB rows q with
    | true =>
      simp only [Ss_cons, Ss_nil, q_nx, q_rt, q_bk, q_ct, q_xc, evS.eq_1, evS.eq_2, evS.eq_3, evS.eq_5, evS.eq_6, evS.eq_7, evS.eq_8, evS.eq_9, evS.eq_10, evS.eq_11, evS.eq_14, evE.eq_1, evE.eq_2, evE.eq_3, evE.eq_4, evE.eq_5, evE.eq_6, evE.eq_7, evE.eq_8, evE.eq_9, evE.eq_10, evE.eq_11, evE.eq_12, evE.eq_13, evE.eq_14, evE.eq_15, evE.eq_16, evE.eq_17, evE.eq_18, evE.eq_19, evE.eq_20, evE.eq_21, evE.eq_22, evE.eq_23, evEs, evIt, evTg, evTgs, evC, evEo, evKV, R.bind_ok, R.bind_exc, R.thenS_ok, R.thenS_exc, R.ofOpt_some, R.noExc_ok, s_add, s_sub, s_mul, s_div, s_mod, s_addT, s_eq, s_ne, s_lt, s_le, s_gt, s_ge, s_isB, s_isnB, s_isN, s_isnN, s_ixT, s_ixR, s_keyI, s_keyS, s_lenT, s_lenR, s_abs, s_int, s_tupT, s_truRB, s_min2, s_max2, s_repr, s_isi, s_itT, s_itR, s_itZT, s_lenIT, s_lenIR, s_lenIN, s_lenIZ, s_slcT, s_revT, s_alloc, List.getElem?_cons_zero, List.getElem?_cons_succ, List.set_cons_zero, List.set_cons_succ, Option.map_some, Option.bind_some, if_true, and_self, true_and, reduceIte, Bool.not_true, Bool.not_false, Bool.false_eq_true, eqT_int, Tgs.len, List.length_cons, List.length_nil, Nat.zero_add, Nat.reduceAdd, wipeL, decide_true, decide_false]
      rw [comp_fol (cl := run fns G N) e1 (by omega) (get_app hr) rfl]
      simp only [Ss_cons, Ss_nil, q_nx, q_rt, q_bk, q_ct, q_xc, evS.eq_1, evS.eq_2, evS.eq_3, evS.eq_5, evS.eq_6, evS.eq_7, evS.eq_8, evS.eq_9, evS.eq_10, evS.eq_11, evS.eq_14, evE.eq_1, evE.eq_2, evE.eq_3, evE.eq_4, evE.eq_5, evE.eq_6, evE.eq_7, evE.eq_8, evE.eq_9, evE.eq_10, evE.eq_11, evE.eq_12, evE.eq_13, evE.eq_14, evE.eq_15, evE.eq_16, evE.eq_17, evE.eq_18, evE.eq_19, evE.eq_20, evE.eq_21, evE.eq_22, evE.eq_23, evEs, evIt, evTg, evTgs, evC, evEo, evKV, R.bind_ok, R.bind_exc, R.thenS_ok, R.thenS_exc, R.ofOpt_some, R.noExc_ok, s_add, s_sub, s_mul, s_div, s_mod, s_addT, s_eq, s_ne, s_lt, s_le, s_gt, s_ge, s_isB, s_isnB, s_isN, s_isnN, s_ixT, s_ixR, s_keyI, s_keyS, s_lenT, s_lenR, s_abs, s_int, s_tupT, s_truRB, s_min2, s_max2, s_repr, s_isi, s_itT, s_itR, s_itZT, s_lenIT, s_lenIR, s_lenIN, s_lenIZ, s_slcT, s_revT, s_alloc, List.getElem?_cons_zero, List.getElem?_cons_succ, List.set_cons_zero, List.set_cons_succ, Option.map_some, Option.bind_some, if_true, and_self, true_and, reduceIte, Bool.not_true, Bool.not_false, Bool.false_eq_true, eqT_int, Tgs.len, List.length_cons, List.length_nil, Nat.zero_add, Nat.reduceAdd, wipeL, decide_true, decide_false, s_all get_new, List.all_map, Function.comp_def, id_eq]
      have hfol : ((List.range q.length).all fun x => folK rows q x) = folB rows q := rfl
      simp only [hfol]
      cases e2 : folB rows q with
      | true =>
        have hsm := comp_sm (cl := run fns G N) (q := q) (i := 1) (j := 0) (a := 3) (sl := [some (.ref rr), some (.tup (q.map .int)), some (.bl true), none]) e1 (by omega) (get_app (get_app hr (d := Cell.lst ((q.map (inI rows.length)).map .bl))) (d := Cell.lst (((List.range q.length).map (folK rows q)).map .bl))) rfl (fun x => ⟨_, rfl, rfl, rfl⟩)
        simp only [Ss_cons, Ss_nil, q_nx, q_rt, q_bk, q_ct, q_xc, evS.eq_1, evS.eq_2, evS.eq_3, evS.eq_5, evS.eq_6, evS.eq_7, evS.eq_8, evS.eq_9, evS.eq_10, evS.eq_11, evS.eq_14, evE.eq_1, evE.eq_2, evE.eq_3, evE.eq_4, evE.eq_5, evE.eq_6, evE.eq_7, evE.eq_8, evE.eq_9, evE.eq_10, evE.eq_11, evE.eq_12, evE.eq_13, evE.eq_14, evE.eq_15, evE.eq_16, evE.eq_17, evE.eq_18, evE.eq_19, evE.eq_20, evE.eq_21, evE.eq_22, evE.eq_23, evEs, evIt, evTg, evTgs, evC, evEo, evKV, R.bind_ok, R.bind_exc, R.thenS_ok, R.thenS_exc, R.ofOpt_some, R.noExc_ok, s_add, s_sub, s_mul, s_div, s_mod, s_addT, s_eq, s_ne, s_lt, s_le, s_gt, s_ge, s_isB, s_isnB, s_isN, s_isnN, s_ixT, s_ixR, s_keyI, s_keyS, s_lenT, s_lenR, s_abs, s_int, s_tupT, s_truRB, s_min2, s_max2, s_repr, s_isi, s_itT, s_itR, s_itZT, s_lenIT, s_lenIR, s_lenIN, s_lenIZ, s_slcT, s_revT, s_alloc, List.getElem?_cons_zero, List.getElem?_cons_succ, List.set_cons_zero, List.set_cons_succ, Option.map_some, Option.bind_some, if_true, and_self, true_and, reduceIte, Bool.not_true, Bool.not_false, Bool.false_eq_true, eqT_int, Tgs.len, List.length_cons, List.length_nil, Nat.zero_add, Nat.reduceAdd, wipeL, decide_true, decide_false]
        simp only [List.map_map] at hsm ⊢
        rw [hsm]
        simp only [← List.map_map, Ss_cons, Ss_nil, q_nx, q_rt, q_bk, q_ct, q_xc, evS.eq_1, evS.eq_2, evS.eq_3, evS.eq_5, evS.eq_6, evS.eq_7, evS.eq_8, evS.eq_9, evS.eq_10, evS.eq_11, evS.eq_14, evE.eq_1, evE.eq_2, evE.eq_3, evE.eq_4, evE.eq_5, evE.eq_6, evE.eq_7, evE.eq_8, evE.eq_9, evE.eq_10, evE.eq_11, evE.eq_12, evE.eq_13, evE.eq_14, evE.eq_15, evE.eq_16, evE.eq_17, evE.eq_18, evE.eq_19, evE.eq_20, evE.eq_21, evE.eq_22, evE.eq_23, evEs, evIt, evTg, evTgs, evC, evEo, evKV, R.bind_ok, R.bind_exc, R.thenS_ok, R.thenS_exc, R.ofOpt_some, R.noExc_ok, s_add, s_sub, s_mul, s_div, s_mod, s_addT, s_eq, s_ne, s_lt, s_le, s_gt, s_ge, s_isB, s_isnB, s_isN, s_isnN, s_ixT, s_ixR, s_keyI, s_keyS, s_lenT, s_lenR, s_abs, s_int, s_tupT, s_truRB, s_min2, s_max2, s_repr, s_isi, s_itT, s_itR, s_itZT, s_lenIT, s_lenIR, s_lenIN, s_lenIZ, s_slcT, s_revT, s_alloc, List.getElem?_cons_zero, List.getElem?_cons_succ, List.set_cons_zero, List.set_cons_succ, Option.map_some, Option.bind_some, if_true, and_self, true_and, reduceIte, Bool.not_true, Bool.not_false, Bool.false_eq_true, eqT_int, Tgs.len, List.length_cons, List.length_nil, Nat.zero_add, Nat.reduceAdd, wipeL, decide_true, decide_false, s_sum get_new]
        rw [r_rt, gc_pure hs rfl (by rw [List.append_assoc, List.append_assoc]; exact List.take_left' rfl)]
        rfl
      | false =>
        simp only [Ss_cons, Ss_nil, q_nx, q_rt, q_bk, q_ct, q_xc, evS.eq_1, evS.eq_2, evS.eq_3, evS.eq_5, evS.eq_6, evS.eq_7, evS.eq_8, evS.eq_9, evS.eq_10, evS.eq_11, evS.eq_14, evE.eq_1, evE.eq_2, evE.eq_3, evE.eq_4, evE.eq_5, evE.eq_6, evE.eq_7, evE.eq_8, evE.eq_9, evE.eq_10, evE.eq_11, evE.eq_12, evE.eq_13, evE.eq_14, evE.eq_15, evE.eq_16, evE.eq_17, evE.eq_18, evE.eq_19, evE.eq_20, evE.eq_21, evE.eq_22, evE.eq_23, evEs, evIt, evTg, evTgs, evC, evEo, evKV, R.bind_ok, R.bind_exc, R.thenS_ok, R.thenS_exc, R.ofOpt_some, R.noExc_ok, s_add, s_sub, s_mul, s_div, s_mod, s_addT, s_eq, s_ne, s_lt, s_le, s_gt, s_ge, s_isB, s_isnB, s_isN, s_isnN, s_ixT, s_ixR, s_keyI, s_keyS, s_lenT, s_lenR, s_abs, s_int, s_tupT, s_truRB, s_min2, s_max2, s_repr, s_isi, s_itT, s_itR, s_itZT, s_lenIT, s_lenIR, s_lenIN, s_lenIZ, s_slcT, s_revT, s_alloc, List.getElem?_cons_zero, List.getElem?_cons_succ, List.set_cons_zero, List.set_cons_succ, Option.map_some, Option.bind_some, if_true, and_self, true_and, reduceIte, Bool.not_true, Bool.not_false, Bool.false_eq_true, eqT_int, Tgs.len, List.length_cons, List.length_nil, Nat.zero_add, Nat.reduceAdd, wipeL, decide_true, decide_false]
        rw [r_rt, gc_pure hs rfl (by rw [List.append_assoc]; exact List.take_left' rfl)]
        rfl
    | false =>
      simp only [Ss_cons, Ss_nil, q_nx, q_rt, q_bk, q_ct, q_xc, evS.eq_1, evS.eq_2, evS.eq_3, evS.eq_5, evS.eq_6, evS.eq_7, evS.eq_8, evS.eq_9, evS.eq_10, evS.eq_11, evS.eq_14, evE.eq_1, evE.eq_2, evE.eq_3, evE.eq_4, evE.eq_5, evE.eq_6, evE.eq_7, evE.eq_8, evE.eq_9, evE.eq_10, evE.eq_11, evE.eq_12, evE.eq_13, evE.eq_14, evE.eq_15, evE.eq_16, evE.eq_17, evE.eq_18, evE.eq_19, evE.eq_20, evE.eq_21, evE.eq_22, evE.eq_23, evEs, evIt, evTg, evTgs, evC, evEo, evKV, R.bind_ok, R.bind_exc, R.thenS_ok, R.thenS_exc, R.ofOpt_some, R.noExc_ok, s_add, s_sub, s_mul, s_div, s_mod, s_addT, s_eq, s_ne, s_lt, s_le, s_gt, s_ge, s_isB, s_isnB, s_isN, s_isnN, s_ixT, s_ixR, s_keyI, s_keyS, s_lenT, s_lenR, s_abs, s_int, s_tupT, s_truRB, s_min2, s_max2, s_repr, s_isi, s_itT, s_itR, s_itZT, s_lenIT, s_lenIR, s_lenIN, s_lenIZ, s_slcT, s_revT, s_alloc, List.getElem?_cons_zero, List.getElem?_cons_succ, List.set_cons_zero, List.set_cons_succ, Option.map_some, Option.bind_some, if_true, and_self, true_and, reduceIte, Bool.not_true, Bool.not_false, Bool.false_eq_true, eqT_int, Tgs.len, List.length_cons, List.length_nil, Nat.zero_add, Nat.reduceAdd, wipeL, decide_true, decide_false]
      rw [r_rt, gc_pure hs rfl (List.take_left' rfl)]
      rfl
end Lw

end

section
set_option Elab.async false
set_option linter.all false
set_option maxRecDepth 100000
set_option maxHeartbeats 4000000
set_option autoImplicit false
namespace Df
/-! one row after the other, without reasons -/
def rel (v : Val) (r : Row) : Val := match v r.2.1 with
  | none => v
  | some y => match v r.1 with
    | none => put v r.1 (some (y + r.2.2))
    | some x => if y + r.2.2 < x then put v r.1 (some (y + r.2.2)) else v
def relR (rows : List Row) (v : Val) : Val := rows.foldl rel v
def relK (rows : List Row) (v : Val) : Nat → Val
  | 0 => v
  | n + 1 => relR rows (relK rows v n)
theorem rel_cases (v : Val) (r : Row) : (∃ y, Upd r v y ∧ rel v r = put v r.1 (some (y + r.2.2))) ∨ ((∀ y, ¬ Upd r v y) ∧ rel v r = v) := by
  unfold rel
  cases hb : v r.2.1 with
  | none => exact .inr ⟨fun y h => (by rw [h.1] at hb; cases hb), rfl⟩
  | some y =>
    simp only
    cases ha : v r.1 with
    | none => exact .inl ⟨y, ⟨hb, fun x hx => (by rw [ha] at hx; cases hx)⟩, rfl⟩
    | some x =>
      simp only
      by_cases h : y + r.2.2 < x
      · rw [if_pos h]; exact .inl ⟨y, ⟨hb, fun x' hx => by rw [ha] at hx; cases hx; exact h⟩, rfl⟩
      · rw [if_neg h]; exact .inr ⟨fun y' h' => by
          have := h'.1
          rw [hb] at this; cases this
          exact h (h'.2 x ha), rfl⟩
theorem take_fold {rows : List Row} {v : Val} {j : Nat} {r : Row} (h : rows[j]? = some r) : (rows.take (j + 1)).foldl rel v = rel ((rows.take j).foldl rel v) r := by
  rw [List.take_add_one, h, List.foldl_append]; rfl
theorem rel_inv {rows : List Row} {v0 v : Val} {w : Nat → Option Nat} {t : Nat → Nat} {K : Nat} (h : Inv rows v0 v w t K 0) : ∀ j, j ≤ rows.length → ∃ w' t', Inv rows v0 ((rows.take j).foldl rel v) w' t' K j
  | 0, _ => ⟨w, t, h⟩
  | j + 1, hj => by
    obtain ⟨w', t', hi⟩ := rel_inv h j (by omega)
    rcases hr : rows[j] with ⟨a, b, m⟩
    have hr' : rows[j]? = some (a, b, m) := by rw [List.getElem?_eq_getElem (by omega), hr]
    rw [take_fold hr']
    rcases rel_cases ((rows.take j).foldl rel v) (a, b, m) with ⟨y, hu, e⟩ | ⟨hn, e⟩ <;> rw [e]
    · exact ⟨_, _, hi.yes hr' hu⟩
    · exact ⟨_, _, hi.no hr' hn⟩
theorem relK_inv (rows : List Row) (v0 : Val) : ∀ k, ∃ w t, Inv rows v0 (relK rows v0 k) w t (k * rows.length) 0
  | 0 => ⟨_, _, by rw [Nat.zero_mul]; exact inv0 rows v0⟩
  | k + 1 => by
    obtain ⟨w, t, h⟩ := relK_inv rows v0 k
    obtain ⟨w', t', h'⟩ := rel_inv h rows.length (Nat.le_refl _)
    rw [List.take_length] at h'
    exact ⟨w', t', by rw [Nat.succ_mul]; exact h'.next⟩
/-- after count rounds nothing changes any more -/
theorem relK_still {c : Nat} {rows : List Row} (ho : Okay c rows) {u : Nat → Int} (hf : Feas rows u) (v0 : Val) : ∀ j, j ≤ rows.length → (rows.take j).foldl rel (relK rows v0 c) = relK rows v0 c
  | 0, _ => rfl
  | j + 1, hj => by
    rcases hr : rows[j] with ⟨a, b, m⟩
    have hr' : rows[j]? = some (a, b, m) := by rw [List.getElem?_eq_getElem (by omega), hr]
    obtain ⟨w, t, h⟩ := relK_inv rows v0 c
    obtain ⟨w', t', h'⟩ := rel_inv h j (by omega)
    rw [take_fold hr']
    have ih := relK_still ho hf v0 j (by omega)
    rcases rel_cases ((rows.take j).foldl rel (relK rows v0 c)) (a, b, m) with ⟨y, hu, e⟩ | ⟨hn, e⟩
    · have h2 := (h'.yes hr' hu).still ho hf (ho.ok _ _ _ _ hr').1
      rw [put_same] at h2
      omega
    · rw [e, ih]
theorem relK_eq {c : Nat} {rows : List Row} (ho : Okay c rows) {u : Nat → Int} (hf : Feas rows u) (v0 : Val) : relK rows v0 (c + 1) = relK rows v0 c := by
  have := relK_still ho hf v0 rows.length (Nat.le_refl _)
  rw [List.take_length] at this
  exact this
theorem relK_stable {c : Nat} {rows : List Row} (ho : Okay c rows) {u : Nat → Int} (hf : Feas rows u) (v0 : Val) {j a b : Nat} {m y : Int} (hr : rows[j]? = some (a, b, m)) (hb : relK rows v0 c b = some y) :
    ∃ x, relK rows v0 c a = some x ∧ x ≤ y + m := by
  have hj := (List.getElem?_eq_some_iff.mp hr).1
  have h1 := relK_still ho hf v0 j (by omega)
  have h2 := relK_still ho hf v0 (j + 1) (by omega)
  rw [take_fold hr, h1] at h2
  rcases rel_cases (relK rows v0 c) (a, b, m) with ⟨y', hu, e⟩ | ⟨hn, e⟩
  · rw [e] at h2
    have h3 := congrFun h2 a
    simp only at h3
    rw [put_same] at h3
    have h4 := hu.2 (y' + m) h3.symm
    simp only at h4
    omega
  · cases ha : relK rows v0 c a with
    | none => exact absurd ⟨hb, fun x hx => by simp only at hx; rw [ha] at hx; cases hx⟩ (hn y)
    | some x =>
      refine ⟨x, rfl, ?_⟩
      rcases Int.lt_or_le (y + m) x with h | h
      · exact absurd ⟨hb, fun x' hx => by simp only at hx; rw [ha] at hx; cases hx; exact h⟩ (hn y)
      · exact h
/-- what the rounds tell is no less than what any values do -/
theorem rel_ge {rows : List Row} {u : Nat → Int} (hf : Feas rows u) {s : Nat} : ∀ {v : Val}, (∀ a x, v a = some x → u a - u s ≤ x) → ∀ rs : List Row, (∀ r ∈ rs, ∃ i : Nat, rows[i]? = some r) → ∀ a x, (rs.foldl rel v) a = some x → u a - u s ≤ x
  | v, h, [], _ => h
  | v, h, r :: rs, hm => by
    refine rel_ge hf ?_ rs (fun r' hr' => hm r' (List.mem_cons_of_mem _ hr'))
    intro a x hx
    obtain ⟨i, hi⟩ := hm r (List.mem_cons_self ..)
    rcases rel_cases v r with ⟨y, hu, e⟩ | ⟨hn, e⟩ <;> rw [e] at hx
    · by_cases ha : a = r.1
      · subst ha
        rw [put_same] at hx; cases hx
        have h1 := h _ _ hu.1
        have h2 := hf i r.1 r.2.1 r.2.2 hi
        omega
      · rw [put_ne ha] at hx; exact h a x hx
    · exact h a x hx
def s0 (b : Nat) : Val := fun a => if a = b then some 0 else none
theorem relK_ge {rows : List Row} {u : Nat → Int} (hf : Feas rows u) {s : Nat} : ∀ k a x, relK rows (s0 s) k a = some x → u a - u s ≤ x
  | 0, a, x, h => by
    simp only [relK, s0] at h
    split at h
    · rename_i e; subst e; cases h; omega
    · cases h
  | k + 1, a, x, h => rel_ge hf (relK_ge hf k) rows (fun r hr => List.mem_iff_getElem?.mp hr) a x h
end Df

end

section
set_option Elab.async false
set_option linter.all false
set_option maxRecDepth 100000
set_option maxHeartbeats 4000000
set_option autoImplicit false
namespace Lw
open PF PySem Df
variable {N c rr : Nat} {rows : List Row} {st : Store}
theorem is_4 : IsFn f_tightest 4 9 b_tightest := ⟨rfl, rfl, rfl, rfl⟩
theorem is_12 : IsFn f__law_chains 3 8 b__law_chains := ⟨rfl, rfl, rfl, rfl⟩
/-! dicts of numbers -/
def encD (l : List (Nat × Int)) : List (T × T) := l.map fun p => (.int p.1, .int p.2)
def val (l : List (Nat × Int)) : Val := fun a => l.lookup a
def putA (a : Nat) (x : Int) (l : List (Nat × Int)) : List (Nat × Int) := if l.any (fun p => decide (a = p.1)) then l.map (fun p => if a = p.1 then (p.1, x) else p) else l ++ [(a, x)]
theorem keyEq_nat {a b : Nat} : keyEq (.int a) (.int b) = decide (a = b) := by
  simp only [keyEq]; rw [decide_eq_decide]; omega
theorem dLook_enc (a : Nat) : ∀ l, dLook (.int a) (encD l) = (val l a).map .int
  | [] => rfl
  | (b, x) :: l => by
    have ih := dLook_enc a l
    unfold encD val at *
    simp only [List.map_cons, dLook, keyEq_nat, List.lookup_cons]
    by_cases h : a = b
    · subst h; simp
    · have : (a == b) = false := by simpa using h
      rw [this]
      simp only [h, decide_false, Bool.false_eq_true, if_false, ih]
theorem dPut_enc (a : Nat) (x : Int) (l : List (Nat × Int)) : dPut (.int a) (.int x) (encD l) = encD (putA a x l) := by
  unfold dPut putA encD
  have h1 : ((l.map fun p => ((.int p.1, .int p.2) : T × T)).any fun p => keyEq (.int a) p.1) = l.any fun p => decide (a = p.1) := by
    rw [List.any_map]; congr 1; funext p; simp only [Function.comp, keyEq_nat]
  rw [h1]
  by_cases h : (l.any fun p => decide (a = p.1)) = true
  · rw [if_pos h, if_pos h, List.map_map, List.map_map]
    congr 1; funext p
    simp only [Function.comp, keyEq_nat, decide_eq_true_eq]
    by_cases e : a = p.1
    · simp only [e, if_true]
    · simp only [e, if_false]
  · rw [if_neg h, if_neg h, List.map_append]; rfl
theorem lk_ne {a i : Nat} {x : Int} (hi : i ≠ a) : ∀ l : List (Nat × Int), List.lookup i (l.map fun p => if a = p.1 then (p.1, x) else p) = List.lookup i l
  | [] => rfl
  | (k, v) :: l => by
    have ih := lk_ne (x := x) hi l
    have h1 : (i == a) = false := by simpa using hi
    rw [List.map_cons]
    by_cases e : a = k
    · subst e
      rw [if_pos rfl, List.lookup_cons, List.lookup_cons, h1]; exact ih
    · rw [if_neg e, List.lookup_cons, List.lookup_cons, ih]
theorem lk_eq {a : Nat} {x : Int} : ∀ l : List (Nat × Int), (l.any fun p => decide (a = p.1)) = true → List.lookup a (l.map fun p => if a = p.1 then (p.1, x) else p) = some x
  | [], h => by simp at h
  | (k, v) :: l, h => by
    rw [List.map_cons]
    by_cases e : a = k
    · subst e
      rw [if_pos rfl, List.lookup_cons]; simp
    · have h' : (l.any fun p => decide (a = p.1)) = true := by
        simp only [List.any_cons, e, decide_false, Bool.false_or] at h; exact h
      have h1 : (a == k) = false := by simpa using e
      rw [if_neg e, List.lookup_cons, h1]; exact lk_eq l h'
theorem val_putA (a : Nat) (x : Int) (l : List (Nat × Int)) : val (putA a x l) = put (val l) a (some x) := by
  funext i
  unfold putA val put
  split
  · rename_i h
    by_cases e : i = a
    · subst e; rw [lk_eq l h, if_pos rfl]
    · rw [lk_ne e l, if_neg e]
  · rename_i h
    rw [List.lookup_append]
    by_cases e : i = a
    · subst e
      have : List.lookup i l = none := by
        rw [List.lookup_eq_none_iff]
        intro p hp
        have h2 : ¬ (decide (i = p.1) = true) := fun hh => h (List.any_eq_true.mpr ⟨p, hp, hh⟩)
        simpa using h2
      rw [this]; simp
    · have : (i == a) = false := by simpa using e
      simp [List.lookup, this, e]
def relA (l : List (Nat × Int)) (r : Row) : List (Nat × Int) := match val l r.2.1 with
  | none => l
  | some y => match val l r.1 with
    | none => putA r.1 (y + r.2.2) l
    | some x => if y + r.2.2 < x then putA r.1 (y + r.2.2) l else l
theorem val_relA (l : List (Nat × Int)) (r : Row) : val (relA l r) = rel (val l) r := by
  unfold relA rel
  cases val l r.2.1 with
  | none => rfl
  | some y =>
    simp only
    cases val l r.1 with
    | none => exact val_putA _ _ _
    | some x =>
      simp only
      by_cases h : y + r.2.2 < x
      · rw [if_pos h, if_pos h]; exact val_putA _ _ _
      · rw [if_neg h, if_neg h]
theorem putA_len (a : Nat) (x : Int) (l : List (Nat × Int)) : (putA a x l).length ≤ l.length + 1 := by
  unfold putA; split <;> simp
theorem relA_len (l : List (Nat × Int)) (r : Row) : (relA l r).length ≤ l.length + 1 := by
  unfold relA
  have := putA_len r.1
  repeat (first | (split; skip) | omega | exact this _ _)
  all_goals first | omega | exact this _ _
def b_rx (d a b m : Nat) : Ss := .cons (.ifS (.and (.cmp .In (.var b) (.var d)) (.cmp .Lt (.bin .Add (.ix (.var d) (.var b)) (.var m)) (.mcall .get (.var d) (.cons (.var a) (.cons (.bin .Add (.bin .Add (.ix (.var d) (.var b)) (.var m)) (.cst (.int 1))) .nil)))))
  (.cons (.asg (.sub (.var d) (.var a)) (.bin .Add (.ix (.var d) (.var b)) (.var m))) .nil) .nil) .nil
theorem set_self {D : Nat} {x : Cell} (h : st[D]? = some x) : st.set D x = st := by
  apply List.ext_getElem?
  intro i
  by_cases e : D = i
  · subst e; rw [get_set h, h]
  · rw [List.getElem?_set_ne e]
theorem rx_b {cl : Call} {d a b m D : Nat} {r : Row} {l : List (Nat × Int)} {sl : Sl} (hd : sl[d]? = some (some (.ref D))) (ha : sl[a]? = some (some (.int r.1))) (hb : sl[b]? = some (some (.int r.2.1))) (hm : sl[m]? = some (some (.int r.2.2)))
    (hD : st[D]? = some (.dic (encD l))) (hl : l.length < 1000) : evSs cl G (b_rx d a b m) sl st = .nx sl (st.set D (.dic (encD (relA l r)))) := by
  unfold b_rx relA
  have hlen : ((encD l).length < sizeLine) = True := eq_true (lt_size (by unfold encD; rw [List.length_map]; exact hl))
  cases hy : val l r.2.1 with
  | none =>
    simp only [Ss_cons, Ss_nil, q_nx, q_rt, q_bk, q_ct, q_xc, evS.eq_1, evS.eq_2, evS.eq_3, evS.eq_5, evS.eq_6, evS.eq_7, evS.eq_8, evS.eq_9, evS.eq_10, evS.eq_11, evS.eq_14, evE.eq_1, evE.eq_2, evE.eq_3, evE.eq_4, evE.eq_5, evE.eq_6, evE.eq_7, evE.eq_8, evE.eq_9, evE.eq_10, evE.eq_11, evE.eq_12, evE.eq_13, evE.eq_14, evE.eq_15, evE.eq_16, evE.eq_17, evE.eq_18, evE.eq_19, evE.eq_20, evE.eq_21, evE.eq_22, evE.eq_23, evEs, evIt, evTg, evTgs, evC, evEo, evKV, R.bind_ok, R.bind_exc, R.thenS_ok, R.thenS_exc, R.ofOpt_some, R.noExc_ok, s_add, s_sub, s_mul, s_div, s_mod, s_addT, s_eq, s_ne, s_lt, s_le, s_gt, s_ge, s_isB, s_isnB, s_isN, s_isnN, s_ixT, s_ixR, s_keyI, s_keyS, s_lenT, s_lenR, s_abs, s_int, s_tupT, s_truRB, s_min2, s_max2, s_repr, s_isi, s_itT, s_itR, s_itZT, s_lenIT, s_lenIR, s_lenIN, s_lenIZ, s_slcT, s_revT, s_alloc, List.getElem?_cons_zero, List.getElem?_cons_succ, List.set_cons_zero, List.set_cons_succ, Option.map_some, Option.bind_some, if_true, and_self, true_and, reduceIte, Bool.not_true, Bool.not_false, Bool.false_eq_true, eqT_int, Tgs.len, List.length_cons, List.length_nil, Nat.zero_add, Nat.reduceAdd, wipeL, decide_true, decide_false, hd, ha, hb, hm, s_inD hD, dLook_enc, hy, Option.map_none, Option.isSome_none]
    rw [set_self hD]
  | some y =>
    cases hx : val l r.1 with
    | none =>
      have e : decide (y + r.2.2 < y + r.2.2 + 1) = true := b_decT (by omega)
      simp only [Ss_cons, Ss_nil, q_nx, q_rt, q_bk, q_ct, q_xc, evS.eq_1, evS.eq_2, evS.eq_3, evS.eq_5, evS.eq_6, evS.eq_7, evS.eq_8, evS.eq_9, evS.eq_10, evS.eq_11, evS.eq_14, evE.eq_1, evE.eq_2, evE.eq_3, evE.eq_4, evE.eq_5, evE.eq_6, evE.eq_7, evE.eq_8, evE.eq_9, evE.eq_10, evE.eq_11, evE.eq_12, evE.eq_13, evE.eq_14, evE.eq_15, evE.eq_16, evE.eq_17, evE.eq_18, evE.eq_19, evE.eq_20, evE.eq_21, evE.eq_22, evE.eq_23, evEs, evIt, evTg, evTgs, evC, evEo, evKV, R.bind_ok, R.bind_exc, R.thenS_ok, R.thenS_exc, R.ofOpt_some, R.noExc_ok, s_add, s_sub, s_mul, s_div, s_mod, s_addT, s_eq, s_ne, s_lt, s_le, s_gt, s_ge, s_isB, s_isnB, s_isN, s_isnN, s_ixT, s_ixR, s_keyI, s_keyS, s_lenT, s_lenR, s_abs, s_int, s_tupT, s_truRB, s_min2, s_max2, s_repr, s_isi, s_itT, s_itR, s_itZT, s_lenIT, s_lenIR, s_lenIN, s_lenIZ, s_slcT, s_revT, s_alloc, List.getElem?_cons_zero, List.getElem?_cons_succ, List.set_cons_zero, List.set_cons_succ, Option.map_some, Option.bind_some, if_true, and_self, true_and, reduceIte, Bool.not_true, Bool.not_false, Bool.false_eq_true, eqT_int, Tgs.len, List.length_cons, List.length_nil, Nat.zero_add, Nat.reduceAdd, wipeL, decide_true, decide_false, hd, ha, hb, hm, s_inD hD, s_ixD hD, s_okG hD, s_get2 hD, s_setD hD, dLook_enc, hy, hx, Option.map_none, Option.isSome_some, Option.getD_none, e, hlen, dPut_enc]
    | some x =>
      by_cases h : y + r.2.2 < x
      · have e : decide (y + r.2.2 < x) = true := b_decT h
        simp only [Ss_cons, Ss_nil, q_nx, q_rt, q_bk, q_ct, q_xc, evS.eq_1, evS.eq_2, evS.eq_3, evS.eq_5, evS.eq_6, evS.eq_7, evS.eq_8, evS.eq_9, evS.eq_10, evS.eq_11, evS.eq_14, evE.eq_1, evE.eq_2, evE.eq_3, evE.eq_4, evE.eq_5, evE.eq_6, evE.eq_7, evE.eq_8, evE.eq_9, evE.eq_10, evE.eq_11, evE.eq_12, evE.eq_13, evE.eq_14, evE.eq_15, evE.eq_16, evE.eq_17, evE.eq_18, evE.eq_19, evE.eq_20, evE.eq_21, evE.eq_22, evE.eq_23, evEs, evIt, evTg, evTgs, evC, evEo, evKV, R.bind_ok, R.bind_exc, R.thenS_ok, R.thenS_exc, R.ofOpt_some, R.noExc_ok, s_add, s_sub, s_mul, s_div, s_mod, s_addT, s_eq, s_ne, s_lt, s_le, s_gt, s_ge, s_isB, s_isnB, s_isN, s_isnN, s_ixT, s_ixR, s_keyI, s_keyS, s_lenT, s_lenR, s_abs, s_int, s_tupT, s_truRB, s_min2, s_max2, s_repr, s_isi, s_itT, s_itR, s_itZT, s_lenIT, s_lenIR, s_lenIN, s_lenIZ, s_slcT, s_revT, s_alloc, List.getElem?_cons_zero, List.getElem?_cons_succ, List.set_cons_zero, List.set_cons_succ, Option.map_some, Option.bind_some, if_true, and_self, true_and, reduceIte, Bool.not_true, Bool.not_false, Bool.false_eq_true, eqT_int, Tgs.len, List.length_cons, List.length_nil, Nat.zero_add, Nat.reduceAdd, wipeL, decide_true, decide_false, hd, ha, hb, hm, s_inD hD, s_ixD hD, s_okG hD, s_get2 hD, s_setD hD, dLook_enc, hy, hx, Option.isSome_some, Option.getD_some, e, hlen, dPut_enc, h]
      · have e : decide (y + r.2.2 < x) = false := b_decF h
        simp only [Ss_cons, Ss_nil, q_nx, q_rt, q_bk, q_ct, q_xc, evS.eq_1, evS.eq_2, evS.eq_3, evS.eq_5, evS.eq_6, evS.eq_7, evS.eq_8, evS.eq_9, evS.eq_10, evS.eq_11, evS.eq_14, evE.eq_1, evE.eq_2, evE.eq_3, evE.eq_4, evE.eq_5, evE.eq_6, evE.eq_7, evE.eq_8, evE.eq_9, evE.eq_10, evE.eq_11, evE.eq_12, evE.eq_13, evE.eq_14, evE.eq_15, evE.eq_16, evE.eq_17, evE.eq_18, evE.eq_19, evE.eq_20, evE.eq_21, evE.eq_22, evE.eq_23, evEs, evIt, evTg, evTgs, evC, evEo, evKV, R.bind_ok, R.bind_exc, R.thenS_ok, R.thenS_exc, R.ofOpt_some, R.noExc_ok, s_add, s_sub, s_mul, s_div, s_mod, s_addT, s_eq, s_ne, s_lt, s_le, s_gt, s_ge, s_isB, s_isnB, s_isN, s_isnN, s_ixT, s_ixR, s_keyI, s_keyS, s_lenT, s_lenR, s_abs, s_int, s_tupT, s_truRB, s_min2, s_max2, s_repr, s_isi, s_itT, s_itR, s_itZT, s_lenIT, s_lenIR, s_lenIN, s_lenIZ, s_slcT, s_revT, s_alloc, List.getElem?_cons_zero, List.getElem?_cons_succ, List.set_cons_zero, List.set_cons_succ, Option.map_some, Option.bind_some, if_true, and_self, true_and, reduceIte, Bool.not_true, Bool.not_false, Bool.false_eq_true, eqT_int, Tgs.len, List.length_cons, List.length_nil, Nat.zero_add, Nat.reduceAdd, wipeL, decide_true, decide_false, hd, ha, hb, hm, s_inD hD, s_ixD hD, s_okG hD, s_get2 hD, s_setD hD, dLook_enc, hy, hx, Option.isSome_some, Option.getD_some, e, hlen, dPut_enc, h]
        rw [set_self hD]

/-! ch -/
abbrev ch_sl (c rr : Nat) (p : Int) (D : Nat) (x y z w : Option T) : Sl := [some (.int c), some (.ref rr), some (.int p), some (.ref D), x, y, z, w]
theorem ch_in {cl : Call} {p : Int} {D : Nat} {l : List (Nat × Int)} {x y z w : Option T} (hr : st[rr]? = some (.lst (rows.map rowT))) (hD : st[D]? = some (.dic (encD l))) (hne : D ≠ rr) (hl : l.length + rows.length < 1000) :
    ∃ l' y' z' w', val l' = relR rows (val l) ∧ l'.length ≤ l.length + rows.length ∧
      evS cl G (.for (.tup (.cons (.nm 5) (.cons (.nm 6) (.cons (.nm 7) .nil)))) (.val (.var 1)) (b_rx 3 5 6 7)) (ch_sl c rr p D x y z w) st = .nx (ch_sl c rr p D x y' z' w') (st.set D (.dic (encD l'))) := by
  refine for_ind (P := fun r => ∃ l' y' z' w', val l' = relR rows (val l) ∧ l'.length ≤ l.length + rows.length ∧ r = .nx (ch_sl c rr p D x y' z' w') (st.set D (.dic (encD l')))) rows.length
    (fun j sl s => ∃ l' y z w, val l' = (rows.take j).foldl rel (val l) ∧ l'.length ≤ l.length + j ∧ sl = ch_sl c rr p D x y z w ∧ s = st.set D (.dic (encD l')))
    (J := .lst rr) (st' := st) (by simp only [Ss_cons, Ss_nil, q_nx, q_rt, q_bk, q_ct, q_xc, evS.eq_1, evS.eq_2, evS.eq_3, evS.eq_5, evS.eq_6, evS.eq_7, evS.eq_8, evS.eq_9, evS.eq_10, evS.eq_11, evS.eq_14, evE.eq_1, evE.eq_2, evE.eq_3, evE.eq_4, evE.eq_5, evE.eq_6, evE.eq_7, evE.eq_8, evE.eq_9, evE.eq_10, evE.eq_11, evE.eq_12, evE.eq_13, evE.eq_14, evE.eq_15, evE.eq_16, evE.eq_17, evE.eq_18, evE.eq_19, evE.eq_20, evE.eq_21, evE.eq_22, evE.eq_23, evEs, evIt, evTg, evTgs, evC, evEo, evKV, R.bind_ok, R.bind_exc, R.thenS_ok, R.thenS_exc, R.ofOpt_some, R.noExc_ok, s_add, s_sub, s_mul, s_div, s_mod, s_addT, s_eq, s_ne, s_lt, s_le, s_gt, s_ge, s_isB, s_isnB, s_isN, s_isnN, s_ixT, s_ixR, s_keyI, s_keyS, s_lenT, s_lenR, s_abs, s_int, s_tupT, s_truRB, s_min2, s_max2, s_repr, s_isi, s_itT, s_itR, s_itZT, s_lenIT, s_lenIR, s_lenIN, s_lenIZ, s_slcT, s_revT, s_alloc, List.getElem?_cons_zero, List.getElem?_cons_succ, List.set_cons_zero, List.set_cons_succ, Option.map_some, Option.bind_some, if_true, and_self, true_and, reduceIte, Bool.not_true, Bool.not_false, Bool.false_eq_true, eqT_int, Tgs.len, List.length_cons, List.length_nil, Nat.zero_add, Nat.reduceAdd, wipeL, decide_true, decide_false, s_itL hr]) (by rw [s_lenIL hr, List.length_map]) ⟨l, y, z, w, rfl, by omega, rfl, (set_self hD).symm⟩ ?_ ?_
  · rintro j sl s hj ⟨l', y, z, w, h1, h2, rfl, rfl⟩
    rcases hh : rows[j] with ⟨a, b, m⟩
    have hx : rows[j]? = some (a, b, m) := by rw [List.getElem?_eq_getElem hj, hh]
    have hr' : (st.set D (.dic (encD l')))[rr]? = some (.lst (rows.map rowT)) := by rw [get_set_ne hne, hr]
    refine ⟨rowT (a, b, m), ch_sl c rr p D x (some (.int a)) (some (.int b)) (some (.int m)), st.set D (.dic (encD l')), by rw [s_getIL hr', List.getElem?_map, hx]; rfl, by simp only [Ss_cons, Ss_nil, q_nx, q_rt, q_bk, q_ct, q_xc, evS.eq_1, evS.eq_2, evS.eq_3, evS.eq_5, evS.eq_6, evS.eq_7, evS.eq_8, evS.eq_9, evS.eq_10, evS.eq_11, evS.eq_14, evE.eq_1, evE.eq_2, evE.eq_3, evE.eq_4, evE.eq_5, evE.eq_6, evE.eq_7, evE.eq_8, evE.eq_9, evE.eq_10, evE.eq_11, evE.eq_12, evE.eq_13, evE.eq_14, evE.eq_15, evE.eq_16, evE.eq_17, evE.eq_18, evE.eq_19, evE.eq_20, evE.eq_21, evE.eq_22, evE.eq_23, evEs, evIt, evTg, evTgs, evC, evEo, evKV, R.bind_ok, R.bind_exc, R.thenS_ok, R.thenS_exc, R.ofOpt_some, R.noExc_ok, s_add, s_sub, s_mul, s_div, s_mod, s_addT, s_eq, s_ne, s_lt, s_le, s_gt, s_ge, s_isB, s_isnB, s_isN, s_isnN, s_ixT, s_ixR, s_keyI, s_keyS, s_lenT, s_lenR, s_abs, s_int, s_tupT, s_truRB, s_min2, s_max2, s_repr, s_isi, s_itT, s_itR, s_itZT, s_lenIT, s_lenIR, s_lenIN, s_lenIZ, s_slcT, s_revT, s_alloc, List.getElem?_cons_zero, List.getElem?_cons_succ, List.set_cons_zero, List.set_cons_succ, Option.map_some, Option.bind_some, if_true, and_self, true_and, reduceIte, Bool.not_true, Bool.not_false, Bool.false_eq_true, eqT_int, Tgs.len, List.length_cons, List.length_nil, Nat.zero_add, Nat.reduceAdd, wipeL, decide_true, decide_false, rowT], ?_⟩
    rw [rx_b (r := (a, b, m)) (l := l') rfl rfl rfl rfl (get_set hD) (by omega), set_set']
    refine ⟨relA l' (a, b, m), _, _, _, ?_, ?_, rfl, rfl⟩
    · rw [val_relA, h1, take_fold hx]
    · have := relA_len l' (a, b, m); omega
  · rintro sl s ⟨l', y, z, w, h1, h2, rfl, rfl⟩
    have hr' : (st.set D (.dic (encD l')))[rr]? = some (.lst (rows.map rowT)) := by rw [get_set_ne hne, hr]
    refine ⟨by rw [s_lenIL hr', List.length_map], l', y, z, w, ?_, h2, rfl⟩
    rw [h1, List.take_length]; rfl
theorem ch_out {cl : Call} {p : Int} {D W : Nat} {e : E} {l : List (Nat × Int)} (hr : st[rr]? = some (.lst (rows.map rowT))) (hD : st[D]? = some (.dic (encD l))) (hne : D ≠ rr) (hl : l.length + W * rows.length < 1000) (hR : W < 1000)
    (he : evE cl G e (ch_sl c rr p D none none none none) st = .ok (.int W) st) :
    ∃ l' x' y' z' w', val l' = relK rows (val l) W ∧
      evS cl G (.for (.nm 4) (.range (.cons e .nil)) (.cons (.for (.tup (.cons (.nm 5) (.cons (.nm 6) (.cons (.nm 7) .nil)))) (.val (.var 1)) (b_rx 3 5 6 7)) .nil)) (ch_sl c rr p D none none none none) st = .nx (ch_sl c rr p D x' y' z' w') (st.set D (.dic (encD l'))) := by
  refine for_ind (P := fun r => ∃ l' x' y' z' w', val l' = relK rows (val l) W ∧ r = .nx (ch_sl c rr p D x' y' z' w') (st.set D (.dic (encD l')))) W
    (fun k sl s => ∃ l' x y z w, val l' = relK rows (val l) k ∧ l'.length ≤ l.length + k * rows.length ∧ sl = ch_sl c rr p D x y z w ∧ s = st.set D (.dic (encD l')))
    (J := .rng 0 W) (st' := st) (it_rng1 he (b62 (by omega) (by omega)) (by omega)) s_lenIN ⟨l, none, none, none, none, rfl, by omega, rfl, (set_self hD).symm⟩ ?_ ?_
  · rintro k sl s hk ⟨l', x, y, z, w, h1, h2, rfl, rfl⟩
    have hr' : (st.set D (.dic (encD l')))[rr]? = some (.lst (rows.map rowT)) := by rw [get_set_ne hne, hr]
    have hmul : (k + 1) * rows.length ≤ W * rows.length := Nat.mul_le_mul_right _ (by omega)
    rw [Nat.succ_mul] at hmul
    obtain ⟨l2, y', z', w', g1, g2, g3⟩ := ch_in (cl := cl) (c := c) (p := p) (x := some (.int k)) (y := y) (z := z) (w := w) hr' (get_set hD) hne (by omega)
    refine ⟨.int k, ch_sl c rr p D (some (.int k)) y z w, st.set D (.dic (encD l')), by rw [s_getIN, if_pos hk, Int.zero_add], by simp only [Ss_cons, Ss_nil, q_nx, q_rt, q_bk, q_ct, q_xc, evS.eq_1, evS.eq_2, evS.eq_3, evS.eq_5, evS.eq_6, evS.eq_7, evS.eq_8, evS.eq_9, evS.eq_10, evS.eq_11, evS.eq_14, evE.eq_1, evE.eq_2, evE.eq_3, evE.eq_4, evE.eq_5, evE.eq_6, evE.eq_7, evE.eq_8, evE.eq_9, evE.eq_10, evE.eq_11, evE.eq_12, evE.eq_13, evE.eq_14, evE.eq_15, evE.eq_16, evE.eq_17, evE.eq_18, evE.eq_19, evE.eq_20, evE.eq_21, evE.eq_22, evE.eq_23, evEs, evIt, evTg, evTgs, evC, evEo, evKV, R.bind_ok, R.bind_exc, R.thenS_ok, R.thenS_exc, R.ofOpt_some, R.noExc_ok, s_add, s_sub, s_mul, s_div, s_mod, s_addT, s_eq, s_ne, s_lt, s_le, s_gt, s_ge, s_isB, s_isnB, s_isN, s_isnN, s_ixT, s_ixR, s_keyI, s_keyS, s_lenT, s_lenR, s_abs, s_int, s_tupT, s_truRB, s_min2, s_max2, s_repr, s_isi, s_itT, s_itR, s_itZT, s_lenIT, s_lenIR, s_lenIN, s_lenIZ, s_slcT, s_revT, s_alloc, List.getElem?_cons_zero, List.getElem?_cons_succ, List.set_cons_zero, List.set_cons_succ, Option.map_some, Option.bind_some, if_true, and_self, true_and, reduceIte, Bool.not_true, Bool.not_false, Bool.false_eq_true, eqT_int, Tgs.len, List.length_cons, List.length_nil, Nat.zero_add, Nat.reduceAdd, wipeL, decide_true, decide_false], ?_⟩
    rw [Ss_cons, g3, q_nx, Ss_nil, set_set']
    exact ⟨l2, _, _, _, _, by rw [g1, h1]; rfl, by rw [Nat.succ_mul]; omega, rfl, rfl⟩
  · rintro sl s ⟨l', x, y, z, w, h1, h2, rfl, rfl⟩
    exact ⟨s_lenIN, l', x, y, z, w, h1, rfl⟩

/-! tg -/
abbrev tg_sl (c rr : Nat) (p q : Int) (D : Nat) (x y z w : Option T) : Sl := [some (.int c), some (.ref rr), some (.int p), some (.int q), some (.ref D), x, y, z, w]
theorem tg_in {cl : Call} {p q : Int} {D : Nat} {l : List (Nat × Int)} {x y z w : Option T} (hr : st[rr]? = some (.lst (rows.map rowT))) (hD : st[D]? = some (.dic (encD l))) (hne : D ≠ rr) (hl : l.length + rows.length < 1000) :
    ∃ l' y' z' w', val l' = relR rows (val l) ∧ l'.length ≤ l.length + rows.length ∧
      evS cl G (.for (.tup (.cons (.nm 6) (.cons (.nm 7) (.cons (.nm 8) .nil)))) (.val (.var 1)) (b_rx 4 6 7 8)) (tg_sl c rr p q D x y z w) st = .nx (tg_sl c rr p q D x y' z' w') (st.set D (.dic (encD l'))) := by
  refine for_ind (P := fun r => ∃ l' y' z' w', val l' = relR rows (val l) ∧ l'.length ≤ l.length + rows.length ∧ r = .nx (tg_sl c rr p q D x y' z' w') (st.set D (.dic (encD l')))) rows.length
    (fun j sl s => ∃ l' y z w, val l' = (rows.take j).foldl rel (val l) ∧ l'.length ≤ l.length + j ∧ sl = tg_sl c rr p q D x y z w ∧ s = st.set D (.dic (encD l')))
    (J := .lst rr) (st' := st) (by simp only [Ss_cons, Ss_nil, q_nx, q_rt, q_bk, q_ct, q_xc, evS.eq_1, evS.eq_2, evS.eq_3, evS.eq_5, evS.eq_6, evS.eq_7, evS.eq_8, evS.eq_9, evS.eq_10, evS.eq_11, evS.eq_14, evE.eq_1, evE.eq_2, evE.eq_3, evE.eq_4, evE.eq_5, evE.eq_6, evE.eq_7, evE.eq_8, evE.eq_9, evE.eq_10, evE.eq_11, evE.eq_12, evE.eq_13, evE.eq_14, evE.eq_15, evE.eq_16, evE.eq_17, evE.eq_18, evE.eq_19, evE.eq_20, evE.eq_21, evE.eq_22, evE.eq_23, evEs, evIt, evTg, evTgs, evC, evEo, evKV, R.bind_ok, R.bind_exc, R.thenS_ok, R.thenS_exc, R.ofOpt_some, R.noExc_ok, s_add, s_sub, s_mul, s_div, s_mod, s_addT, s_eq, s_ne, s_lt, s_le, s_gt, s_ge, s_isB, s_isnB, s_isN, s_isnN, s_ixT, s_ixR, s_keyI, s_keyS, s_lenT, s_lenR, s_abs, s_int, s_tupT, s_truRB, s_min2, s_max2, s_repr, s_isi, s_itT, s_itR, s_itZT, s_lenIT, s_lenIR, s_lenIN, s_lenIZ, s_slcT, s_revT, s_alloc, List.getElem?_cons_zero, List.getElem?_cons_succ, List.set_cons_zero, List.set_cons_succ, Option.map_some, Option.bind_some, if_true, and_self, true_and, reduceIte, Bool.not_true, Bool.not_false, Bool.false_eq_true, eqT_int, Tgs.len, List.length_cons, List.length_nil, Nat.zero_add, Nat.reduceAdd, wipeL, decide_true, decide_false, s_itL hr]) (by rw [s_lenIL hr, List.length_map]) ⟨l, y, z, w, rfl, by omega, rfl, (set_self hD).symm⟩ ?_ ?_
  · rintro j sl s hj ⟨l', y, z, w, h1, h2, rfl, rfl⟩
    rcases hh : rows[j] with ⟨a, b, m⟩
    have hx : rows[j]? = some (a, b, m) := by rw [List.getElem?_eq_getElem hj, hh]
    have hr' : (st.set D (.dic (encD l')))[rr]? = some (.lst (rows.map rowT)) := by rw [get_set_ne hne, hr]
    refine ⟨rowT (a, b, m), tg_sl c rr p q D x (some (.int a)) (some (.int b)) (some (.int m)), st.set D (.dic (encD l')), by rw [s_getIL hr', List.getElem?_map, hx]; rfl, by simp only [Ss_cons, Ss_nil, q_nx, q_rt, q_bk, q_ct, q_xc, evS.eq_1, evS.eq_2, evS.eq_3, evS.eq_5, evS.eq_6, evS.eq_7, evS.eq_8, evS.eq_9, evS.eq_10, evS.eq_11, evS.eq_14, evE.eq_1, evE.eq_2, evE.eq_3, evE.eq_4, evE.eq_5, evE.eq_6, evE.eq_7, evE.eq_8, evE.eq_9, evE.eq_10, evE.eq_11, evE.eq_12, evE.eq_13, evE.eq_14, evE.eq_15, evE.eq_16, evE.eq_17, evE.eq_18, evE.eq_19, evE.eq_20, evE.eq_21, evE.eq_22, evE.eq_23, evEs, evIt, evTg, evTgs, evC, evEo, evKV, R.bind_ok, R.bind_exc, R.thenS_ok, R.thenS_exc, R.ofOpt_some, R.noExc_ok, s_add, s_sub, s_mul, s_div, s_mod, s_addT, s_eq, s_ne, s_lt, s_le, s_gt, s_ge, s_isB, s_isnB, s_isN, s_isnN, s_ixT, s_ixR, s_keyI, s_keyS, s_lenT, s_lenR, s_abs, s_int, s_tupT, s_truRB, s_min2, s_max2, s_repr, s_isi, s_itT, s_itR, s_itZT, s_lenIT, s_lenIR, s_lenIN, s_lenIZ, s_slcT, s_revT, s_alloc, List.getElem?_cons_zero, List.getElem?_cons_succ, List.set_cons_zero, List.set_cons_succ, Option.map_some, Option.bind_some, if_true, and_self, true_and, reduceIte, Bool.not_true, Bool.not_false, Bool.false_eq_true, eqT_int, Tgs.len, List.length_cons, List.length_nil, Nat.zero_add, Nat.reduceAdd, wipeL, decide_true, decide_false, rowT], ?_⟩
    rw [rx_b (r := (a, b, m)) (l := l') rfl rfl rfl rfl (get_set hD) (by omega), set_set']
    refine ⟨relA l' (a, b, m), _, _, _, ?_, ?_, rfl, rfl⟩
    · rw [val_relA, h1, take_fold hx]
    · have := relA_len l' (a, b, m); omega
  · rintro sl s ⟨l', y, z, w, h1, h2, rfl, rfl⟩
    have hr' : (st.set D (.dic (encD l')))[rr]? = some (.lst (rows.map rowT)) := by rw [get_set_ne hne, hr]
    refine ⟨by rw [s_lenIL hr', List.length_map], l', y, z, w, ?_, h2, rfl⟩
    rw [h1, List.take_length]; rfl
theorem tg_out {cl : Call} {p q : Int} {D W : Nat} {e : E} {l : List (Nat × Int)} (hr : st[rr]? = some (.lst (rows.map rowT))) (hD : st[D]? = some (.dic (encD l))) (hne : D ≠ rr) (hl : l.length + W * rows.length < 1000) (hR : W < 1000)
    (he : evE cl G e (tg_sl c rr p q D none none none none) st = .ok (.int W) st) :
    ∃ l' x' y' z' w', val l' = relK rows (val l) W ∧
      evS cl G (.for (.nm 5) (.range (.cons e .nil)) (.cons (.for (.tup (.cons (.nm 6) (.cons (.nm 7) (.cons (.nm 8) .nil)))) (.val (.var 1)) (b_rx 4 6 7 8)) .nil)) (tg_sl c rr p q D none none none none) st = .nx (tg_sl c rr p q D x' y' z' w') (st.set D (.dic (encD l'))) := by
  refine for_ind (P := fun r => ∃ l' x' y' z' w', val l' = relK rows (val l) W ∧ r = .nx (tg_sl c rr p q D x' y' z' w') (st.set D (.dic (encD l')))) W
    (fun k sl s => ∃ l' x y z w, val l' = relK rows (val l) k ∧ l'.length ≤ l.length + k * rows.length ∧ sl = tg_sl c rr p q D x y z w ∧ s = st.set D (.dic (encD l')))
    (J := .rng 0 W) (st' := st) (it_rng1 he (b62 (by omega) (by omega)) (by omega)) s_lenIN ⟨l, none, none, none, none, rfl, by omega, rfl, (set_self hD).symm⟩ ?_ ?_
  · rintro k sl s hk ⟨l', x, y, z, w, h1, h2, rfl, rfl⟩
    have hr' : (st.set D (.dic (encD l')))[rr]? = some (.lst (rows.map rowT)) := by rw [get_set_ne hne, hr]
    have hmul : (k + 1) * rows.length ≤ W * rows.length := Nat.mul_le_mul_right _ (by omega)
    rw [Nat.succ_mul] at hmul
    obtain ⟨l2, y', z', w', g1, g2, g3⟩ := tg_in (cl := cl) (c := c) (p := p) (q := q) (x := some (.int k)) (y := y) (z := z) (w := w) hr' (get_set hD) hne (by omega)
    refine ⟨.int k, tg_sl c rr p q D (some (.int k)) y z w, st.set D (.dic (encD l')), by rw [s_getIN, if_pos hk, Int.zero_add], by simp only [Ss_cons, Ss_nil, q_nx, q_rt, q_bk, q_ct, q_xc, evS.eq_1, evS.eq_2, evS.eq_3, evS.eq_5, evS.eq_6, evS.eq_7, evS.eq_8, evS.eq_9, evS.eq_10, evS.eq_11, evS.eq_14, evE.eq_1, evE.eq_2, evE.eq_3, evE.eq_4, evE.eq_5, evE.eq_6, evE.eq_7, evE.eq_8, evE.eq_9, evE.eq_10, evE.eq_11, evE.eq_12, evE.eq_13, evE.eq_14, evE.eq_15, evE.eq_16, evE.eq_17, evE.eq_18, evE.eq_19, evE.eq_20, evE.eq_21, evE.eq_22, evE.eq_23, evEs, evIt, evTg, evTgs, evC, evEo, evKV, R.bind_ok, R.bind_exc, R.thenS_ok, R.thenS_exc, R.ofOpt_some, R.noExc_ok, s_add, s_sub, s_mul, s_div, s_mod, s_addT, s_eq, s_ne, s_lt, s_le, s_gt, s_ge, s_isB, s_isnB, s_isN, s_isnN, s_ixT, s_ixR, s_keyI, s_keyS, s_lenT, s_lenR, s_abs, s_int, s_tupT, s_truRB, s_min2, s_max2, s_repr, s_isi, s_itT, s_itR, s_itZT, s_lenIT, s_lenIR, s_lenIN, s_lenIZ, s_slcT, s_revT, s_alloc, List.getElem?_cons_zero, List.getElem?_cons_succ, List.set_cons_zero, List.set_cons_succ, Option.map_some, Option.bind_some, if_true, and_self, true_and, reduceIte, Bool.not_true, Bool.not_false, Bool.false_eq_true, eqT_int, Tgs.len, List.length_cons, List.length_nil, Nat.zero_add, Nat.reduceAdd, wipeL, decide_true, decide_false], ?_⟩
    rw [Ss_cons, g3, q_nx, Ss_nil, set_set']
    exact ⟨l2, _, _, _, _, by rw [g1, h1]; rfl, by rw [Nat.succ_mul]; omega, rfl, rfl⟩
  · rintro sl s ⟨l', x, y, z, w, h1, h2, rfl, rfl⟩
    exact ⟨s_lenIN, l', x, y, z, w, h1, rfl⟩

end Lw

end

section
set_option Elab.async false
set_option linter.all false
set_option maxRecDepth 100000
set_option maxHeartbeats 4000000
set_option autoImplicit false
namespace Lw
open PF PySem Df
variable {N c rr : Nat} {rows : List Row} {st : Store}
theorem is_13 : IsFn f__law_is_refused 4 4 b__law_is_refused := ⟨rfl, rfl, rfl, rfl⟩
theorem val_one (b : Nat) : val [(b, 0)] = s0 b := by
  funext i
  unfold val s0
  by_cases h : i = b
  · subst h; simp
  · have : (i == b) = false := by simpa using h
    simp [List.lookup, this, h]
theorem encD_lim (n : Nat) (l : List (Nat × Int)) : (Cell.dic (encD l)).lim n = true := by
  unfold encD
  simp only [Cell.lim, List.all_map, List.all_eq_true]
  intro p _; rfl
theorem chains_spec {b : Nat} (hr : st[rr]? = some (.lst (rows.map rowT))) (hs : Cls st) (hc : c ≤ 12) (hl : rows.length ≤ 10) :
    ∃ l, val l = relK rows (s0 b) (c + 1) ∧ run fns G (N + 1) 12 [.int c, .ref rr, .int b] st = .ok (.ref st.length) (st ++ [Cell.dic (encD l)]) := by
  rw [run_as fn_12 is_12 [some (.int c), some (.ref rr), some (.int b), none, none, none, none, none] rfl rfl]
  have hb : b__law_chains = (.cons (.asg (.nm 3) (.dct (.cons (.var 2) (.cst (.int 0)) .nil)))
    (.cons (.for (.nm 4) (.range (.cons (.bin .Add (.var 0) (.cst (.int 1))) .nil)) (.cons (.for (.tup (.cons (.nm 5) (.cons (.nm 6) (.cons (.nm 7) .nil)))) (.val (.var 1)) (b_rx 3 5 6 7)) .nil)) (.cons (.ret (.var 3)) .nil))) := rfl
  rw [hb]
  have hd : dPut (.int b) (.int 0) [] = encD [(b, 0)] := rfl
  have hne : st.length ≠ rr := by have := lt_of_get hr; omega
  have hw : (c + 1) * rows.length ≤ 13 * 10 := Nat.mul_le_mul (by omega) hl
  have hq : (([(T.int b, T.int 0)] : List (T × T)).length ≤ 15) = True := eq_true (by simp)
  have e1 : evS (run fns G N) G (.asg (.nm 3) (.dct (.cons (.var 2) (.cst (.int 0)) .nil))) [some (.int c), some (.ref rr), some (.int b), none, none, none, none, none] st =
      .nx (ch_sl c rr b st.length none none none none) (st ++ [Cell.dic (encD [(b, 0)])]) := by
    simp only [Ss_cons, Ss_nil, q_nx, q_rt, q_bk, q_ct, q_xc, evS.eq_1, evS.eq_2, evS.eq_3, evS.eq_5, evS.eq_6, evS.eq_7, evS.eq_8, evS.eq_9, evS.eq_10, evS.eq_11, evS.eq_14, evE.eq_1, evE.eq_2, evE.eq_3, evE.eq_4, evE.eq_5, evE.eq_6, evE.eq_7, evE.eq_8, evE.eq_9, evE.eq_10, evE.eq_11, evE.eq_12, evE.eq_13, evE.eq_14, evE.eq_15, evE.eq_16, evE.eq_17, evE.eq_18, evE.eq_19, evE.eq_20, evE.eq_21, evE.eq_22, evE.eq_23, evEs, evIt, evTg, evTgs, evC, evEo, evKV, R.bind_ok, R.bind_exc, R.thenS_ok, R.thenS_exc, R.ofOpt_some, R.noExc_ok, s_add, s_sub, s_mul, s_div, s_mod, s_addT, s_eq, s_ne, s_lt, s_le, s_gt, s_ge, s_isB, s_isnB, s_isN, s_isnN, s_ixT, s_ixR, s_keyI, s_keyS, s_lenT, s_lenR, s_abs, s_int, s_tupT, s_truRB, s_min2, s_max2, s_repr, s_isi, s_itT, s_itR, s_itZT, s_lenIT, s_lenIR, s_lenIN, s_lenIZ, s_slcT, s_revT, s_alloc, List.getElem?_cons_zero, List.getElem?_cons_succ, List.set_cons_zero, List.set_cons_succ, Option.map_some, Option.bind_some, if_true, and_self, true_and, reduceIte, Bool.not_true, Bool.not_false, Bool.false_eq_true, eqT_int, Tgs.len, List.length_cons, List.length_nil, Nat.zero_add, Nat.reduceAdd, wipeL, decide_true, decide_false, get_new, List.foldl_cons, List.foldl_nil, hd, set_new]
    rfl
  obtain ⟨l', x', y', z', w', g1, g2⟩ := ch_out (cl := run fns G N) (c := c) (p := (b : Int)) (D := st.length) (W := c + 1) (e := .bin .Add (.var 0) (.cst (.int 1))) (l := [(b, 0)])
    (get_app hr) get_new hne (by simp only [List.length_cons, List.length_nil]; omega) (by omega) (by
      have : ((c + 1 : Nat) : Int) = c + 1 := by omega
      rw [this]; simp only [Ss_cons, Ss_nil, q_nx, q_rt, q_bk, q_ct, q_xc, evS.eq_1, evS.eq_2, evS.eq_3, evS.eq_5, evS.eq_6, evS.eq_7, evS.eq_8, evS.eq_9, evS.eq_10, evS.eq_11, evS.eq_14, evE.eq_1, evE.eq_2, evE.eq_3, evE.eq_4, evE.eq_5, evE.eq_6, evE.eq_7, evE.eq_8, evE.eq_9, evE.eq_10, evE.eq_11, evE.eq_12, evE.eq_13, evE.eq_14, evE.eq_15, evE.eq_16, evE.eq_17, evE.eq_18, evE.eq_19, evE.eq_20, evE.eq_21, evE.eq_22, evE.eq_23, evEs, evIt, evTg, evTgs, evC, evEo, evKV, R.bind_ok, R.bind_exc, R.thenS_ok, R.thenS_exc, R.ofOpt_some, R.noExc_ok, s_add, s_sub, s_mul, s_div, s_mod, s_addT, s_eq, s_ne, s_lt, s_le, s_gt, s_ge, s_isB, s_isnB, s_isN, s_isnN, s_ixT, s_ixR, s_keyI, s_keyS, s_lenT, s_lenR, s_abs, s_int, s_tupT, s_truRB, s_min2, s_max2, s_repr, s_isi, s_itT, s_itR, s_itZT, s_lenIT, s_lenIR, s_lenIN, s_lenIZ, s_slcT, s_revT, s_alloc, List.getElem?_cons_zero, List.getElem?_cons_succ, List.set_cons_zero, List.set_cons_succ, Option.map_some, Option.bind_some, if_true, and_self, true_and, reduceIte, Bool.not_true, Bool.not_false, Bool.false_eq_true, eqT_int, Tgs.len, List.length_cons, List.length_nil, Nat.zero_add, Nat.reduceAdd, wipeL, decide_true, decide_false])
  refine ⟨l', by rw [g1, val_one], ?_⟩
  rw [Ss_cons, e1, q_nx, Ss_cons, g2, q_nx, set_new]
  simp only [Ss_cons, Ss_nil, q_nx, q_rt, q_bk, q_ct, q_xc, evS.eq_1, evS.eq_2, evS.eq_3, evS.eq_5, evS.eq_6, evS.eq_7, evS.eq_8, evS.eq_9, evS.eq_10, evS.eq_11, evS.eq_14, evE.eq_1, evE.eq_2, evE.eq_3, evE.eq_4, evE.eq_5, evE.eq_6, evE.eq_7, evE.eq_8, evE.eq_9, evE.eq_10, evE.eq_11, evE.eq_12, evE.eq_13, evE.eq_14, evE.eq_15, evE.eq_16, evE.eq_17, evE.eq_18, evE.eq_19, evE.eq_20, evE.eq_21, evE.eq_22, evE.eq_23, evEs, evIt, evTg, evTgs, evC, evEo, evKV, R.bind_ok, R.bind_exc, R.thenS_ok, R.thenS_exc, R.ofOpt_some, R.noExc_ok, s_add, s_sub, s_mul, s_div, s_mod, s_addT, s_eq, s_ne, s_lt, s_le, s_gt, s_ge, s_isB, s_isnB, s_isN, s_isnN, s_ixT, s_ixR, s_keyI, s_keyS, s_lenT, s_lenR, s_abs, s_int, s_tupT, s_truRB, s_min2, s_max2, s_repr, s_isi, s_itT, s_itR, s_itZT, s_lenIT, s_lenIR, s_lenIN, s_lenIZ, s_slcT, s_revT, s_alloc, List.getElem?_cons_zero, List.getElem?_cons_succ, List.set_cons_zero, List.set_cons_succ, Option.map_some, Option.bind_some, if_true, and_self, true_and, reduceIte, Bool.not_true, Bool.not_false, Bool.false_eq_true, eqT_int, Tgs.len, List.length_cons, List.length_nil, Nat.zero_add, Nat.reduceAdd, wipeL, decide_true, decide_false]
  rw [r_rt, gc_new hs (List.take_left' rfl) (Nat.le_refl _) get_new (encD_lim _ _)]

theorem eqT_str {x y : Str} : eqT st (.str x) (.str y) = some (decide (x = y)) := by
  simp [eqT, resD, toD, PyData.depth, PyData.eqv]
  rfl
theorem good_feas {vl : List Int} (ho : Okay c rows) (h : Good c rows vl) : Feas rows (fun a => vl.getD a 0) := by
  intro i a b m hi
  obtain ⟨ha, hb⟩ := ho.ok _ _ _ _ hi
  have hb' : vl[b]? = some (vl.getD b 0) := by rw [List.getD_eq_getElem?_getD, List.getElem?_eq_getElem (by rw [h.1]; exact hb)]; rfl
  obtain ⟨x, hx, hle⟩ := h.2.1 i a b m hi _ hb'
  simp only at hx
  show vl.getD a 0 ≤ vl.getD b 0 + m
  rw [List.getD_eq_getElem?_getD, hx]
  exact hle
def optT : Option Int → T
  | none => .non
  | some x => .int x
theorem vc_ne : decide (s_values = s_circle) = false := by decide
theorem cc_eq : decide (s_circle = s_circle) = true := by decide
theorem tight_circ {a b : T} (hc : 1 ≤ c ∧ c ≤ 12) (ho : Okay c rows) (hr : st[rr]? = some (.lst (rows.map rowT))) (hs : Cls st) (hn : ∀ u, ¬ Feas rows u) :
    run fns G (N + 3) 4 [.int c, .ref rr, a, b] st = .exc ⟨1, []⟩ st := by
  rw [run_as fn_4 is_4 [some (.int c), some (.ref rr), some a, some b, none, none, none, none, none] rfl rfl]
  obtain ⟨v, h1, h2, _⟩ := dif_spec (N := N) hc ho hr hs
  rcases h2 with ⟨vl, rfl, hg⟩ | ⟨q, rfl, _⟩
  · exact absurd (good_feas ho hg) (hn _)
  · unfold b_tightest
    simp only [Ss_cons, Ss_nil, q_nx, q_rt, q_bk, q_ct, q_xc, evS.eq_1, evS.eq_2, evS.eq_3, evS.eq_5, evS.eq_6, evS.eq_7, evS.eq_8, evS.eq_9, evS.eq_10, evS.eq_11, evS.eq_14, evE.eq_1, evE.eq_2, evE.eq_3, evE.eq_4, evE.eq_5, evE.eq_6, evE.eq_7, evE.eq_8, evE.eq_9, evE.eq_10, evE.eq_11, evE.eq_12, evE.eq_13, evE.eq_14, evE.eq_15, evE.eq_16, evE.eq_17, evE.eq_18, evE.eq_19, evE.eq_20, evE.eq_21, evE.eq_22, evE.eq_23, evEs, evIt, evTg, evTgs, evC, evEo, evKV, R.bind_ok, R.bind_exc, R.thenS_ok, R.thenS_exc, R.ofOpt_some, R.noExc_ok, s_add, s_sub, s_mul, s_div, s_mod, s_addT, s_eq, s_ne, s_lt, s_le, s_gt, s_ge, s_isB, s_isnB, s_isN, s_isnN, s_ixT, s_ixR, s_keyI, s_keyS, s_lenT, s_lenR, s_abs, s_int, s_tupT, s_truRB, s_min2, s_max2, s_repr, s_isi, s_itT, s_itR, s_itZT, s_lenIT, s_lenIR, s_lenIN, s_lenIZ, s_slcT, s_revT, s_alloc, List.getElem?_cons_zero, List.getElem?_cons_succ, List.set_cons_zero, List.set_cons_succ, Option.map_some, Option.bind_some, if_true, and_self, true_and, reduceIte, Bool.not_true, Bool.not_false, Bool.false_eq_true, eqT_int, Tgs.len, List.length_cons, List.length_nil, Nat.zero_add, Nat.reduceAdd, wipeL, decide_true, decide_false, check_ok (N := N + 1) hc ho hr hs, h1, ix2_0, eqT_str, cc_eq]
    rw [r_xc, gc_exc hs List.take_length]
theorem tight_spec {p q : Nat} (hc : 1 ≤ c ∧ c ≤ 12) (ho : Okay c rows) (hr : st[rr]? = some (.lst (rows.map rowT))) (hs : Cls st) (hl : rows.length ≤ 10) (hf : ∃ u, Feas rows u) (hp : p < c) (hq : q < c) :
    run fns G (N + 3) 4 [.int c, .ref rr, .int p, .int q] st = .ok (optT (relK rows (s0 q) c p)) st := by
  rw [run_as fn_4 is_4 [some (.int c), some (.ref rr), some (.int p), some (.int q), none, none, none, none, none] rfl rfl]
  obtain ⟨v, h1, h2, _⟩ := dif_spec (N := N) hc ho hr hs
  rcases h2 with ⟨vl, rfl, hg⟩ | ⟨q', rfl, _, _, hn⟩
  · have hb : b_tightest = (.cons (.expr (.call 0 (.cons (.var 0) (.cons (.var 1) .nil))))
      (.cons (.ifS (.cmp .Eq (.ix (.call 1 (.cons (.var 0) (.cons (.var 1) .nil))) (.cst (.int 0))) (.cst (.str s_circle))) (.cons (.raise 1 .nil)
      .nil) .nil)
      (.cons (.ifS (.or (.not (.chn .LtE .Lt (.cst (.int 0)) (.var 2) (.var 0))) (.not (.chn .LtE .Lt (.cst (.int 0)) (.var 3) (.var 0)))) (.cons (.raise 1 .nil)
      .nil) .nil)
      (.cons (.asg (.nm 4) (.dct (.cons (.var 3) (.cst (.int 0)) .nil)))
      (.cons (.for (.nm 5) (.range (.cons (.var 0) .nil)) (.cons (.for (.tup (.cons (.nm 6) (.cons (.nm 7) (.cons (.nm 8) .nil)))) (.val (.var 1)) (b_rx 4 6 7 8)) .nil))
      (.cons (.ret (.mcall .get (.var 4) (.cons (.var 2) .nil))) .nil)))))) := rfl
    rw [hb]
    have d1 : decide ((0 : Int) ≤ p) = true := b_decT (by omega)
    have d2 : decide ((p : Int) < c) = true := b_decT (by omega)
    have d3 : decide ((0 : Int) ≤ q) = true := b_decT (by omega)
    have d4 : decide ((q : Int) < c) = true := b_decT (by omega)
    have hd : dPut (.int q) (.int 0) [] = encD [(q, 0)] := rfl
    have hne : st.length ≠ rr := by have := lt_of_get hr; omega
    have hw : c * rows.length ≤ 12 * 10 := Nat.mul_le_mul (by omega) hl
    obtain ⟨l', x', y', z', w', g1, g2⟩ := tg_out (cl := run fns G (N + 2)) (c := c) (p := (p : Int)) (q := (q : Int)) (D := st.length) (W := c) (e := .var 0) (l := [(q, 0)])
      (get_app hr) get_new hne (by simp only [List.length_cons, List.length_nil]; omega) (by omega) (by simp only [Ss_cons, Ss_nil, q_nx, q_rt, q_bk, q_ct, q_xc, evS.eq_1, evS.eq_2, evS.eq_3, evS.eq_5, evS.eq_6, evS.eq_7, evS.eq_8, evS.eq_9, evS.eq_10, evS.eq_11, evS.eq_14, evE.eq_1, evE.eq_2, evE.eq_3, evE.eq_4, evE.eq_5, evE.eq_6, evE.eq_7, evE.eq_8, evE.eq_9, evE.eq_10, evE.eq_11, evE.eq_12, evE.eq_13, evE.eq_14, evE.eq_15, evE.eq_16, evE.eq_17, evE.eq_18, evE.eq_19, evE.eq_20, evE.eq_21, evE.eq_22, evE.eq_23, evEs, evIt, evTg, evTgs, evC, evEo, evKV, R.bind_ok, R.bind_exc, R.thenS_ok, R.thenS_exc, R.ofOpt_some, R.noExc_ok, s_add, s_sub, s_mul, s_div, s_mod, s_addT, s_eq, s_ne, s_lt, s_le, s_gt, s_ge, s_isB, s_isnB, s_isN, s_isnN, s_ixT, s_ixR, s_keyI, s_keyS, s_lenT, s_lenR, s_abs, s_int, s_tupT, s_truRB, s_min2, s_max2, s_repr, s_isi, s_itT, s_itR, s_itZT, s_lenIT, s_lenIR, s_lenIN, s_lenIZ, s_slcT, s_revT, s_alloc, List.getElem?_cons_zero, List.getElem?_cons_succ, List.set_cons_zero, List.set_cons_succ, Option.map_some, Option.bind_some, if_true, and_self, true_and, reduceIte, Bool.not_true, Bool.not_false, Bool.false_eq_true, eqT_int, Tgs.len, List.length_cons, List.length_nil, Nat.zero_add, Nat.reduceAdd, wipeL, decide_true, decide_false])
    have e1 : evS (run fns G (N + 2)) G (.asg (.nm 4) (.dct (.cons (.var 3) (.cst (.int 0)) .nil))) [some (.int c), some (.ref rr), some (.int p), some (.int q), none, none, none, none, none] st =
        .nx (tg_sl c rr p q st.length none none none none) (st ++ [Cell.dic (encD [(q, 0)])]) := by
      simp only [Ss_cons, Ss_nil, q_nx, q_rt, q_bk, q_ct, q_xc, evS.eq_1, evS.eq_2, evS.eq_3, evS.eq_5, evS.eq_6, evS.eq_7, evS.eq_8, evS.eq_9, evS.eq_10, evS.eq_11, evS.eq_14, evE.eq_1, evE.eq_2, evE.eq_3, evE.eq_4, evE.eq_5, evE.eq_6, evE.eq_7, evE.eq_8, evE.eq_9, evE.eq_10, evE.eq_11, evE.eq_12, evE.eq_13, evE.eq_14, evE.eq_15, evE.eq_16, evE.eq_17, evE.eq_18, evE.eq_19, evE.eq_20, evE.eq_21, evE.eq_22, evE.eq_23, evEs, evIt, evTg, evTgs, evC, evEo, evKV, R.bind_ok, R.bind_exc, R.thenS_ok, R.thenS_exc, R.ofOpt_some, R.noExc_ok, s_add, s_sub, s_mul, s_div, s_mod, s_addT, s_eq, s_ne, s_lt, s_le, s_gt, s_ge, s_isB, s_isnB, s_isN, s_isnN, s_ixT, s_ixR, s_keyI, s_keyS, s_lenT, s_lenR, s_abs, s_int, s_tupT, s_truRB, s_min2, s_max2, s_repr, s_isi, s_itT, s_itR, s_itZT, s_lenIT, s_lenIR, s_lenIN, s_lenIZ, s_slcT, s_revT, s_alloc, List.getElem?_cons_zero, List.getElem?_cons_succ, List.set_cons_zero, List.set_cons_succ, Option.map_some, Option.bind_some, if_true, and_self, true_and, reduceIte, Bool.not_true, Bool.not_false, Bool.false_eq_true, eqT_int, Tgs.len, List.length_cons, List.length_nil, Nat.zero_add, Nat.reduceAdd, wipeL, decide_true, decide_false, get_new, List.foldl_cons, List.foldl_nil, hd, set_new]
      rfl
    have s1 : evS (run fns G (N + 2)) G (.expr (.call 0 (.cons (.var 0) (.cons (.var 1) .nil)))) [some (.int c), some (.ref rr), some (.int p), some (.int q), none, none, none, none, none] st = .nx [some (.int c), some (.ref rr), some (.int p), some (.int q), none, none, none, none, none] st := by
      simp only [Ss_cons, Ss_nil, q_nx, q_rt, q_bk, q_ct, q_xc, evS.eq_1, evS.eq_2, evS.eq_3, evS.eq_5, evS.eq_6, evS.eq_7, evS.eq_8, evS.eq_9, evS.eq_10, evS.eq_11, evS.eq_14, evE.eq_1, evE.eq_2, evE.eq_3, evE.eq_4, evE.eq_5, evE.eq_6, evE.eq_7, evE.eq_8, evE.eq_9, evE.eq_10, evE.eq_11, evE.eq_12, evE.eq_13, evE.eq_14, evE.eq_15, evE.eq_16, evE.eq_17, evE.eq_18, evE.eq_19, evE.eq_20, evE.eq_21, evE.eq_22, evE.eq_23, evEs, evIt, evTg, evTgs, evC, evEo, evKV, R.bind_ok, R.bind_exc, R.thenS_ok, R.thenS_exc, R.ofOpt_some, R.noExc_ok, s_add, s_sub, s_mul, s_div, s_mod, s_addT, s_eq, s_ne, s_lt, s_le, s_gt, s_ge, s_isB, s_isnB, s_isN, s_isnN, s_ixT, s_ixR, s_keyI, s_keyS, s_lenT, s_lenR, s_abs, s_int, s_tupT, s_truRB, s_min2, s_max2, s_repr, s_isi, s_itT, s_itR, s_itZT, s_lenIT, s_lenIR, s_lenIN, s_lenIZ, s_slcT, s_revT, s_alloc, List.getElem?_cons_zero, List.getElem?_cons_succ, List.set_cons_zero, List.set_cons_succ, Option.map_some, Option.bind_some, if_true, and_self, true_and, reduceIte, Bool.not_true, Bool.not_false, Bool.false_eq_true, eqT_int, Tgs.len, List.length_cons, List.length_nil, Nat.zero_add, Nat.reduceAdd, wipeL, decide_true, decide_false, check_ok (N := N + 1) hc ho hr hs]
    have s2 : evS (run fns G (N + 2)) G (.ifS (.cmp .Eq (.ix (.call 1 (.cons (.var 0) (.cons (.var 1) .nil))) (.cst (.int 0))) (.cst (.str s_circle))) (.cons (.raise 1 .nil) .nil) .nil) [some (.int c), some (.ref rr), some (.int p), some (.int q), none, none, none, none, none] st = .nx [some (.int c), some (.ref rr), some (.int p), some (.int q), none, none, none, none, none] st := by
      simp only [Ss_cons, Ss_nil, q_nx, q_rt, q_bk, q_ct, q_xc, evS.eq_1, evS.eq_2, evS.eq_3, evS.eq_5, evS.eq_6, evS.eq_7, evS.eq_8, evS.eq_9, evS.eq_10, evS.eq_11, evS.eq_14, evE.eq_1, evE.eq_2, evE.eq_3, evE.eq_4, evE.eq_5, evE.eq_6, evE.eq_7, evE.eq_8, evE.eq_9, evE.eq_10, evE.eq_11, evE.eq_12, evE.eq_13, evE.eq_14, evE.eq_15, evE.eq_16, evE.eq_17, evE.eq_18, evE.eq_19, evE.eq_20, evE.eq_21, evE.eq_22, evE.eq_23, evEs, evIt, evTg, evTgs, evC, evEo, evKV, R.bind_ok, R.bind_exc, R.thenS_ok, R.thenS_exc, R.ofOpt_some, R.noExc_ok, s_add, s_sub, s_mul, s_div, s_mod, s_addT, s_eq, s_ne, s_lt, s_le, s_gt, s_ge, s_isB, s_isnB, s_isN, s_isnN, s_ixT, s_ixR, s_keyI, s_keyS, s_lenT, s_lenR, s_abs, s_int, s_tupT, s_truRB, s_min2, s_max2, s_repr, s_isi, s_itT, s_itR, s_itZT, s_lenIT, s_lenIR, s_lenIN, s_lenIZ, s_slcT, s_revT, s_alloc, List.getElem?_cons_zero, List.getElem?_cons_succ, List.set_cons_zero, List.set_cons_succ, Option.map_some, Option.bind_some, if_true, and_self, true_and, reduceIte, Bool.not_true, Bool.not_false, Bool.false_eq_true, eqT_int, Tgs.len, List.length_cons, List.length_nil, Nat.zero_add, Nat.reduceAdd, wipeL, decide_true, decide_false, h1, ix2_0, eqT_str, vc_ne]
    have s3 : evS (run fns G (N + 2)) G (.ifS (.or (.not (.chn .LtE .Lt (.cst (.int 0)) (.var 2) (.var 0))) (.not (.chn .LtE .Lt (.cst (.int 0)) (.var 3) (.var 0)))) (.cons (.raise 1 .nil) .nil) .nil) [some (.int c), some (.ref rr), some (.int p), some (.int q), none, none, none, none, none] st = .nx [some (.int c), some (.ref rr), some (.int p), some (.int q), none, none, none, none, none] st := by
      simp only [Ss_cons, Ss_nil, q_nx, q_rt, q_bk, q_ct, q_xc, evS.eq_1, evS.eq_2, evS.eq_3, evS.eq_5, evS.eq_6, evS.eq_7, evS.eq_8, evS.eq_9, evS.eq_10, evS.eq_11, evS.eq_14, evE.eq_1, evE.eq_2, evE.eq_3, evE.eq_4, evE.eq_5, evE.eq_6, evE.eq_7, evE.eq_8, evE.eq_9, evE.eq_10, evE.eq_11, evE.eq_12, evE.eq_13, evE.eq_14, evE.eq_15, evE.eq_16, evE.eq_17, evE.eq_18, evE.eq_19, evE.eq_20, evE.eq_21, evE.eq_22, evE.eq_23, evEs, evIt, evTg, evTgs, evC, evEo, evKV, R.bind_ok, R.bind_exc, R.thenS_ok, R.thenS_exc, R.ofOpt_some, R.noExc_ok, s_add, s_sub, s_mul, s_div, s_mod, s_addT, s_eq, s_ne, s_lt, s_le, s_gt, s_ge, s_isB, s_isnB, s_isN, s_isnN, s_ixT, s_ixR, s_keyI, s_keyS, s_lenT, s_lenR, s_abs, s_int, s_tupT, s_truRB, s_min2, s_max2, s_repr, s_isi, s_itT, s_itR, s_itZT, s_lenIT, s_lenIR, s_lenIN, s_lenIZ, s_slcT, s_revT, s_alloc, List.getElem?_cons_zero, List.getElem?_cons_succ, List.set_cons_zero, List.set_cons_succ, Option.map_some, Option.bind_some, if_true, and_self, true_and, reduceIte, Bool.not_true, Bool.not_false, Bool.false_eq_true, eqT_int, Tgs.len, List.length_cons, List.length_nil, Nat.zero_add, Nat.reduceAdd, wipeL, decide_true, decide_false, d1, d2, d3, d4]
    rw [Ss_cons, s1, q_nx, Ss_cons, s2, q_nx, Ss_cons, s3, q_nx, Ss_cons, e1, q_nx, Ss_cons, g2, q_nx, set_new]
    simp only [Ss_cons, Ss_nil, q_nx, q_rt, q_bk, q_ct, q_xc, evS.eq_1, evS.eq_2, evS.eq_3, evS.eq_5, evS.eq_6, evS.eq_7, evS.eq_8, evS.eq_9, evS.eq_10, evS.eq_11, evS.eq_14, evE.eq_1, evE.eq_2, evE.eq_3, evE.eq_4, evE.eq_5, evE.eq_6, evE.eq_7, evE.eq_8, evE.eq_9, evE.eq_10, evE.eq_11, evE.eq_12, evE.eq_13, evE.eq_14, evE.eq_15, evE.eq_16, evE.eq_17, evE.eq_18, evE.eq_19, evE.eq_20, evE.eq_21, evE.eq_22, evE.eq_23, evEs, evIt, evTg, evTgs, evC, evEo, evKV, R.bind_ok, R.bind_exc, R.thenS_ok, R.thenS_exc, R.ofOpt_some, R.noExc_ok, s_add, s_sub, s_mul, s_div, s_mod, s_addT, s_eq, s_ne, s_lt, s_le, s_gt, s_ge, s_isB, s_isnB, s_isN, s_isnN, s_ixT, s_ixR, s_keyI, s_keyS, s_lenT, s_lenR, s_abs, s_int, s_tupT, s_truRB, s_min2, s_max2, s_repr, s_isi, s_itT, s_itR, s_itZT, s_lenIT, s_lenIR, s_lenIN, s_lenIZ, s_slcT, s_revT, s_alloc, List.getElem?_cons_zero, List.getElem?_cons_succ, List.set_cons_zero, List.set_cons_succ, Option.map_some, Option.bind_some, if_true, and_self, true_and, reduceIte, Bool.not_true, Bool.not_false, Bool.false_eq_true, eqT_int, Tgs.len, List.length_cons, List.length_nil, Nat.zero_add, Nat.reduceAdd, wipeL, decide_true, decide_false, s_okG get_new, s_get1 get_new, dLook_enc, g1, val_one]
    have ht : (st ++ [Cell.dic (encD l')]).take st.length = st := List.take_left' rfl
    cases relK rows (s0 q) c p with
    | none => rw [r_rt]; exact gc_pure hs rfl ht
    | some x => rw [r_rt]; exact gc_pure hs rfl ht
  · obtain ⟨u, hu⟩ := hf
    exact absurd hu (hn u)
end Lw

end

section
set_option Elab.async false
set_option linter.all false
set_option maxRecDepth 100000
set_option maxHeartbeats 4000000
set_option autoImplicit false
namespace Lw
open PF PySem Df
variable {N c rr : Nat} {rows : List Row} {st : Store}
theorem check_bad1 {k : Int} (hs : Cls st) (hk : ¬ (1 ≤ k ∧ k ≤ 12)) : run fns G (N + 1) 0 [.int k, .ref rr] st = .exc ⟨1, []⟩ st := by
  rw [run_as fn_0 is_0 [some (.int k), some (.ref rr), none, none, none] rfl rfl]
  unfold b_check_differences
  by_cases h1 : 1 ≤ k
  · have d1 : decide ((1 : Int) ≤ k) = true := b_decT h1
    have d2 : decide (k ≤ 12) = false := b_decF (by omega)
    simp only [Ss_cons, Ss_nil, q_nx, q_rt, q_bk, q_ct, q_xc, evS.eq_1, evS.eq_2, evS.eq_3, evS.eq_5, evS.eq_6, evS.eq_7, evS.eq_8, evS.eq_9, evS.eq_10, evS.eq_11, evS.eq_14, evE.eq_1, evE.eq_2, evE.eq_3, evE.eq_4, evE.eq_5, evE.eq_6, evE.eq_7, evE.eq_8, evE.eq_9, evE.eq_10, evE.eq_11, evE.eq_12, evE.eq_13, evE.eq_14, evE.eq_15, evE.eq_16, evE.eq_17, evE.eq_18, evE.eq_19, evE.eq_20, evE.eq_21, evE.eq_22, evE.eq_23, evEs, evIt, evTg, evTgs, evC, evEo, evKV, R.bind_ok, R.bind_exc, R.thenS_ok, R.thenS_exc, R.ofOpt_some, R.noExc_ok, s_add, s_sub, s_mul, s_div, s_mod, s_addT, s_eq, s_ne, s_lt, s_le, s_gt, s_ge, s_isB, s_isnB, s_isN, s_isnN, s_ixT, s_ixR, s_keyI, s_keyS, s_lenT, s_lenR, s_abs, s_int, s_tupT, s_truRB, s_min2, s_max2, s_repr, s_isi, s_itT, s_itR, s_itZT, s_lenIT, s_lenIR, s_lenIN, s_lenIZ, s_slcT, s_revT, s_alloc, List.getElem?_cons_zero, List.getElem?_cons_succ, List.set_cons_zero, List.set_cons_succ, Option.map_some, Option.bind_some, if_true, and_self, true_and, reduceIte, Bool.not_true, Bool.not_false, Bool.false_eq_true, eqT_int, Tgs.len, List.length_cons, List.length_nil, Nat.zero_add, Nat.reduceAdd, wipeL, decide_true, decide_false, hG, d1, d2]
    rw [r_xc, gc_exc hs List.take_length]
  · have d1 : decide ((1 : Int) ≤ k) = false := b_decF h1
    simp only [Ss_cons, Ss_nil, q_nx, q_rt, q_bk, q_ct, q_xc, evS.eq_1, evS.eq_2, evS.eq_3, evS.eq_5, evS.eq_6, evS.eq_7, evS.eq_8, evS.eq_9, evS.eq_10, evS.eq_11, evS.eq_14, evE.eq_1, evE.eq_2, evE.eq_3, evE.eq_4, evE.eq_5, evE.eq_6, evE.eq_7, evE.eq_8, evE.eq_9, evE.eq_10, evE.eq_11, evE.eq_12, evE.eq_13, evE.eq_14, evE.eq_15, evE.eq_16, evE.eq_17, evE.eq_18, evE.eq_19, evE.eq_20, evE.eq_21, evE.eq_22, evE.eq_23, evEs, evIt, evTg, evTgs, evC, evEo, evKV, R.bind_ok, R.bind_exc, R.thenS_ok, R.thenS_exc, R.ofOpt_some, R.noExc_ok, s_add, s_sub, s_mul, s_div, s_mod, s_addT, s_eq, s_ne, s_lt, s_le, s_gt, s_ge, s_isB, s_isnB, s_isN, s_isnN, s_ixT, s_ixR, s_keyI, s_keyS, s_lenT, s_lenR, s_abs, s_int, s_tupT, s_truRB, s_min2, s_max2, s_repr, s_isi, s_itT, s_itR, s_itZT, s_lenIT, s_lenIR, s_lenIN, s_lenIZ, s_slcT, s_revT, s_alloc, List.getElem?_cons_zero, List.getElem?_cons_succ, List.set_cons_zero, List.set_cons_succ, Option.map_some, Option.bind_some, if_true, and_self, true_and, reduceIte, Bool.not_true, Bool.not_false, Bool.false_eq_true, eqT_int, Tgs.len, List.length_cons, List.length_nil, Nat.zero_add, Nat.reduceAdd, wipeL, decide_true, decide_false, hG, d1]
    rw [r_xc, gc_exc hs List.take_length]
theorem check_bad2 {a b m : Int} (hs : Cls st) (hr : st[rr]? = some (.lst [.tup [.int a, .int b, .int m]])) (hk : ¬ (0 ≤ a ∧ a < 2 ∧ 0 ≤ b ∧ b < 2)) : run fns G (N + 1) 0 [.int 2, .ref rr] st = .exc ⟨1, []⟩ st := by
  rw [run_as fn_0 is_0 [some (.int 2), some (.ref rr), none, none, none] rfl rfl]
  unfold b_check_differences
  have d1 : decide ((1 : Int) ≤ 2) = true := b_decT (by omega)
  have d2 : decide ((2 : Int) ≤ 12) = true := b_decT (by omega)
  simp only [Ss_cons, Ss_nil, q_nx, q_rt, q_bk, q_ct, q_xc, evS.eq_1, evS.eq_2, evS.eq_3, evS.eq_5, evS.eq_6, evS.eq_7, evS.eq_8, evS.eq_9, evS.eq_10, evS.eq_11, evS.eq_14, evE.eq_1, evE.eq_2, evE.eq_3, evE.eq_4, evE.eq_5, evE.eq_6, evE.eq_7, evE.eq_8, evE.eq_9, evE.eq_10, evE.eq_11, evE.eq_12, evE.eq_13, evE.eq_14, evE.eq_15, evE.eq_16, evE.eq_17, evE.eq_18, evE.eq_19, evE.eq_20, evE.eq_21, evE.eq_22, evE.eq_23, evEs, evIt, evTg, evTgs, evC, evEo, evKV, R.bind_ok, R.bind_exc, R.thenS_ok, R.thenS_exc, R.ofOpt_some, R.noExc_ok, s_add, s_sub, s_mul, s_div, s_mod, s_addT, s_eq, s_ne, s_lt, s_le, s_gt, s_ge, s_isB, s_isnB, s_isN, s_isnN, s_ixT, s_ixR, s_keyI, s_keyS, s_lenT, s_lenR, s_abs, s_int, s_tupT, s_truRB, s_min2, s_max2, s_repr, s_isi, s_itT, s_itR, s_itZT, s_lenIT, s_lenIR, s_lenIN, s_lenIZ, s_slcT, s_revT, s_alloc, List.getElem?_cons_zero, List.getElem?_cons_succ, List.set_cons_zero, List.set_cons_succ, Option.map_some, Option.bind_some, if_true, and_self, true_and, reduceIte, Bool.not_true, Bool.not_false, Bool.false_eq_true, eqT_int, Tgs.len, List.length_cons, List.length_nil, Nat.zero_add, Nat.reduceAdd, wipeL, decide_true, decide_false, hG, d1, d2]
  have h := for_ind (cl := run fns G N) (G := G) (tg := .tup (.cons (.nm 2) (.cons (.nm 3) (.cons (.nm 4) .nil)))) (it := .val (.var 1)) (b := .cons (.ifS (.or (.not (.chn .LtE .Lt (.cst (.int 0)) (.var 2) (.var 0))) (.not (.chn .LtE .Lt (.cst (.int 0)) (.var 3) (.var 0)))) (.cons (.raise 1 .nil) .nil) .nil) .nil)
    (sl := [some (.int 2), some (.ref rr), none, none, none]) (st := st) (st' := st) (J := .lst rr) (P := fun r => ∃ sl, r = .xc ⟨1, []⟩ sl st) 1 (fun j sl s => j = 0 ∧ sl = [some (.int 2), some (.ref rr), none, none, none] ∧ s = st)
    (by simp only [Ss_cons, Ss_nil, q_nx, q_rt, q_bk, q_ct, q_xc, evS.eq_1, evS.eq_2, evS.eq_3, evS.eq_5, evS.eq_6, evS.eq_7, evS.eq_8, evS.eq_9, evS.eq_10, evS.eq_11, evS.eq_14, evE.eq_1, evE.eq_2, evE.eq_3, evE.eq_4, evE.eq_5, evE.eq_6, evE.eq_7, evE.eq_8, evE.eq_9, evE.eq_10, evE.eq_11, evE.eq_12, evE.eq_13, evE.eq_14, evE.eq_15, evE.eq_16, evE.eq_17, evE.eq_18, evE.eq_19, evE.eq_20, evE.eq_21, evE.eq_22, evE.eq_23, evEs, evIt, evTg, evTgs, evC, evEo, evKV, R.bind_ok, R.bind_exc, R.thenS_ok, R.thenS_exc, R.ofOpt_some, R.noExc_ok, s_add, s_sub, s_mul, s_div, s_mod, s_addT, s_eq, s_ne, s_lt, s_le, s_gt, s_ge, s_isB, s_isnB, s_isN, s_isnN, s_ixT, s_ixR, s_keyI, s_keyS, s_lenT, s_lenR, s_abs, s_int, s_tupT, s_truRB, s_min2, s_max2, s_repr, s_isi, s_itT, s_itR, s_itZT, s_lenIT, s_lenIR, s_lenIN, s_lenIZ, s_slcT, s_revT, s_alloc, List.getElem?_cons_zero, List.getElem?_cons_succ, List.set_cons_zero, List.set_cons_succ, Option.map_some, Option.bind_some, if_true, and_self, true_and, reduceIte, Bool.not_true, Bool.not_false, Bool.false_eq_true, eqT_int, Tgs.len, List.length_cons, List.length_nil, Nat.zero_add, Nat.reduceAdd, wipeL, decide_true, decide_false, s_itL hr]) (s_lenIL hr) ⟨rfl, rfl, rfl⟩ (by
      rintro i sl s hi ⟨rfl, rfl, rfl⟩
      refine ⟨.tup [.int a, .int b, .int m], [some (.int 2), some (.ref rr), some (.int a), some (.int b), some (.int m)], s, by rw [s_getIL hr]; rfl, by simp only [Ss_cons, Ss_nil, q_nx, q_rt, q_bk, q_ct, q_xc, evS.eq_1, evS.eq_2, evS.eq_3, evS.eq_5, evS.eq_6, evS.eq_7, evS.eq_8, evS.eq_9, evS.eq_10, evS.eq_11, evS.eq_14, evE.eq_1, evE.eq_2, evE.eq_3, evE.eq_4, evE.eq_5, evE.eq_6, evE.eq_7, evE.eq_8, evE.eq_9, evE.eq_10, evE.eq_11, evE.eq_12, evE.eq_13, evE.eq_14, evE.eq_15, evE.eq_16, evE.eq_17, evE.eq_18, evE.eq_19, evE.eq_20, evE.eq_21, evE.eq_22, evE.eq_23, evEs, evIt, evTg, evTgs, evC, evEo, evKV, R.bind_ok, R.bind_exc, R.thenS_ok, R.thenS_exc, R.ofOpt_some, R.noExc_ok, s_add, s_sub, s_mul, s_div, s_mod, s_addT, s_eq, s_ne, s_lt, s_le, s_gt, s_ge, s_isB, s_isnB, s_isN, s_isnN, s_ixT, s_ixR, s_keyI, s_keyS, s_lenT, s_lenR, s_abs, s_int, s_tupT, s_truRB, s_min2, s_max2, s_repr, s_isi, s_itT, s_itR, s_itZT, s_lenIT, s_lenIR, s_lenIN, s_lenIZ, s_slcT, s_revT, s_alloc, List.getElem?_cons_zero, List.getElem?_cons_succ, List.set_cons_zero, List.set_cons_succ, Option.map_some, Option.bind_some, if_true, and_self, true_and, reduceIte, Bool.not_true, Bool.not_false, Bool.false_eq_true, eqT_int, Tgs.len, List.length_cons, List.length_nil, Nat.zero_add, Nat.reduceAdd, wipeL, decide_true, decide_false], ?_⟩
      by_cases h1 : 0 ≤ a
      · have e1 : decide ((0 : Int) ≤ a) = true := b_decT h1
        by_cases h2 : a < 2
        · have e2 : decide (a < 2) = true := b_decT h2
          by_cases h3 : 0 ≤ b
          · have e3 : decide ((0 : Int) ≤ b) = true := b_decT h3
            have e4 : decide (b < 2) = false := b_decF (by omega)
            simp only [Ss_cons, Ss_nil, q_nx, q_rt, q_bk, q_ct, q_xc, evS.eq_1, evS.eq_2, evS.eq_3, evS.eq_5, evS.eq_6, evS.eq_7, evS.eq_8, evS.eq_9, evS.eq_10, evS.eq_11, evS.eq_14, evE.eq_1, evE.eq_2, evE.eq_3, evE.eq_4, evE.eq_5, evE.eq_6, evE.eq_7, evE.eq_8, evE.eq_9, evE.eq_10, evE.eq_11, evE.eq_12, evE.eq_13, evE.eq_14, evE.eq_15, evE.eq_16, evE.eq_17, evE.eq_18, evE.eq_19, evE.eq_20, evE.eq_21, evE.eq_22, evE.eq_23, evEs, evIt, evTg, evTgs, evC, evEo, evKV, R.bind_ok, R.bind_exc, R.thenS_ok, R.thenS_exc, R.ofOpt_some, R.noExc_ok, s_add, s_sub, s_mul, s_div, s_mod, s_addT, s_eq, s_ne, s_lt, s_le, s_gt, s_ge, s_isB, s_isnB, s_isN, s_isnN, s_ixT, s_ixR, s_keyI, s_keyS, s_lenT, s_lenR, s_abs, s_int, s_tupT, s_truRB, s_min2, s_max2, s_repr, s_isi, s_itT, s_itR, s_itZT, s_lenIT, s_lenIR, s_lenIN, s_lenIZ, s_slcT, s_revT, s_alloc, List.getElem?_cons_zero, List.getElem?_cons_succ, List.set_cons_zero, List.set_cons_succ, Option.map_some, Option.bind_some, if_true, and_self, true_and, reduceIte, Bool.not_true, Bool.not_false, Bool.false_eq_true, eqT_int, Tgs.len, List.length_cons, List.length_nil, Nat.zero_add, Nat.reduceAdd, wipeL, decide_true, decide_false, e1, e2, e3, e4]
            exact ⟨_, rfl⟩
          · have e3 : decide ((0 : Int) ≤ b) = false := b_decF h3
            simp only [Ss_cons, Ss_nil, q_nx, q_rt, q_bk, q_ct, q_xc, evS.eq_1, evS.eq_2, evS.eq_3, evS.eq_5, evS.eq_6, evS.eq_7, evS.eq_8, evS.eq_9, evS.eq_10, evS.eq_11, evS.eq_14, evE.eq_1, evE.eq_2, evE.eq_3, evE.eq_4, evE.eq_5, evE.eq_6, evE.eq_7, evE.eq_8, evE.eq_9, evE.eq_10, evE.eq_11, evE.eq_12, evE.eq_13, evE.eq_14, evE.eq_15, evE.eq_16, evE.eq_17, evE.eq_18, evE.eq_19, evE.eq_20, evE.eq_21, evE.eq_22, evE.eq_23, evEs, evIt, evTg, evTgs, evC, evEo, evKV, R.bind_ok, R.bind_exc, R.thenS_ok, R.thenS_exc, R.ofOpt_some, R.noExc_ok, s_add, s_sub, s_mul, s_div, s_mod, s_addT, s_eq, s_ne, s_lt, s_le, s_gt, s_ge, s_isB, s_isnB, s_isN, s_isnN, s_ixT, s_ixR, s_keyI, s_keyS, s_lenT, s_lenR, s_abs, s_int, s_tupT, s_truRB, s_min2, s_max2, s_repr, s_isi, s_itT, s_itR, s_itZT, s_lenIT, s_lenIR, s_lenIN, s_lenIZ, s_slcT, s_revT, s_alloc, List.getElem?_cons_zero, List.getElem?_cons_succ, List.set_cons_zero, List.set_cons_succ, Option.map_some, Option.bind_some, if_true, and_self, true_and, reduceIte, Bool.not_true, Bool.not_false, Bool.false_eq_true, eqT_int, Tgs.len, List.length_cons, List.length_nil, Nat.zero_add, Nat.reduceAdd, wipeL, decide_true, decide_false, e1, e2, e3]
            exact ⟨_, rfl⟩
        · have e2 : decide (a < 2) = false := b_decF h2
          simp only [Ss_cons, Ss_nil, q_nx, q_rt, q_bk, q_ct, q_xc, evS.eq_1, evS.eq_2, evS.eq_3, evS.eq_5, evS.eq_6, evS.eq_7, evS.eq_8, evS.eq_9, evS.eq_10, evS.eq_11, evS.eq_14, evE.eq_1, evE.eq_2, evE.eq_3, evE.eq_4, evE.eq_5, evE.eq_6, evE.eq_7, evE.eq_8, evE.eq_9, evE.eq_10, evE.eq_11, evE.eq_12, evE.eq_13, evE.eq_14, evE.eq_15, evE.eq_16, evE.eq_17, evE.eq_18, evE.eq_19, evE.eq_20, evE.eq_21, evE.eq_22, evE.eq_23, evEs, evIt, evTg, evTgs, evC, evEo, evKV, R.bind_ok, R.bind_exc, R.thenS_ok, R.thenS_exc, R.ofOpt_some, R.noExc_ok, s_add, s_sub, s_mul, s_div, s_mod, s_addT, s_eq, s_ne, s_lt, s_le, s_gt, s_ge, s_isB, s_isnB, s_isN, s_isnN, s_ixT, s_ixR, s_keyI, s_keyS, s_lenT, s_lenR, s_abs, s_int, s_tupT, s_truRB, s_min2, s_max2, s_repr, s_isi, s_itT, s_itR, s_itZT, s_lenIT, s_lenIR, s_lenIN, s_lenIZ, s_slcT, s_revT, s_alloc, List.getElem?_cons_zero, List.getElem?_cons_succ, List.set_cons_zero, List.set_cons_succ, Option.map_some, Option.bind_some, if_true, and_self, true_and, reduceIte, Bool.not_true, Bool.not_false, Bool.false_eq_true, eqT_int, Tgs.len, List.length_cons, List.length_nil, Nat.zero_add, Nat.reduceAdd, wipeL, decide_true, decide_false, e1, e2]
          exact ⟨_, rfl⟩
      · have e1 : decide ((0 : Int) ≤ a) = false := b_decF h1
        simp only [Ss_cons, Ss_nil, q_nx, q_rt, q_bk, q_ct, q_xc, evS.eq_1, evS.eq_2, evS.eq_3, evS.eq_5, evS.eq_6, evS.eq_7, evS.eq_8, evS.eq_9, evS.eq_10, evS.eq_11, evS.eq_14, evE.eq_1, evE.eq_2, evE.eq_3, evE.eq_4, evE.eq_5, evE.eq_6, evE.eq_7, evE.eq_8, evE.eq_9, evE.eq_10, evE.eq_11, evE.eq_12, evE.eq_13, evE.eq_14, evE.eq_15, evE.eq_16, evE.eq_17, evE.eq_18, evE.eq_19, evE.eq_20, evE.eq_21, evE.eq_22, evE.eq_23, evEs, evIt, evTg, evTgs, evC, evEo, evKV, R.bind_ok, R.bind_exc, R.thenS_ok, R.thenS_exc, R.ofOpt_some, R.noExc_ok, s_add, s_sub, s_mul, s_div, s_mod, s_addT, s_eq, s_ne, s_lt, s_le, s_gt, s_ge, s_isB, s_isnB, s_isN, s_isnN, s_ixT, s_ixR, s_keyI, s_keyS, s_lenT, s_lenR, s_abs, s_int, s_tupT, s_truRB, s_min2, s_max2, s_repr, s_isi, s_itT, s_itR, s_itZT, s_lenIT, s_lenIR, s_lenIN, s_lenIZ, s_slcT, s_revT, s_alloc, List.getElem?_cons_zero, List.getElem?_cons_succ, List.set_cons_zero, List.set_cons_succ, Option.map_some, Option.bind_some, if_true, and_self, true_and, reduceIte, Bool.not_true, Bool.not_false, Bool.false_eq_true, eqT_int, Tgs.len, List.length_cons, List.length_nil, Nat.zero_add, Nat.reduceAdd, wipeL, decide_true, decide_false, e1]
        exact ⟨_, rfl⟩) (by
      rintro sl s ⟨h, _⟩
      omega)
  obtain ⟨sl, h⟩ := h
  rw [h, q_xc, r_xc, gc_exc hs List.take_length]
theorem tight_bad {k : Int} {a b : T} (hs : Cls st) (h : run fns G (N + 2) 0 [.int k, .ref rr] st = .exc ⟨1, []⟩ st) : run fns G (N + 3) 4 [.int k, .ref rr, a, b] st = .exc ⟨1, []⟩ st := by
  rw [run_as fn_4 is_4 [some (.int k), some (.ref rr), some a, some b, none, none, none, none, none] rfl rfl]
  unfold b_tightest
  simp only [Ss_cons, Ss_nil, q_nx, q_rt, q_bk, q_ct, q_xc, evS.eq_1, evS.eq_2, evS.eq_3, evS.eq_5, evS.eq_6, evS.eq_7, evS.eq_8, evS.eq_9, evS.eq_10, evS.eq_11, evS.eq_14, evE.eq_1, evE.eq_2, evE.eq_3, evE.eq_4, evE.eq_5, evE.eq_6, evE.eq_7, evE.eq_8, evE.eq_9, evE.eq_10, evE.eq_11, evE.eq_12, evE.eq_13, evE.eq_14, evE.eq_15, evE.eq_16, evE.eq_17, evE.eq_18, evE.eq_19, evE.eq_20, evE.eq_21, evE.eq_22, evE.eq_23, evEs, evIt, evTg, evTgs, evC, evEo, evKV, R.bind_ok, R.bind_exc, R.thenS_ok, R.thenS_exc, R.ofOpt_some, R.noExc_ok, s_add, s_sub, s_mul, s_div, s_mod, s_addT, s_eq, s_ne, s_lt, s_le, s_gt, s_ge, s_isB, s_isnB, s_isN, s_isnN, s_ixT, s_ixR, s_keyI, s_keyS, s_lenT, s_lenR, s_abs, s_int, s_tupT, s_truRB, s_min2, s_max2, s_repr, s_isi, s_itT, s_itR, s_itZT, s_lenIT, s_lenIR, s_lenIN, s_lenIZ, s_slcT, s_revT, s_alloc, List.getElem?_cons_zero, List.getElem?_cons_succ, List.set_cons_zero, List.set_cons_succ, Option.map_some, Option.bind_some, if_true, and_self, true_and, reduceIte, Bool.not_true, Bool.not_false, Bool.false_eq_true, eqT_int, Tgs.len, List.length_cons, List.length_nil, Nat.zero_add, Nat.reduceAdd, wipeL, decide_true, decide_false, h]
  rw [r_xc, gc_exc hs List.take_length]
theorem nil_okay {c : Nat} : Okay c [] := ⟨by intro i a b m h; simp at h⟩
theorem nil_feas : ∃ u, Feas [] u := ⟨fun _ => 0, by intro i a b m h; simp at h⟩
theorem tight_rng {p q : Int} (hs : Cls st) (hr : st[rr]? = some (.lst [])) (h : ¬ (0 ≤ p ∧ p < 2 ∧ 0 ≤ q ∧ q < 2)) : run fns G (N + 3) 4 [.int 2, .ref rr, .int p, .int q] st = .exc ⟨1, []⟩ st := by
  rw [run_as fn_4 is_4 [some (.int 2), some (.ref rr), some (.int p), some (.int q), none, none, none, none, none] rfl rfl]
  have hr' : st[rr]? = some (.lst (([] : List Row).map rowT)) := hr
  obtain ⟨v, h1', h2, _⟩ := dif_spec (N := N) (c := 2) ⟨by omega, by omega⟩ nil_okay hr' hs
  have h1 : run fns G (N + 2) 1 [.int 2, .ref rr] st = .ok v st := h1'
  have hck : run fns G (N + 2) 0 [.int 2, .ref rr] st = .ok .non st := check_ok (N := N + 1) (c := 2) ⟨by omega, by omega⟩ nil_okay hr' hs
  rcases h2 with ⟨vl, rfl, hg⟩ | ⟨q', rfl, _, _, hn⟩
  · unfold b_tightest
    by_cases h1' : 0 ≤ p
    · have e1 : decide ((0 : Int) ≤ p) = true := b_decT h1'
      by_cases h2 : p < 2
      · have e2 : decide (p < 2) = true := b_decT h2
        by_cases h3 : 0 ≤ q
        · have e3 : decide ((0 : Int) ≤ q) = true := b_decT h3
          have e4 : decide (q < 2) = false := b_decF (by omega)
          simp only [Ss_cons, Ss_nil, q_nx, q_rt, q_bk, q_ct, q_xc, evS.eq_1, evS.eq_2, evS.eq_3, evS.eq_5, evS.eq_6, evS.eq_7, evS.eq_8, evS.eq_9, evS.eq_10, evS.eq_11, evS.eq_14, evE.eq_1, evE.eq_2, evE.eq_3, evE.eq_4, evE.eq_5, evE.eq_6, evE.eq_7, evE.eq_8, evE.eq_9, evE.eq_10, evE.eq_11, evE.eq_12, evE.eq_13, evE.eq_14, evE.eq_15, evE.eq_16, evE.eq_17, evE.eq_18, evE.eq_19, evE.eq_20, evE.eq_21, evE.eq_22, evE.eq_23, evEs, evIt, evTg, evTgs, evC, evEo, evKV, R.bind_ok, R.bind_exc, R.thenS_ok, R.thenS_exc, R.ofOpt_some, R.noExc_ok, s_add, s_sub, s_mul, s_div, s_mod, s_addT, s_eq, s_ne, s_lt, s_le, s_gt, s_ge, s_isB, s_isnB, s_isN, s_isnN, s_ixT, s_ixR, s_keyI, s_keyS, s_lenT, s_lenR, s_abs, s_int, s_tupT, s_truRB, s_min2, s_max2, s_repr, s_isi, s_itT, s_itR, s_itZT, s_lenIT, s_lenIR, s_lenIN, s_lenIZ, s_slcT, s_revT, s_alloc, List.getElem?_cons_zero, List.getElem?_cons_succ, List.set_cons_zero, List.set_cons_succ, Option.map_some, Option.bind_some, if_true, and_self, true_and, reduceIte, Bool.not_true, Bool.not_false, Bool.false_eq_true, eqT_int, Tgs.len, List.length_cons, List.length_nil, Nat.zero_add, Nat.reduceAdd, wipeL, decide_true, decide_false, hck, h1, ix2_0, eqT_str, vc_ne, e1, e2, e3, e4]
          rw [r_xc, gc_exc hs List.take_length]
        · have e3 : decide ((0 : Int) ≤ q) = false := b_decF h3
          simp only [Ss_cons, Ss_nil, q_nx, q_rt, q_bk, q_ct, q_xc, evS.eq_1, evS.eq_2, evS.eq_3, evS.eq_5, evS.eq_6, evS.eq_7, evS.eq_8, evS.eq_9, evS.eq_10, evS.eq_11, evS.eq_14, evE.eq_1, evE.eq_2, evE.eq_3, evE.eq_4, evE.eq_5, evE.eq_6, evE.eq_7, evE.eq_8, evE.eq_9, evE.eq_10, evE.eq_11, evE.eq_12, evE.eq_13, evE.eq_14, evE.eq_15, evE.eq_16, evE.eq_17, evE.eq_18, evE.eq_19, evE.eq_20, evE.eq_21, evE.eq_22, evE.eq_23, evEs, evIt, evTg, evTgs, evC, evEo, evKV, R.bind_ok, R.bind_exc, R.thenS_ok, R.thenS_exc, R.ofOpt_some, R.noExc_ok, s_add, s_sub, s_mul, s_div, s_mod, s_addT, s_eq, s_ne, s_lt, s_le, s_gt, s_ge, s_isB, s_isnB, s_isN, s_isnN, s_ixT, s_ixR, s_keyI, s_keyS, s_lenT, s_lenR, s_abs, s_int, s_tupT, s_truRB, s_min2, s_max2, s_repr, s_isi, s_itT, s_itR, s_itZT, s_lenIT, s_lenIR, s_lenIN, s_lenIZ, s_slcT, s_revT, s_alloc, List.getElem?_cons_zero, List.getElem?_cons_succ, List.set_cons_zero, List.set_cons_succ, Option.map_some, Option.bind_some, if_true, and_self, true_and, reduceIte, Bool.not_true, Bool.not_false, Bool.false_eq_true, eqT_int, Tgs.len, List.length_cons, List.length_nil, Nat.zero_add, Nat.reduceAdd, wipeL, decide_true, decide_false, hck, h1, ix2_0, eqT_str, vc_ne, e1, e2, e3]
          rw [r_xc, gc_exc hs List.take_length]
      · have e2 : decide (p < 2) = false := b_decF h2
        simp only [Ss_cons, Ss_nil, q_nx, q_rt, q_bk, q_ct, q_xc, evS.eq_1, evS.eq_2, evS.eq_3, evS.eq_5, evS.eq_6, evS.eq_7, evS.eq_8, evS.eq_9, evS.eq_10, evS.eq_11, evS.eq_14, evE.eq_1, evE.eq_2, evE.eq_3, evE.eq_4, evE.eq_5, evE.eq_6, evE.eq_7, evE.eq_8, evE.eq_9, evE.eq_10, evE.eq_11, evE.eq_12, evE.eq_13, evE.eq_14, evE.eq_15, evE.eq_16, evE.eq_17, evE.eq_18, evE.eq_19, evE.eq_20, evE.eq_21, evE.eq_22, evE.eq_23, evEs, evIt, evTg, evTgs, evC, evEo, evKV, R.bind_ok, R.bind_exc, R.thenS_ok, R.thenS_exc, R.ofOpt_some, R.noExc_ok, s_add, s_sub, s_mul, s_div, s_mod, s_addT, s_eq, s_ne, s_lt, s_le, s_gt, s_ge, s_isB, s_isnB, s_isN, s_isnN, s_ixT, s_ixR, s_keyI, s_keyS, s_lenT, s_lenR, s_abs, s_int, s_tupT, s_truRB, s_min2, s_max2, s_repr, s_isi, s_itT, s_itR, s_itZT, s_lenIT, s_lenIR, s_lenIN, s_lenIZ, s_slcT, s_revT, s_alloc, List.getElem?_cons_zero, List.getElem?_cons_succ, List.set_cons_zero, List.set_cons_succ, Option.map_some, Option.bind_some, if_true, and_self, true_and, reduceIte, Bool.not_true, Bool.not_false, Bool.false_eq_true, eqT_int, Tgs.len, List.length_cons, List.length_nil, Nat.zero_add, Nat.reduceAdd, wipeL, decide_true, decide_false, hck, h1, ix2_0, eqT_str, vc_ne, e1, e2]
        rw [r_xc, gc_exc hs List.take_length]
    · have e1 : decide ((0 : Int) ≤ p) = false := b_decF h1'
      simp only [Ss_cons, Ss_nil, q_nx, q_rt, q_bk, q_ct, q_xc, evS.eq_1, evS.eq_2, evS.eq_3, evS.eq_5, evS.eq_6, evS.eq_7, evS.eq_8, evS.eq_9, evS.eq_10, evS.eq_11, evS.eq_14, evE.eq_1, evE.eq_2, evE.eq_3, evE.eq_4, evE.eq_5, evE.eq_6, evE.eq_7, evE.eq_8, evE.eq_9, evE.eq_10, evE.eq_11, evE.eq_12, evE.eq_13, evE.eq_14, evE.eq_15, evE.eq_16, evE.eq_17, evE.eq_18, evE.eq_19, evE.eq_20, evE.eq_21, evE.eq_22, evE.eq_23, evEs, evIt, evTg, evTgs, evC, evEo, evKV, R.bind_ok, R.bind_exc, R.thenS_ok, R.thenS_exc, R.ofOpt_some, R.noExc_ok, s_add, s_sub, s_mul, s_div, s_mod, s_addT, s_eq, s_ne, s_lt, s_le, s_gt, s_ge, s_isB, s_isnB, s_isN, s_isnN, s_ixT, s_ixR, s_keyI, s_keyS, s_lenT, s_lenR, s_abs, s_int, s_tupT, s_truRB, s_min2, s_max2, s_repr, s_isi, s_itT, s_itR, s_itZT, s_lenIT, s_lenIR, s_lenIN, s_lenIZ, s_slcT, s_revT, s_alloc, List.getElem?_cons_zero, List.getElem?_cons_succ, List.set_cons_zero, List.set_cons_succ, Option.map_some, Option.bind_some, if_true, and_self, true_and, reduceIte, Bool.not_true, Bool.not_false, Bool.false_eq_true, eqT_int, Tgs.len, List.length_cons, List.length_nil, Nat.zero_add, Nat.reduceAdd, wipeL, decide_true, decide_false, hck, h1, ix2_0, eqT_str, vc_ne, e1]
      rw [r_xc, gc_exc hs List.take_length]
  · obtain ⟨u, hu⟩ := nil_feas
    exact absurd hu (hn u)
theorem try_nx {cl : Call} {b h : Ss} {k : Nat} {sl sl' : Sl} {st' : Store} (hr : evSs cl G b sl st = .nx sl' st') : evS cl G (.tryS b k none h) sl st = .nx sl' st' := by
  conv => lhs; unfold evS
  simp only [hr]
theorem try_xc {cl : Call} {b h : Ss} {k : Nat} {sl sl' : Sl} {st' : Store} {x : Ex} (hr : evSs cl G b sl st = .xc x sl' st') (hx : x.cls = k) : evS cl G (.tryS b k none h) sl st = (evSs cl G h sl' st').noXc := by
  conv => lhs; unfold evS
  simp only [hr, hx, and_self, if_true]
theorem refused_t {k : Int} {a b : T} (hs : Cls st) (h : run fns G (N + 3) 4 [.int k, .ref rr, a, b] st = .exc ⟨1, []⟩ st) : run fns G (N + 4) 13 [.int k, .ref rr, a, b] st = .ok (.bl true) st := by
  rw [run_as fn_13 is_13 [some (.int k), some (.ref rr), some a, some b] rfl rfl]
  unfold b__law_is_refused
  have e : evSs (run fns G (N + 3)) G (.cons (.expr (.call 4 (.cons (.var 0) (.cons (.var 1) (.cons (.var 2) (.cons (.var 3) .nil)))))) .nil) [some (.int k), some (.ref rr), some a, some b] st = .xc ⟨1, []⟩ [some (.int k), some (.ref rr), some a, some b] st := by
    simp only [Ss_cons, Ss_nil, q_nx, q_rt, q_bk, q_ct, q_xc, evS.eq_1, evS.eq_2, evS.eq_3, evS.eq_5, evS.eq_6, evS.eq_7, evS.eq_8, evS.eq_9, evS.eq_10, evS.eq_11, evS.eq_14, evE.eq_1, evE.eq_2, evE.eq_3, evE.eq_4, evE.eq_5, evE.eq_6, evE.eq_7, evE.eq_8, evE.eq_9, evE.eq_10, evE.eq_11, evE.eq_12, evE.eq_13, evE.eq_14, evE.eq_15, evE.eq_16, evE.eq_17, evE.eq_18, evE.eq_19, evE.eq_20, evE.eq_21, evE.eq_22, evE.eq_23, evEs, evIt, evTg, evTgs, evC, evEo, evKV, R.bind_ok, R.bind_exc, R.thenS_ok, R.thenS_exc, R.ofOpt_some, R.noExc_ok, s_add, s_sub, s_mul, s_div, s_mod, s_addT, s_eq, s_ne, s_lt, s_le, s_gt, s_ge, s_isB, s_isnB, s_isN, s_isnN, s_ixT, s_ixR, s_keyI, s_keyS, s_lenT, s_lenR, s_abs, s_int, s_tupT, s_truRB, s_min2, s_max2, s_repr, s_isi, s_itT, s_itR, s_itZT, s_lenIT, s_lenIR, s_lenIN, s_lenIZ, s_slcT, s_revT, s_alloc, List.getElem?_cons_zero, List.getElem?_cons_succ, List.set_cons_zero, List.set_cons_succ, Option.map_some, Option.bind_some, if_true, and_self, true_and, reduceIte, Bool.not_true, Bool.not_false, Bool.false_eq_true, eqT_int, Tgs.len, List.length_cons, List.length_nil, Nat.zero_add, Nat.reduceAdd, wipeL, decide_true, decide_false, h]
  rw [Ss_cons, try_xc e rfl]
  simp only [Ss_cons, Ss_nil, q_nx, q_rt, q_bk, q_ct, q_xc, evS.eq_1, evS.eq_2, evS.eq_3, evS.eq_5, evS.eq_6, evS.eq_7, evS.eq_8, evS.eq_9, evS.eq_10, evS.eq_11, evS.eq_14, evE.eq_1, evE.eq_2, evE.eq_3, evE.eq_4, evE.eq_5, evE.eq_6, evE.eq_7, evE.eq_8, evE.eq_9, evE.eq_10, evE.eq_11, evE.eq_12, evE.eq_13, evE.eq_14, evE.eq_15, evE.eq_16, evE.eq_17, evE.eq_18, evE.eq_19, evE.eq_20, evE.eq_21, evE.eq_22, evE.eq_23, evEs, evIt, evTg, evTgs, evC, evEo, evKV, R.bind_ok, R.bind_exc, R.thenS_ok, R.thenS_exc, R.ofOpt_some, R.noExc_ok, s_add, s_sub, s_mul, s_div, s_mod, s_addT, s_eq, s_ne, s_lt, s_le, s_gt, s_ge, s_isB, s_isnB, s_isN, s_isnN, s_ixT, s_ixR, s_keyI, s_keyS, s_lenT, s_lenR, s_abs, s_int, s_tupT, s_truRB, s_min2, s_max2, s_repr, s_isi, s_itT, s_itR, s_itZT, s_lenIT, s_lenIR, s_lenIN, s_lenIZ, s_slcT, s_revT, s_alloc, List.getElem?_cons_zero, List.getElem?_cons_succ, List.set_cons_zero, List.set_cons_succ, Option.map_some, Option.bind_some, if_true, and_self, true_and, reduceIte, Bool.not_true, Bool.not_false, Bool.false_eq_true, eqT_int, Tgs.len, List.length_cons, List.length_nil, Nat.zero_add, Nat.reduceAdd, wipeL, decide_true, decide_false, RS.noXc]
  rw [r_rt, gc_pure hs rfl List.take_length]
theorem refused_f {k : Int} {a b v : T} (hs : Cls st) (h : run fns G (N + 3) 4 [.int k, .ref rr, a, b] st = .ok v st) : run fns G (N + 4) 13 [.int k, .ref rr, a, b] st = .ok (.bl false) st := by
  rw [run_as fn_13 is_13 [some (.int k), some (.ref rr), some a, some b] rfl rfl]
  unfold b__law_is_refused
  have e : evSs (run fns G (N + 3)) G (.cons (.expr (.call 4 (.cons (.var 0) (.cons (.var 1) (.cons (.var 2) (.cons (.var 3) .nil)))))) .nil) [some (.int k), some (.ref rr), some a, some b] st = .nx [some (.int k), some (.ref rr), some a, some b] st := by
    simp only [Ss_cons, Ss_nil, q_nx, q_rt, q_bk, q_ct, q_xc, evS.eq_1, evS.eq_2, evS.eq_3, evS.eq_5, evS.eq_6, evS.eq_7, evS.eq_8, evS.eq_9, evS.eq_10, evS.eq_11, evS.eq_14, evE.eq_1, evE.eq_2, evE.eq_3, evE.eq_4, evE.eq_5, evE.eq_6, evE.eq_7, evE.eq_8, evE.eq_9, evE.eq_10, evE.eq_11, evE.eq_12, evE.eq_13, evE.eq_14, evE.eq_15, evE.eq_16, evE.eq_17, evE.eq_18, evE.eq_19, evE.eq_20, evE.eq_21, evE.eq_22, evE.eq_23, evEs, evIt, evTg, evTgs, evC, evEo, evKV, R.bind_ok, R.bind_exc, R.thenS_ok, R.thenS_exc, R.ofOpt_some, R.noExc_ok, s_add, s_sub, s_mul, s_div, s_mod, s_addT, s_eq, s_ne, s_lt, s_le, s_gt, s_ge, s_isB, s_isnB, s_isN, s_isnN, s_ixT, s_ixR, s_keyI, s_keyS, s_lenT, s_lenR, s_abs, s_int, s_tupT, s_truRB, s_min2, s_max2, s_repr, s_isi, s_itT, s_itR, s_itZT, s_lenIT, s_lenIR, s_lenIN, s_lenIZ, s_slcT, s_revT, s_alloc, List.getElem?_cons_zero, List.getElem?_cons_succ, List.set_cons_zero, List.set_cons_succ, Option.map_some, Option.bind_some, if_true, and_self, true_and, reduceIte, Bool.not_true, Bool.not_false, Bool.false_eq_true, eqT_int, Tgs.len, List.length_cons, List.length_nil, Nat.zero_add, Nat.reduceAdd, wipeL, decide_true, decide_false, h]
  rw [Ss_cons, try_nx e]
  simp only [Ss_cons, Ss_nil, q_nx, q_rt, q_bk, q_ct, q_xc, evS.eq_1, evS.eq_2, evS.eq_3, evS.eq_5, evS.eq_6, evS.eq_7, evS.eq_8, evS.eq_9, evS.eq_10, evS.eq_11, evS.eq_14, evE.eq_1, evE.eq_2, evE.eq_3, evE.eq_4, evE.eq_5, evE.eq_6, evE.eq_7, evE.eq_8, evE.eq_9, evE.eq_10, evE.eq_11, evE.eq_12, evE.eq_13, evE.eq_14, evE.eq_15, evE.eq_16, evE.eq_17, evE.eq_18, evE.eq_19, evE.eq_20, evE.eq_21, evE.eq_22, evE.eq_23, evEs, evIt, evTg, evTgs, evC, evEo, evKV, R.bind_ok, R.bind_exc, R.thenS_ok, R.thenS_exc, R.ofOpt_some, R.noExc_ok, s_add, s_sub, s_mul, s_div, s_mod, s_addT, s_eq, s_ne, s_lt, s_le, s_gt, s_ge, s_isB, s_isnB, s_isN, s_isnN, s_ixT, s_ixR, s_keyI, s_keyS, s_lenT, s_lenR, s_abs, s_int, s_tupT, s_truRB, s_min2, s_max2, s_repr, s_isi, s_itT, s_itR, s_itZT, s_lenIT, s_lenIR, s_lenIN, s_lenIZ, s_slcT, s_revT, s_alloc, List.getElem?_cons_zero, List.getElem?_cons_succ, List.set_cons_zero, List.set_cons_succ, Option.map_some, Option.bind_some, if_true, and_self, true_and, reduceIte, Bool.not_true, Bool.not_false, Bool.false_eq_true, eqT_int, Tgs.len, List.length_cons, List.length_nil, Nat.zero_add, Nat.reduceAdd, wipeL, decide_true, decide_false]
  rw [r_rt, gc_pure hs rfl List.take_length]
/-! sameness -/
theorem is_7 : IsFn f__law_is_integer 1 1 b__law_is_integer := ⟨rfl, rfl, rfl, rfl⟩
theorem is_9 : IsFn f__law_same 2 3 b__law_same := ⟨rfl, rfl, rfl, rfl⟩
theorem isint_spec {i : Int} (hs : Cls st) : run fns G (N + 1) 7 [.int i] st = .ok (.bl true) st := by
  rw [run_as fn_7 is_7 [some (.int i)] rfl rfl]
  unfold b__law_is_integer
  simp only [Ss_cons, Ss_nil, q_nx, q_rt, q_bk, q_ct, q_xc, evS.eq_1, evS.eq_2, evS.eq_3, evS.eq_5, evS.eq_6, evS.eq_7, evS.eq_8, evS.eq_9, evS.eq_10, evS.eq_11, evS.eq_14, evE.eq_1, evE.eq_2, evE.eq_3, evE.eq_4, evE.eq_5, evE.eq_6, evE.eq_7, evE.eq_8, evE.eq_9, evE.eq_10, evE.eq_11, evE.eq_12, evE.eq_13, evE.eq_14, evE.eq_15, evE.eq_16, evE.eq_17, evE.eq_18, evE.eq_19, evE.eq_20, evE.eq_21, evE.eq_22, evE.eq_23, evEs, evIt, evTg, evTgs, evC, evEo, evKV, R.bind_ok, R.bind_exc, R.thenS_ok, R.thenS_exc, R.ofOpt_some, R.noExc_ok, s_add, s_sub, s_mul, s_div, s_mod, s_addT, s_eq, s_ne, s_lt, s_le, s_gt, s_ge, s_isB, s_isnB, s_isN, s_isnN, s_ixT, s_ixR, s_keyI, s_keyS, s_lenT, s_lenR, s_abs, s_int, s_tupT, s_truRB, s_min2, s_max2, s_repr, s_isi, s_itT, s_itR, s_itZT, s_lenIT, s_lenIR, s_lenIN, s_lenIZ, s_slcT, s_revT, s_alloc, List.getElem?_cons_zero, List.getElem?_cons_succ, List.set_cons_zero, List.set_cons_succ, Option.map_some, Option.bind_some, if_true, and_self, true_and, reduceIte, Bool.not_true, Bool.not_false, Bool.false_eq_true, eqT_int, Tgs.len, List.length_cons, List.length_nil, Nat.zero_add, Nat.reduceAdd, wipeL, decide_true, decide_false, isiF, isTy]
  rw [r_rt, gc_pure hs rfl List.take_length]
theorem same_opt {o : Option Int} (hs : Cls st) : run fns G (N + 2) 9 [optT o, optT o] st = .ok (.bl true) st := by
  cases o with
  | none =>
    rw [run_as fn_9 is_9 [some .non, some .non, none] rfl rfl]
    unfold b__law_same
    simp only [Ss_cons, Ss_nil, q_nx, q_rt, q_bk, q_ct, q_xc, evS.eq_1, evS.eq_2, evS.eq_3, evS.eq_5, evS.eq_6, evS.eq_7, evS.eq_8, evS.eq_9, evS.eq_10, evS.eq_11, evS.eq_14, evE.eq_1, evE.eq_2, evE.eq_3, evE.eq_4, evE.eq_5, evE.eq_6, evE.eq_7, evE.eq_8, evE.eq_9, evE.eq_10, evE.eq_11, evE.eq_12, evE.eq_13, evE.eq_14, evE.eq_15, evE.eq_16, evE.eq_17, evE.eq_18, evE.eq_19, evE.eq_20, evE.eq_21, evE.eq_22, evE.eq_23, evEs, evIt, evTg, evTgs, evC, evEo, evKV, R.bind_ok, R.bind_exc, R.thenS_ok, R.thenS_exc, R.ofOpt_some, R.noExc_ok, s_add, s_sub, s_mul, s_div, s_mod, s_addT, s_eq, s_ne, s_lt, s_le, s_gt, s_ge, s_isB, s_isnB, s_isN, s_isnN, s_ixT, s_ixR, s_keyI, s_keyS, s_lenT, s_lenR, s_abs, s_int, s_tupT, s_truRB, s_min2, s_max2, s_repr, s_isi, s_itT, s_itR, s_itZT, s_lenIT, s_lenIR, s_lenIN, s_lenIZ, s_slcT, s_revT, s_alloc, List.getElem?_cons_zero, List.getElem?_cons_succ, List.set_cons_zero, List.set_cons_succ, Option.map_some, Option.bind_some, if_true, and_self, true_and, reduceIte, Bool.not_true, Bool.not_false, Bool.false_eq_true, eqT_int, Tgs.len, List.length_cons, List.length_nil, Nat.zero_add, Nat.reduceAdd, wipeL, decide_true, decide_false]
    rw [r_rt, gc_pure hs rfl List.take_length]
  | some i =>
    rw [run_as fn_9 is_9 [some (.int i), some (.int i), none] rfl rfl]
    unfold b__law_same
    have hn : cmpT .Is (.int i) .non st = some false := rfl
    simp only [Ss_cons, Ss_nil, q_nx, q_rt, q_bk, q_ct, q_xc, evS.eq_1, evS.eq_2, evS.eq_3, evS.eq_5, evS.eq_6, evS.eq_7, evS.eq_8, evS.eq_9, evS.eq_10, evS.eq_11, evS.eq_14, evE.eq_1, evE.eq_2, evE.eq_3, evE.eq_4, evE.eq_5, evE.eq_6, evE.eq_7, evE.eq_8, evE.eq_9, evE.eq_10, evE.eq_11, evE.eq_12, evE.eq_13, evE.eq_14, evE.eq_15, evE.eq_16, evE.eq_17, evE.eq_18, evE.eq_19, evE.eq_20, evE.eq_21, evE.eq_22, evE.eq_23, evEs, evIt, evTg, evTgs, evC, evEo, evKV, R.bind_ok, R.bind_exc, R.thenS_ok, R.thenS_exc, R.ofOpt_some, R.noExc_ok, s_add, s_sub, s_mul, s_div, s_mod, s_addT, s_eq, s_ne, s_lt, s_le, s_gt, s_ge, s_isB, s_isnB, s_isN, s_isnN, s_ixT, s_ixR, s_keyI, s_keyS, s_lenT, s_lenR, s_abs, s_int, s_tupT, s_truRB, s_min2, s_max2, s_repr, s_isi, s_itT, s_itR, s_itZT, s_lenIT, s_lenIR, s_lenIN, s_lenIZ, s_slcT, s_revT, s_alloc, List.getElem?_cons_zero, List.getElem?_cons_succ, List.set_cons_zero, List.set_cons_succ, Option.map_some, Option.bind_some, if_true, and_self, true_and, reduceIte, Bool.not_true, Bool.not_false, Bool.false_eq_true, eqT_int, Tgs.len, List.length_cons, List.length_nil, Nat.zero_add, Nat.reduceAdd, wipeL, decide_true, decide_false, hn, isiF, isTy, isint_spec (N := N) hs]
    rw [r_rt, gc_pure hs rfl List.take_length]
end Lw

end

section
set_option Elab.async false
set_option linter.all false
set_option maxRecDepth 100000
set_option maxHeartbeats 4000000
set_option autoImplicit false
namespace Lw
open PF PySem Df
theorem evE_compS {cl : Call} {G : Tab} {tg : Tg} {it : It} {c : Eo} {e : E} {own : List Nat} {sl : Sl} {st st1 : Store} {J : Itv} {k : Nat} {r : R Unit} (hJ : evIt cl G it sl st = .ok J st1) (hk : J.len st1 = some k)
    (hr : compL J st1.length (fun x st => (evTg cl G tg x (wipeL sl own) st).bind fun sl' st => (evC cl G c sl' st).bind fun b st =>
        if b then (evE cl G e sl' st).bind fun y st => .ok (some y) st else .ok none st) k 0 (st1 ++ [.lst []]) = r) :
    evE cl G (.comp tg it c e own) sl st = (r.bind fun _ st' => .ok (.ref st1.length) st').noExc := by
  conv => lhs; unfold evE
  simp only [hJ, R.bind_ok, hk, hr]
/-- a comprehension, by an invariant of the store -/
theorem comp_ind {cl : Call} {G : Tab} {tg : Tg} {it : It} {e : E} {own : List Nat} {sl : Sl} {st st1 : Store} {J : Itv} {P : R T → Prop} (n : Nat) (I : Nat → Store → Prop) (hJ : evIt cl G it sl st = .ok J st1) (hk : J.len st1 = some n)
    (h0 : I 0 (st1 ++ [.lst []]))
    (step : ∀ i s, i < n → I i s → ∃ x y sl' s', J.get s i = some x ∧ evTg cl G tg x (wipeL sl own) s = .ok sl' s ∧ evE cl G e sl' s = .ok y s' ∧ ∃ acc, s'[st1.length]? = some (.lst acc) ∧ acc.length < sizeLine ∧ I (i + 1) (s'.set st1.length (.lst (acc ++ [y]))))
    (fin : ∀ s, I n s → J.len s = some n ∧ P (.ok (.ref st1.length) s)) : P (evE cl G (.comp tg it .none e own) sl st) := by
  rw [evE_compS hJ hk rfl]
  refine compL_ind (P := fun r => P ((r.bind fun _ st' => .ok (.ref st1.length) st').noExc)) n I ?_ (fun s h => fin s h) n 0 _ (by omega) h0
  intro i s hi h
  obtain ⟨x, y, sl', s', h1, h2, h3, acc, h4, h5, h6⟩ := step i s hi h
  refine ⟨x, some y, s', h1, ?_, acc, h4, h5, h6⟩
  simp only [h2, R.bind_ok, evC, if_true, h3]
theorem fold_min : ∀ (r : List Int) (x : Int), (r.foldl (fun m y => if y < m then y else m) x ≤ x ∧ ∀ y ∈ r, r.foldl (fun m y => if y < m then y else m) x ≤ y) ∧ (r.foldl (fun m y => if y < m then y else m) x = x ∨ r.foldl (fun m y => if y < m then y else m) x ∈ r)
  | [], x => ⟨⟨by simp, by simp⟩, .inl rfl⟩
  | z :: r, x => by
    rw [List.foldl_cons]
    obtain ⟨⟨h1, h2⟩, h3⟩ := fold_min r (if z < x then z else x)
    have hz : (if z < x then z else x) ≤ z ∧ (if z < x then z else x) ≤ x := by split <;> omega
    refine ⟨⟨by omega, ?_⟩, ?_⟩
    · intro y hy
      rcases List.mem_cons.mp hy with rfl | hy
      · omega
      · exact h2 y hy
    · rcases h3 with h3 | h3
      · by_cases h : z < x
        · rw [if_pos h] at h3 ⊢; exact .inr (by rw [h3]; exact List.mem_cons_self ..)
        · rw [if_neg h] at h3 ⊢; exact .inl h3
      · exact .inr (List.mem_cons_of_mem _ h3)
theorem minL_eq {l : List Int} {x : Int} (hm : x ∈ l) (hl : ∀ y ∈ l, x ≤ y) : minL l = x := by
  cases l with
  | nil => cases hm
  | cons z r =>
    unfold minL
    obtain ⟨⟨h1, h2⟩, h3⟩ := fold_min r z
    have ge : x ≤ r.foldl (fun m y => if y < m then y else m) z := by
      rcases h3 with h3 | h3
      · rw [h3]; exact hl z (List.mem_cons_self ..)
      · exact hl _ (List.mem_cons_of_mem _ h3)
    rcases List.mem_cons.mp hm with rfl | hm
    · exact Int.le_antisymm h1 ge
    · exact Int.le_antisymm (h2 x hm) ge
variable {N c rr : Nat} {rows : List Row} {st : Store}
theorem vl_get {vl : List Int} {a : Nat} (h : a < vl.length) : vl[a]? = some (vl.getD a 0) := by
  rw [List.getD_eq_getElem?_getD, List.getElem?_eq_getElem h]; rfl
theorem root {vl : List Int} (ho : Okay c rows) (hg : Good c rows vl) : ∃ t : Nat → Nat, ∀ n a, t a < n → a < c → ∃ b, b < c ∧ ∃ x, relK rows (s0 b) c a = some x ∧ x ≤ vl.getD a 0 := by
  have hf := good_feas ho hg
  obtain ⟨h1, h2, w, t, K, j, hi⟩ := hg
  refine ⟨t, ?_⟩
  intro n
  induction n with
  | zero => intro a h; omega
  | succ n ih =>
    intro a ha hac
    rcases hi.core a with ⟨_, _, e⟩ | ⟨i, b, m, x, y, g1, g2, g3, g4, g5, g6, g7, g8⟩
    · skip
      rw [vl_get (by omega)] at e
      have e0 : z0 c a = some 0 := by unfold z0; rw [List.getElem?_replicate, if_pos hac]
      rw [e0] at e
      have e' : vl.getD a 0 = 0 := by injection e
      obtain ⟨w', t', hk⟩ := relK_inv rows (s0 a) c
      obtain ⟨x, hx, hle⟩ := hk.mono a 0 (by unfold s0; rw [if_pos rfl])
      exact ⟨a, hac, x, hx, by omega⟩
    · skip
      have hb := (ho.ok _ _ _ _ g2).2
      obtain ⟨x', hx', hle⟩ := h2 i a b m g2 y g6
      have hx' : vl[a]? = some x' := hx'
      rw [g5] at hx'; cases hx'
      have ht : t b < t a := by
        rcases Nat.lt_or_ge (t b) (t a) with h | h
        · exact h
        · have := g8 h; omega
      obtain ⟨r, hr, z, hz, hzle⟩ := ih b (by omega) hb
      rw [vl_get (by omega)] at g5 g6
      have e1 : vl.getD a 0 = x := by injection g5
      have e2 : vl.getD b 0 = y := by injection g6
      obtain ⟨z', hz', hz'le⟩ := relK_stable ho hf (s0 r) g2 hz
      exact ⟨r, hr, z', hz', by omega⟩
theorem told_le {vl : List Int} (hg : Good c rows vl) {a : Nat} (ha : a < c) : vl.getD a 0 ≤ 0 := by
  obtain ⟨h1, h2, w, t, K, j, hi⟩ := hg
  obtain ⟨x, hx, hle⟩ := hi.mono a 0 (by unfold z0; rw [List.getElem?_replicate, if_pos ha])
  have hx : vl[a]? = some x := hx
  rw [vl_get (by omega)] at hx
  have : vl.getD a 0 = x := by injection hx
  omega
def least (c : Nat) (rows : List Row) (v : Nat) : List Int := 0 :: (List.range c).map fun b => (relK rows (s0 b) (c + 1) v).getD 0
theorem least_eq {vl : List Int} (ho : Okay c rows) (hg : Good c rows vl) {v : Nat} (hv : v < c) : minL (least c rows v) = vl.getD v 0 := by
  have hf := good_feas ho hg
  have lo : ∀ y ∈ least c rows v, vl.getD v 0 ≤ y := by
    intro y hy
    rcases List.mem_cons.mp hy with rfl | hy
    · exact told_le hg hv
    · obtain ⟨b, hb, rfl⟩ := List.mem_map.mp hy
      have hb := List.mem_range.mp hb
      have h0 := told_le hg hv
      have h1 := told_le hg hb
      cases e : relK rows (s0 b) (c + 1) v with
      | none => exact h0
      | some x =>
        have := relK_ge hf (c + 1) v x e
        simp only [Option.getD_some]
        omega
  refine minL_eq ?_ lo
  obtain ⟨t, ht⟩ := root ho hg
  obtain ⟨b, hb, x, hx, hle⟩ := ht (t v + 1) v (by omega) hv
  have hm : x ∈ least c rows v := List.mem_cons_of_mem _ (List.mem_map.mpr ⟨b, List.mem_range.mpr hb, by rw [relK_eq ho hf, hx]; rfl⟩)
  have := lo x hm
  have e : vl.getD v 0 = x := by omega
  rw [e]; exact hm
end Lw

end

section
set_option Elab.async false
set_option linter.all false
set_option maxRecDepth 100000
set_option maxHeartbeats 4000000
set_option autoImplicit false
namespace Lw
open PF PySem Df
variable {M c rr : Nat} {rows : List Row} {st : Store} {ns : List T} {xs : List Int}
theorem is_6 : IsFn f__law_take 2 4 bTake := ⟨rfl, rfl, rfl, rfl⟩
theorem is_5 : IsFn f__law_tape 1 4 bTape := ⟨rfl, rfl, rfl, rfl⟩
theorem tk {m : Int} (h : TSt 1 0 xs st) (h0 : 0 < m) (h1 : m < 1073741824) : ∃ k st', 0 ≤ k ∧ k < m ∧ run fns G (M + 4) 6 [.ref 1, .int m] st = .ok (.int k) st' ∧ TSt 1 0 xs st' ∧ st'.length = st.length ∧ ∀ n, n ≠ 1 → st'[n]? = st[n]? :=
  take_call (N := M + 3) fn_6 is_6 h h0 h1
abbrev lsl (ns : List T) (x2 x3 x4 x5 x6 x7 x8 x9 x10 x11 x12 x13 x14 : Option T) : Sl := [some (.rol ns), some (.ref 1), x2, x3, x4, x5, x6, x7, x8, x9, x10, x11, x12, x13, x14]
def sA1 : S := .asg (.nm 4) (.bin .Add (.cst (.int 1)) (.call 6 (.cons (.var 1) (.cons (.cst (.int 5)) .nil))))
def sA2 : S := .asg (.nm 5) (.comp (.nm 13) (.range (.cons (.call 6 (.cons (.var 1) (.cons (.cst (.int 8)) .nil))) .nil)) .none (.tup (.cons (.call 6 (.cons (.var 1) (.cons (.var 4) .nil))) (.cons (.call 6 (.cons (.var 1) (.cons (.var 4) .nil))) (.cons (.bin .Sub (.call 6 (.cons (.var 1) (.cons (.cst (.int 9)) .nil))) (.cst (.int 2))) .nil)))) [13])
theorem three_le : (3 ≤ sizeLine) = True := eq_true (lt_size2 (by omega))
theorem draw_c {x2 x3 x4 x5 x6 x7 x8 x9 x10 x11 x12 x13 x14 : Option T} (h : TSt 1 0 xs st) : ∃ c st', 1 ≤ c ∧ c ≤ 5 ∧ TSt 1 0 xs st' ∧ st'.length = st.length ∧
    evS (run fns G (M + 4)) G sA1 (lsl ns x2 x3 x4 x5 x6 x7 x8 x9 x10 x11 x12 x13 x14) st = .nx (lsl ns x2 x3 (some (.int (c : Nat))) x5 x6 x7 x8 x9 x10 x11 x12 x13 x14) st' := by
  obtain ⟨k, st', h0, h1, hr, ht, hl, _⟩ := tk (M := M) (m := 5) h (by omega) (by omega)
  refine ⟨(1 + k).toNat, st', by omega, by omega, ht, hl, ?_⟩
  unfold sA1
  have e : (((1 + k).toNat : Nat) : Int) = 1 + k := by omega
  simp only [Ss_cons, Ss_nil, q_nx, q_rt, q_bk, q_ct, q_xc, evS.eq_1, evS.eq_2, evS.eq_3, evS.eq_5, evS.eq_6, evS.eq_7, evS.eq_8, evS.eq_9, evS.eq_10, evS.eq_11, evS.eq_14, evE.eq_1, evE.eq_2, evE.eq_3, evE.eq_4, evE.eq_5, evE.eq_6, evE.eq_7, evE.eq_8, evE.eq_9, evE.eq_10, evE.eq_11, evE.eq_12, evE.eq_13, evE.eq_14, evE.eq_15, evE.eq_16, evE.eq_17, evE.eq_18, evE.eq_19, evE.eq_20, evE.eq_21, evE.eq_22, evE.eq_23, evEs, evIt, evTg, evTgs, evC, evEo, evKV, R.bind_ok, R.bind_exc, R.thenS_ok, R.thenS_exc, R.ofOpt_some, R.noExc_ok, s_add, s_sub, s_mul, s_div, s_mod, s_addT, s_eq, s_ne, s_lt, s_le, s_gt, s_ge, s_isB, s_isnB, s_isN, s_isnN, s_ixT, s_ixR, s_keyI, s_keyS, s_lenT, s_lenR, s_abs, s_int, s_tupT, s_truRB, s_min2, s_max2, s_repr, s_isi, s_itT, s_itR, s_itZT, s_lenIT, s_lenIR, s_lenIN, s_lenIZ, s_slcT, s_revT, s_alloc, List.getElem?_cons_zero, List.getElem?_cons_succ, List.set_cons_zero, List.set_cons_succ, Option.map_some, Option.bind_some, if_true, and_self, true_and, reduceIte, Bool.not_true, Bool.not_false, Bool.false_eq_true, eqT_int, Tgs.len, List.length_cons, List.length_nil, Nat.zero_add, Nat.reduceAdd, wipeL, decide_true, decide_false, hr, e]
theorem TSt.setO {d : Nat} {x : Cell} (h : TSt 1 0 xs st) (hd : 2 ≤ d) (hx : x.lim st.length = true) : TSt 1 0 xs (st.set d x) := by
  obtain ⟨⟨h1, h2, a, l, s, z, h3, h4⟩, hc⟩ := h
  exact ⟨⟨h1, by rw [get_set_ne (by omega), h2], a, l, s, z, h3, by rw [get_set_ne (by omega), h4]⟩, hc.set hx⟩
theorem rowT_lim (n : Nat) (rows : List Row) : (Cell.lst (rows.map rowT)).lim n = true := by
  simp only [Cell.lim, List.all_map, List.all_eq_true]
  intro p _; rfl
theorem ints_lim (n : Nat) (l : List Int) : (Cell.lst (l.map .int)).lim n = true := by
  simp only [Cell.lim, List.all_map, List.all_eq_true]
  intro p _; rfl
theorem draw_rows {x2 x3 x5 x6 x7 x8 x9 x10 x11 x12 x13 x14 : Option T} (h : TSt 1 0 xs st) (hl : 2 ≤ st.length) (hc : 1 ≤ c ∧ c ≤ 5) : ∃ rows st', Okay c rows ∧ rows.length ≤ 7 ∧ TSt 1 0 xs st' ∧ st'[st.length]? = some (.lst (rows.map rowT)) ∧ 2 ≤ st'.length ∧
    evS (run fns G (M + 4)) G sA2 (lsl ns x2 x3 (some (.int c)) x5 x6 x7 x8 x9 x10 x11 x12 x13 x14) st = .nx (lsl ns x2 x3 (some (.int c)) (some (.ref st.length)) x6 x7 x8 x9 x10 x11 x12 x13 x14) st' := by
  obtain ⟨k, st1, h0, h1, hr, ht, hl1, _⟩ := tk (M := M) (m := 8) h (by omega) (by omega)
  unfold sA2
  rw [evS.eq_1]
  have key : ∃ rows st', Okay c rows ∧ rows.length ≤ 7 ∧ TSt 1 0 xs st' ∧ st'[st1.length]? = some (.lst (rows.map rowT)) ∧ 2 ≤ st'.length ∧ evE (run fns G (M + 4)) G (.comp (.nm 13) (.range (.cons (.call 6 (.cons (.var 1) (.cons (.cst (.int 8)) .nil))) .nil)) .none (.tup (.cons (.call 6 (.cons (.var 1) (.cons (.var 4) .nil))) (.cons (.call 6 (.cons (.var 1) (.cons (.var 4) .nil))) (.cons (.bin .Sub (.call 6 (.cons (.var 1) (.cons (.cst (.int 9)) .nil))) (.cst (.int 2))) .nil)))) [13]) (lsl ns x2 x3 (some (.int c)) x5 x6 x7 x8 x9 x10 x11 x12 x13 x14) st
      = .ok (.ref st1.length) st' := by
    refine comp_ind (P := fun r => ∃ rows st', Okay c rows ∧ rows.length ≤ 7 ∧ TSt 1 0 xs st' ∧ st'[st1.length]? = some (.lst (rows.map rowT)) ∧ 2 ≤ st'.length ∧ r = .ok (.ref st1.length) st') k.toNat
      (fun i s => ∃ rows : List Row, rows.length = i ∧ Okay c rows ∧ TSt 1 0 xs s ∧ s.length = st1.length + 1 ∧ s[st1.length]? = some (.lst (rows.map rowT))) (J := .rng 0 k.toNat) (st1 := st1)
      (it_rng1 (i := k) (by simp only [Ss_cons, Ss_nil, q_nx, q_rt, q_bk, q_ct, q_xc, evS.eq_1, evS.eq_2, evS.eq_3, evS.eq_5, evS.eq_6, evS.eq_7, evS.eq_8, evS.eq_9, evS.eq_10, evS.eq_11, evS.eq_14, evE.eq_1, evE.eq_2, evE.eq_3, evE.eq_4, evE.eq_5, evE.eq_6, evE.eq_7, evE.eq_8, evE.eq_9, evE.eq_10, evE.eq_11, evE.eq_12, evE.eq_13, evE.eq_14, evE.eq_15, evE.eq_16, evE.eq_17, evE.eq_18, evE.eq_19, evE.eq_20, evE.eq_21, evE.eq_22, evE.eq_23, evEs, evIt, evTg, evTgs, evC, evEo, evKV, R.bind_ok, R.bind_exc, R.thenS_ok, R.thenS_exc, R.ofOpt_some, R.noExc_ok, s_add, s_sub, s_mul, s_div, s_mod, s_addT, s_eq, s_ne, s_lt, s_le, s_gt, s_ge, s_isB, s_isnB, s_isN, s_isnN, s_ixT, s_ixR, s_keyI, s_keyS, s_lenT, s_lenR, s_abs, s_int, s_tupT, s_truRB, s_min2, s_max2, s_repr, s_isi, s_itT, s_itR, s_itZT, s_lenIT, s_lenIR, s_lenIN, s_lenIZ, s_slcT, s_revT, s_alloc, List.getElem?_cons_zero, List.getElem?_cons_succ, List.set_cons_zero, List.set_cons_succ, Option.map_some, Option.bind_some, if_true, and_self, true_and, reduceIte, Bool.not_true, Bool.not_false, Bool.false_eq_true, eqT_int, Tgs.len, List.length_cons, List.length_nil, Nat.zero_add, Nat.reduceAdd, wipeL, decide_true, decide_false, hr]) (b62 (by omega) (by omega)) rfl) s_lenIN ⟨[], rfl, nil_okay, ht.app rfl, by simp, get_new⟩ ?_ ?_
    · rintro i s hi ⟨rows, rfl, ho, hT, hlen, hg⟩
      obtain ⟨k1, s1, a0, a1, ar, aT, al, af⟩ := tk (M := M) (m := c) hT (by omega) (by omega)
      obtain ⟨k2, s2, b0, b1, br, bT, bl, bf⟩ := tk (M := M) (m := c) aT (by omega) (by omega)
      obtain ⟨k3, s3, c0, c1, cr, cT, cl, cf⟩ := tk (M := M) (m := 9) bT (by omega) (by omega)
      have hg3 : s3[st1.length]? = some (.lst (rows.map rowT)) := by rw [cf _ (by omega), bf _ (by omega), af _ (by omega), hg]
      have e1 : ((k1.toNat : Nat) : Int) = k1 := by omega
      have e2 : ((k2.toNat : Nat) : Int) = k2 := by omega
      refine ⟨.int rows.length, rowT (k1.toNat, k2.toNat, k3 - 2), lsl ns x2 x3 (some (.int c)) x5 x6 x7 x8 x9 x10 x11 x12 (some (.int rows.length)) x14, s3, ?_, by simp only [Ss_cons, Ss_nil, q_nx, q_rt, q_bk, q_ct, q_xc, evS.eq_1, evS.eq_2, evS.eq_3, evS.eq_5, evS.eq_6, evS.eq_7, evS.eq_8, evS.eq_9, evS.eq_10, evS.eq_11, evS.eq_14, evE.eq_1, evE.eq_2, evE.eq_3, evE.eq_4, evE.eq_5, evE.eq_6, evE.eq_7, evE.eq_8, evE.eq_9, evE.eq_10, evE.eq_11, evE.eq_12, evE.eq_13, evE.eq_14, evE.eq_15, evE.eq_16, evE.eq_17, evE.eq_18, evE.eq_19, evE.eq_20, evE.eq_21, evE.eq_22, evE.eq_23, evEs, evIt, evTg, evTgs, evC, evEo, evKV, R.bind_ok, R.bind_exc, R.thenS_ok, R.thenS_exc, R.ofOpt_some, R.noExc_ok, s_add, s_sub, s_mul, s_div, s_mod, s_addT, s_eq, s_ne, s_lt, s_le, s_gt, s_ge, s_isB, s_isnB, s_isN, s_isnN, s_ixT, s_ixR, s_keyI, s_keyS, s_lenT, s_lenR, s_abs, s_int, s_tupT, s_truRB, s_min2, s_max2, s_repr, s_isi, s_itT, s_itR, s_itZT, s_lenIT, s_lenIR, s_lenIN, s_lenIZ, s_slcT, s_revT, s_alloc, List.getElem?_cons_zero, List.getElem?_cons_succ, List.set_cons_zero, List.set_cons_succ, Option.map_some, Option.bind_some, if_true, and_self, true_and, reduceIte, Bool.not_true, Bool.not_false, Bool.false_eq_true, eqT_int, Tgs.len, List.length_cons, List.length_nil, Nat.zero_add, Nat.reduceAdd, wipeL, decide_true, decide_false], ?_, rows.map rowT, hg3, lt_size (by rw [List.length_map]; omega), rows ++ [(k1.toNat, k2.toNat, k3 - 2)], by simp, ?_, ?_, ?_, ?_⟩
      · rw [s_getIN, if_pos hi, Int.zero_add]
      · simp only [Ss_cons, Ss_nil, q_nx, q_rt, q_bk, q_ct, q_xc, evS.eq_1, evS.eq_2, evS.eq_3, evS.eq_5, evS.eq_6, evS.eq_7, evS.eq_8, evS.eq_9, evS.eq_10, evS.eq_11, evS.eq_14, evE.eq_1, evE.eq_2, evE.eq_3, evE.eq_4, evE.eq_5, evE.eq_6, evE.eq_7, evE.eq_8, evE.eq_9, evE.eq_10, evE.eq_11, evE.eq_12, evE.eq_13, evE.eq_14, evE.eq_15, evE.eq_16, evE.eq_17, evE.eq_18, evE.eq_19, evE.eq_20, evE.eq_21, evE.eq_22, evE.eq_23, evEs, evIt, evTg, evTgs, evC, evEo, evKV, R.bind_ok, R.bind_exc, R.thenS_ok, R.thenS_exc, R.ofOpt_some, R.noExc_ok, s_add, s_sub, s_mul, s_div, s_mod, s_addT, s_eq, s_ne, s_lt, s_le, s_gt, s_ge, s_isB, s_isnB, s_isN, s_isnN, s_ixT, s_ixR, s_keyI, s_keyS, s_lenT, s_lenR, s_abs, s_int, s_tupT, s_truRB, s_min2, s_max2, s_repr, s_isi, s_itT, s_itR, s_itZT, s_lenIT, s_lenIR, s_lenIN, s_lenIZ, s_slcT, s_revT, s_alloc, List.getElem?_cons_zero, List.getElem?_cons_succ, List.set_cons_zero, List.set_cons_succ, Option.map_some, Option.bind_some, if_true, and_self, true_and, reduceIte, Bool.not_true, Bool.not_false, Bool.false_eq_true, eqT_int, Tgs.len, List.length_cons, List.length_nil, Nat.zero_add, Nat.reduceAdd, wipeL, decide_true, decide_false, ar, br, cr, three_le, rowT, e1, e2]
      · refine ⟨?_⟩
        intro i a b m hi
        rcases Nat.lt_or_ge i rows.length with h | h
        · rw [List.getElem?_append_left h] at hi
          exact ho.ok i a b m hi
        · rw [List.getElem?_append_right h] at hi
          rcases hj : i - rows.length with _ | j
          · rw [hj] at hi
            simp only [List.getElem?_cons_zero, Option.some.injEq, Prod.mk.injEq] at hi
            omega
          · rw [hj] at hi; simp at hi
      · have := TSt.setO (x := .lst (rows.map rowT ++ [rowT (k1.toNat, k2.toNat, k3 - 2)])) cT (d := st1.length) (by omega) (by
          have := rowT_lim s3.length (rows ++ [(k1.toNat, k2.toNat, k3 - 2)])
          rw [List.map_append] at this; exact this)
        exact this
      · rw [List.length_set]; omega
      · rw [get_set hg3, List.map_append]; rfl
    · rintro s ⟨rows, h2, ho, hT, hlen, hg⟩
      exact ⟨s_lenIN, rows, s, ho, by omega, hT, hg, by omega, rfl⟩
  obtain ⟨rows, st', g1, g2, g3, g4, g5, g6⟩ := key
  rw [hl1] at g4 g6
  refine ⟨rows, st', g1, g2, g3, g4, g5, ?_⟩
  rw [g6]
  simp only [Ss_cons, Ss_nil, q_nx, q_rt, q_bk, q_ct, q_xc, evS.eq_1, evS.eq_2, evS.eq_3, evS.eq_5, evS.eq_6, evS.eq_7, evS.eq_8, evS.eq_9, evS.eq_10, evS.eq_11, evS.eq_14, evE.eq_1, evE.eq_2, evE.eq_3, evE.eq_4, evE.eq_5, evE.eq_6, evE.eq_7, evE.eq_8, evE.eq_9, evE.eq_10, evE.eq_11, evE.eq_12, evE.eq_13, evE.eq_14, evE.eq_15, evE.eq_16, evE.eq_17, evE.eq_18, evE.eq_19, evE.eq_20, evE.eq_21, evE.eq_22, evE.eq_23, evEs, evIt, evTg, evTgs, evC, evEo, evKV, R.bind_ok, R.bind_exc, R.thenS_ok, R.thenS_exc, R.ofOpt_some, R.noExc_ok, s_add, s_sub, s_mul, s_div, s_mod, s_addT, s_eq, s_ne, s_lt, s_le, s_gt, s_ge, s_isB, s_isnB, s_isN, s_isnN, s_ixT, s_ixR, s_keyI, s_keyS, s_lenT, s_lenR, s_abs, s_int, s_tupT, s_truRB, s_min2, s_max2, s_repr, s_isi, s_itT, s_itR, s_itZT, s_lenIT, s_lenIR, s_lenIN, s_lenIZ, s_slcT, s_revT, s_alloc, List.getElem?_cons_zero, List.getElem?_cons_succ, List.set_cons_zero, List.set_cons_succ, Option.map_some, Option.bind_some, if_true, and_self, true_and, reduceIte, Bool.not_true, Bool.not_false, Bool.false_eq_true, eqT_int, Tgs.len, List.length_cons, List.length_nil, Nat.zero_add, Nat.reduceAdd, wipeL, decide_true, decide_false]
end Lw

end

section
set_option Elab.async false
set_option linter.all false
set_option maxRecDepth 100000
set_option maxHeartbeats 4000000
set_option autoImplicit false
namespace Lw
open PF PySem Df
variable {M c rr : Nat} {rows : List Row} {st : Store} {ns : List T} {xs : List Int}
def sC : S := .ifS (.cmp .Eq (.var 8) (.cst (.str s_circle))) (.cons (.ifS (.or (.not (.call 11 (.cons (.var 5) (.cons (.var 9) .nil)))) (.or (.cmp .IsNot (.call 3 (.cons (.var 4) (.cons (.var 5) (.cons (.var 9) .nil)))) (.cst (.bl true))) (.not (.call 13 (.cons (.var 4) (.cons (.var 5) (.cons (.cst (.int 0)) (.cons (.cst (.int 0)) .nil)))))))) (.cons (.ret (.cst (.bl false)))
  .nil) .nil)
  (.cons (.for (.nm 3) (.val (.tup (.cons (.slc (.var 9) (.some (.cst (.int 1))) .none) (.cons (.bin .Add (.var 9) (.var 9)) (.cons (.rev (.var 9)) (.cons (.bin .Add (.var 9) (.tup (.cons (.cst (.int 0)) .nil))) (.cons (.bin .Add (.var 9) (.tup (.cons (.cst (.int 99)) .nil))) (.cons (.tup .nil) .nil)))))))) (.cons (.ifS (.cmp .NotEq (.bcall .repr (.cons (.call 3 (.cons (.var 4) (.cons (.var 5) (.cons (.var 3) .nil)))) .nil)) (.bcall .repr (.cons (.call 11 (.cons (.var 5) (.cons (.var 3) .nil))) .nil))) (.cons (.ret (.cst (.bl false)))
  .nil) .nil)
  .nil))
  (.cons .cnt
  .nil))) .nil
theorem one_le : (1 ≤ sizeLine) = True := eq_true (lt_size2 (by omega))
theorem six_le : (6 ≤ sizeLine) = True := eq_true (lt_size2 (by omega))
theorem same_str {x : Str} : decide (x = x) = true := decide_eq_true rfl
theorem circ_b {q : List Int} {x2 x3 x6 x7 x10 x11 x12 x13 x14 : Option T} (hc : 1 ≤ c ∧ c ≤ 5) (ho : Okay c rows) (hr : st[rr]? = some (.lst (rows.map rowT))) (hs : Cls st) (hq : q.length ≤ c) (ha : against rows q = true) (hn : ∀ u, ¬ Feas rows u) :
    ∃ x3', evS (run fns G (M + 4)) G sC (lsl ns x2 x3 (some (.int c)) (some (.ref rr)) x6 x7 (some (.str s_circle)) (some (.tup (q.map .int))) x10 x11 x12 x13 x14) st =
      .ct (lsl ns x2 x3' (some (.int c)) (some (.ref rr)) x6 x7 (some (.str s_circle)) (some (.tup (q.map .int))) x10 x11 x12 x13 x14) st := by
  have f3 : ∀ q : List Int, q.length ≤ 400 → run fns G (M + 4) 3 [.int c, .ref rr, .tup (q.map .int)] st = .ok (.bl (against rows q)) st := fun q hq => isa_spec (N := M + 2) (by omega) ho (by omega) hr hs
  have f11 : ∀ q : List Int, q.length ≤ 400 → run fns G (M + 4) 11 [.ref rr, .tup (q.map .int)] st = .ok (.bl (against rows q)) st := fun q hq => lagainst_spec (N := M + 3) ho hq hr hs
  have f13 : run fns G (M + 4) 13 [.int c, .ref rr, .int 0, .int 0] st = .ok (.bl true) st := refused_t (N := M) hs (tight_circ (N := M) (by omega) ho hr hs hn)
  have htt : (true != true) = false := rfl
  unfold sC
  simp only [Ss_cons, Ss_nil, q_nx, q_rt, q_bk, q_ct, q_xc, evS.eq_1, evS.eq_2, evS.eq_3, evS.eq_5, evS.eq_6, evS.eq_7, evS.eq_8, evS.eq_9, evS.eq_10, evS.eq_11, evS.eq_14, evE.eq_1, evE.eq_2, evE.eq_3, evE.eq_4, evE.eq_5, evE.eq_6, evE.eq_7, evE.eq_8, evE.eq_9, evE.eq_10, evE.eq_11, evE.eq_12, evE.eq_13, evE.eq_14, evE.eq_15, evE.eq_16, evE.eq_17, evE.eq_18, evE.eq_19, evE.eq_20, evE.eq_21, evE.eq_22, evE.eq_23, evEs, evIt, evTg, evTgs, evC, evEo, evKV, R.bind_ok, R.bind_exc, R.thenS_ok, R.thenS_exc, R.ofOpt_some, R.noExc_ok, s_add, s_sub, s_mul, s_div, s_mod, s_addT, s_eq, s_ne, s_lt, s_le, s_gt, s_ge, s_isB, s_isnB, s_isN, s_isnN, s_ixT, s_ixR, s_keyI, s_keyS, s_lenT, s_lenR, s_abs, s_int, s_tupT, s_truRB, s_min2, s_max2, s_repr, s_isi, s_itT, s_itR, s_itZT, s_lenIT, s_lenIR, s_lenIN, s_lenIZ, s_slcT, s_revT, s_alloc, List.getElem?_cons_zero, List.getElem?_cons_succ, List.set_cons_zero, List.set_cons_succ, Option.map_some, Option.bind_some, if_true, and_self, true_and, reduceIte, Bool.not_true, Bool.not_false, Bool.false_eq_true, eqT_int, Tgs.len, List.length_cons, List.length_nil, Nat.zero_add, Nat.reduceAdd, wipeL, decide_true, decide_false, eqT_str, cc_eq, f3 q (by omega), f11 q (by omega), f13, ha, htt]
  refine seq_of (P := fun r => ∃ x3', r = .ct (lsl ns x2 x3' (some (.int c)) (some (.ref rr)) x6 x7 (some (.str s_circle)) (some (.tup (q.map .int))) x10 x11 x12 x13 x14) st)
    (fun r => ∃ x3', r = .nx (lsl ns x2 x3' (some (.int c)) (some (.ref rr)) x6 x7 (some (.str s_circle)) (some (.tup (q.map .int))) x10 x11 x12 x13 x14) st) ?_ (by rintro r ⟨x3', rfl⟩; exact ⟨x3', by rw [q_nx, Ss_cons, evS.eq_10, q_ct]⟩)
  let Q : List (List Int) := [q.drop 1, q ++ q, q.reverse, q ++ [0], q ++ [99], []]
  have hQ : ∀ p ∈ Q, p.length ≤ 400 := by
    intro p hp
    simp only [Q, List.mem_cons, List.not_mem_nil, or_false] at hp
    rcases hp with rfl | rfl | rfl | rfl | rfl | rfl <;> simp <;> omega
  have z1 : ((q.map T.int).length + (q.map T.int).length ≤ sizeLine) = True := eq_true (lt_size2 (by rw [List.length_map]; omega))
  have z2 : ((q.map T.int).length + 1 ≤ sizeLine) = True := eq_true (lt_size2 (by rw [List.length_map]; omega))
  refine for_ind (P := fun r => ∃ x3', r = .nx (lsl ns x2 x3' (some (.int c)) (some (.ref rr)) x6 x7 (some (.str s_circle)) (some (.tup (q.map .int))) x10 x11 x12 x13 x14) st) 6
    (fun i sl s => s = st ∧ ∃ x3', sl = lsl ns x2 x3' (some (.int c)) (some (.ref rr)) x6 x7 (some (.str s_circle)) (some (.tup (q.map .int))) x10 x11 x12 x13 x14)
    (J := .tup (Q.map fun p => .tup (p.map .int))) (st' := st) ?_ rfl ⟨rfl, x3, rfl⟩ ?_ ?_
  · simp only [Ss_cons, Ss_nil, q_nx, q_rt, q_bk, q_ct, q_xc, evS.eq_1, evS.eq_2, evS.eq_3, evS.eq_5, evS.eq_6, evS.eq_7, evS.eq_8, evS.eq_9, evS.eq_10, evS.eq_11, evS.eq_14, evE.eq_1, evE.eq_2, evE.eq_3, evE.eq_4, evE.eq_5, evE.eq_6, evE.eq_7, evE.eq_8, evE.eq_9, evE.eq_10, evE.eq_11, evE.eq_12, evE.eq_13, evE.eq_14, evE.eq_15, evE.eq_16, evE.eq_17, evE.eq_18, evE.eq_19, evE.eq_20, evE.eq_21, evE.eq_22, evE.eq_23, evEs, evIt, evTg, evTgs, evC, evEo, evKV, R.bind_ok, R.bind_exc, R.thenS_ok, R.thenS_exc, R.ofOpt_some, R.noExc_ok, s_add, s_sub, s_mul, s_div, s_mod, s_addT, s_eq, s_ne, s_lt, s_le, s_gt, s_ge, s_isB, s_isnB, s_isN, s_isnN, s_ixT, s_ixR, s_keyI, s_keyS, s_lenT, s_lenR, s_abs, s_int, s_tupT, s_truRB, s_min2, s_max2, s_repr, s_isi, s_itT, s_itR, s_itZT, s_lenIT, s_lenIR, s_lenIN, s_lenIZ, s_slcT, s_revT, s_alloc, List.getElem?_cons_zero, List.getElem?_cons_succ, List.set_cons_zero, List.set_cons_succ, Option.map_some, Option.bind_some, if_true, and_self, true_and, reduceIte, Bool.not_true, Bool.not_false, Bool.false_eq_true, eqT_int, Tgs.len, List.length_cons, List.length_nil, Nat.zero_add, Nat.reduceAdd, wipeL, decide_true, decide_false, cut1, z1, z2, one_le, z_le, six_le]
    simp only [Q, List.map_cons, List.map_nil, List.map_append, List.map_drop, List.map_reverse]
  · rintro i sl s hi ⟨rfl, x3', rfl⟩
    have hp : Q[i]? = some (Q[i]'hi) := List.getElem?_eq_getElem hi
    have hp' : Q[i]'hi ∈ Q := List.getElem_mem hi
    generalize Q[i]'hi = p at hp hp'
    refine ⟨.tup (p.map .int), lsl ns x2 (some (.tup (p.map .int))) (some (.int c)) (some (.ref rr)) x6 x7 (some (.str s_circle)) (some (.tup (q.map .int))) x10 x11 x12 x13 x14, s, ?_, by simp only [Ss_cons, Ss_nil, q_nx, q_rt, q_bk, q_ct, q_xc, evS.eq_1, evS.eq_2, evS.eq_3, evS.eq_5, evS.eq_6, evS.eq_7, evS.eq_8, evS.eq_9, evS.eq_10, evS.eq_11, evS.eq_14, evE.eq_1, evE.eq_2, evE.eq_3, evE.eq_4, evE.eq_5, evE.eq_6, evE.eq_7, evE.eq_8, evE.eq_9, evE.eq_10, evE.eq_11, evE.eq_12, evE.eq_13, evE.eq_14, evE.eq_15, evE.eq_16, evE.eq_17, evE.eq_18, evE.eq_19, evE.eq_20, evE.eq_21, evE.eq_22, evE.eq_23, evEs, evIt, evTg, evTgs, evC, evEo, evKV, R.bind_ok, R.bind_exc, R.thenS_ok, R.thenS_exc, R.ofOpt_some, R.noExc_ok, s_add, s_sub, s_mul, s_div, s_mod, s_addT, s_eq, s_ne, s_lt, s_le, s_gt, s_ge, s_isB, s_isnB, s_isN, s_isnN, s_ixT, s_ixR, s_keyI, s_keyS, s_lenT, s_lenR, s_abs, s_int, s_tupT, s_truRB, s_min2, s_max2, s_repr, s_isi, s_itT, s_itR, s_itZT, s_lenIT, s_lenIR, s_lenIN, s_lenIZ, s_slcT, s_revT, s_alloc, List.getElem?_cons_zero, List.getElem?_cons_succ, List.set_cons_zero, List.set_cons_succ, Option.map_some, Option.bind_some, if_true, and_self, true_and, reduceIte, Bool.not_true, Bool.not_false, Bool.false_eq_true, eqT_int, Tgs.len, List.length_cons, List.length_nil, Nat.zero_add, Nat.reduceAdd, wipeL, decide_true, decide_false], ?_⟩
    · rw [s_getIT, List.getElem?_map, hp]; rfl
    · simp only [Ss_cons, Ss_nil, q_nx, q_rt, q_bk, q_ct, q_xc, evS.eq_1, evS.eq_2, evS.eq_3, evS.eq_5, evS.eq_6, evS.eq_7, evS.eq_8, evS.eq_9, evS.eq_10, evS.eq_11, evS.eq_14, evE.eq_1, evE.eq_2, evE.eq_3, evE.eq_4, evE.eq_5, evE.eq_6, evE.eq_7, evE.eq_8, evE.eq_9, evE.eq_10, evE.eq_11, evE.eq_12, evE.eq_13, evE.eq_14, evE.eq_15, evE.eq_16, evE.eq_17, evE.eq_18, evE.eq_19, evE.eq_20, evE.eq_21, evE.eq_22, evE.eq_23, evEs, evIt, evTg, evTgs, evC, evEo, evKV, R.bind_ok, R.bind_exc, R.thenS_ok, R.thenS_exc, R.ofOpt_some, R.noExc_ok, s_add, s_sub, s_mul, s_div, s_mod, s_addT, s_eq, s_ne, s_lt, s_le, s_gt, s_ge, s_isB, s_isnB, s_isN, s_isnN, s_ixT, s_ixR, s_keyI, s_keyS, s_lenT, s_lenR, s_abs, s_int, s_tupT, s_truRB, s_min2, s_max2, s_repr, s_isi, s_itT, s_itR, s_itZT, s_lenIT, s_lenIR, s_lenIN, s_lenIZ, s_slcT, s_revT, s_alloc, List.getElem?_cons_zero, List.getElem?_cons_succ, List.set_cons_zero, List.set_cons_succ, Option.map_some, Option.bind_some, if_true, and_self, true_and, reduceIte, Bool.not_true, Bool.not_false, Bool.false_eq_true, eqT_int, Tgs.len, List.length_cons, List.length_nil, Nat.zero_add, Nat.reduceAdd, wipeL, decide_true, decide_false, f3 p (hQ p hp'), f11 p (hQ p hp'), eqT_str, same_str]
      exact ⟨_, rfl⟩
  · rintro sl s ⟨rfl, x3', rfl⟩
    exact ⟨rfl, x3', rfl⟩
end Lw

end

section
set_option Elab.async false
set_option linter.all false
set_option maxRecDepth 100000
set_option maxHeartbeats 4000000
set_option autoImplicit false
namespace Lw
open PF PySem Df
variable {M c rr : Nat} {rows : List Row} {st : Store} {ns : List T} {xs : List Int}
def sV1 : S := .ifS (.or (.not (.call 10 (.cons (.var 5) (.cons (.var 9) .nil)))) (.or (.cmp .IsNot (.call 2 (.cons (.var 4) (.cons (.var 5) (.cons (.var 9) .nil)))) (.cst (.bl true))) (.cmp .IsNot (.call 2 (.cons (.var 4) (.cons (.var 5) (.cons (.bin .Add (.var 9) (.tup (.cons (.cst (.int 0)) .nil))) .nil)))) (.cst (.bl false))))) (.cons (.ret (.cst (.bl false)))
  .nil) .nil
theorem vals_1 {vl : List Int} {x2 x3 x6 x7 x8 x10 x11 x12 x13 x14 : Option T} (hc : 1 ≤ c ∧ c ≤ 5) (ho : Okay c rows) (hl : rows.length ≤ 7) (hr : st[rr]? = some (.lst (rows.map rowT))) (hs : Cls st) (hg : Good c rows vl) :
    evS (run fns G (M + 4)) G sV1 (lsl ns x2 x3 (some (.int c)) (some (.ref rr)) x6 x7 x8 (some (.tup (vl.map .int))) x10 x11 x12 x13 x14) st =
      .nx (lsl ns x2 x3 (some (.int c)) (some (.ref rr)) x6 x7 x8 (some (.tup (vl.map .int))) x10 x11 x12 x13 x14) st := by
  have hk : rows.all (keepR vl) = true := by
    rw [List.all_eq_true]
    intro r hr'
    obtain ⟨i, hi⟩ := get_of_mem hr'
    have := good_feas ho hg i r.1 r.2.1 r.2.2 hi
    unfold keepR
    simp only at this
    exact b_decT (by omega)
  have f10 : run fns G (M + 4) 10 [.ref rr, .tup (vl.map .int)] st = .ok (.bl true) st := by
    rw [← hk]; exact lkeeps_spec (N := M + 3) ho (by rw [hg.1]; exact Nat.le_refl _) (by omega) hr hs
  have f2 : run fns G (M + 4) 2 [.int c, .ref rr, .tup (vl.map .int)] st = .ok (.bl true) st := by
    have := keeps_spec (N := M + 2) (vl := vl) (by omega) ho (by rw [hg.1]; exact Nat.le_refl _) (by omega) hr hs
    rw [hk, decide_eq_true hg.1] at this
    exact this
  have f2' : run fns G (M + 4) 2 [.int c, .ref rr, .tup (vl.map .int ++ [.int 0])] st = .ok (.bl false) st := by
    have := keeps_spec (N := M + 2) (vl := vl ++ [0]) (by omega) ho (by rw [List.length_append, hg.1]; omega) (by omega) hr hs
    rw [decide_eq_false (by rw [List.length_append, hg.1]; simp), List.map_append] at this
    exact this
  have z2 : ((vl.map T.int).length + 1 ≤ sizeLine) = True := eq_true (lt_size2 (by rw [List.length_map, hg.1]; omega))
  have h1 : (true != true) = false := rfl
  have h2 : (false != false) = false := rfl
  unfold sV1
  simp only [Ss_cons, Ss_nil, q_nx, q_rt, q_bk, q_ct, q_xc, evS.eq_1, evS.eq_2, evS.eq_3, evS.eq_5, evS.eq_6, evS.eq_7, evS.eq_8, evS.eq_9, evS.eq_10, evS.eq_11, evS.eq_14, evE.eq_1, evE.eq_2, evE.eq_3, evE.eq_4, evE.eq_5, evE.eq_6, evE.eq_7, evE.eq_8, evE.eq_9, evE.eq_10, evE.eq_11, evE.eq_12, evE.eq_13, evE.eq_14, evE.eq_15, evE.eq_16, evE.eq_17, evE.eq_18, evE.eq_19, evE.eq_20, evE.eq_21, evE.eq_22, evE.eq_23, evEs, evIt, evTg, evTgs, evC, evEo, evKV, R.bind_ok, R.bind_exc, R.thenS_ok, R.thenS_exc, R.ofOpt_some, R.noExc_ok, s_add, s_sub, s_mul, s_div, s_mod, s_addT, s_eq, s_ne, s_lt, s_le, s_gt, s_ge, s_isB, s_isnB, s_isN, s_isnN, s_ixT, s_ixR, s_keyI, s_keyS, s_lenT, s_lenR, s_abs, s_int, s_tupT, s_truRB, s_min2, s_max2, s_repr, s_isi, s_itT, s_itR, s_itZT, s_lenIT, s_lenIR, s_lenIN, s_lenIZ, s_slcT, s_revT, s_alloc, List.getElem?_cons_zero, List.getElem?_cons_succ, List.set_cons_zero, List.set_cons_succ, Option.map_some, Option.bind_some, if_true, and_self, true_and, reduceIte, Bool.not_true, Bool.not_false, Bool.false_eq_true, eqT_int, Tgs.len, List.length_cons, List.length_nil, Nat.zero_add, Nat.reduceAdd, wipeL, decide_true, decide_false, f10, f2, f2', z2, one_le, h1, h2]
def sV2b : Ss := .cons (.asg (.nm 10) (.bin .Add (.lst (.cons (.cst (.int 0)) .nil)) (.comp (.nm 12) (.range (.cons (.var 4) .nil)) .none (.mcall .get (.call 12 (.cons (.var 4) (.cons (.var 5) (.cons (.var 12) .nil)))) (.cons (.var 6) (.cons (.cst (.int 0)) .nil))) [12])))
  (.cons (.ifS (.cmp .NotEq (.ix (.var 9) (.var 6)) (.bcall .min1 (.cons (.var 10) .nil))) (.cons (.ret (.cst (.bl false)))
  .nil) .nil)
  .nil)
def bests (c : Nat) (rows : List Row) (v : Nat) : List Int := (List.range c).map fun b => (relK rows (s0 b) (c + 1) v).getD 0
theorem getD_int {o : Option Int} : (o.map T.int).getD (.int 0) = .int (o.getD 0) := by cases o <;> rfl
theorem comp_best {v : Nat} {x2 x3 x7 x8 x9 x10 x11 x12 x13 x14 : Option T} (hc : 1 ≤ c ∧ c ≤ 5) (hl : rows.length ≤ 7) (hr : st[rr]? = some (.lst (rows.map rowT))) (hrr : 2 ≤ rr) (hs : TSt 1 0 xs st) :
    ∃ st', TSt 1 0 xs st' ∧ (∀ n d, st[n]? = some d → 2 ≤ n → st'[n]? = some d) ∧ st'[st.length]? = some (.lst ((bests c rows v).map .int)) ∧ evE (run fns G (M + 4)) G (.comp (.nm 12) (.range (.cons (.var 4) .nil)) .none (.mcall .get (.call 12 (.cons (.var 4) (.cons (.var 5) (.cons (.var 12) .nil)))) (.cons (.var 6) (.cons (.cst (.int 0)) .nil))) [12])
      (lsl ns x2 x3 (some (.int c)) (some (.ref rr)) (some (.int v)) x7 x8 x9 x10 x11 x12 x13 x14) st = .ok (.ref st.length) st' := by
  refine comp_ind (P := fun r => ∃ st', TSt 1 0 xs st' ∧ (∀ n d, st[n]? = some d → 2 ≤ n → st'[n]? = some d) ∧ st'[st.length]? = some (.lst ((bests c rows v).map .int)) ∧ r = .ok (.ref st.length) st') c
    (fun i s => TSt 1 0 xs s ∧ (∀ n d, st[n]? = some d → 2 ≤ n → s[n]? = some d) ∧ s[st.length]? = some (.lst (((List.range i).map fun b => (relK rows (s0 b) (c + 1) v).getD 0).map .int))) (J := .rng 0 c) (st1 := st)
    (it_rng1 (i := (c : Int)) (by simp only [Ss_cons, Ss_nil, q_nx, q_rt, q_bk, q_ct, q_xc, evS.eq_1, evS.eq_2, evS.eq_3, evS.eq_5, evS.eq_6, evS.eq_7, evS.eq_8, evS.eq_9, evS.eq_10, evS.eq_11, evS.eq_14, evE.eq_1, evE.eq_2, evE.eq_3, evE.eq_4, evE.eq_5, evE.eq_6, evE.eq_7, evE.eq_8, evE.eq_9, evE.eq_10, evE.eq_11, evE.eq_12, evE.eq_13, evE.eq_14, evE.eq_15, evE.eq_16, evE.eq_17, evE.eq_18, evE.eq_19, evE.eq_20, evE.eq_21, evE.eq_22, evE.eq_23, evEs, evIt, evTg, evTgs, evC, evEo, evKV, R.bind_ok, R.bind_exc, R.thenS_ok, R.thenS_exc, R.ofOpt_some, R.noExc_ok, s_add, s_sub, s_mul, s_div, s_mod, s_addT, s_eq, s_ne, s_lt, s_le, s_gt, s_ge, s_isB, s_isnB, s_isN, s_isnN, s_ixT, s_ixR, s_keyI, s_keyS, s_lenT, s_lenR, s_abs, s_int, s_tupT, s_truRB, s_min2, s_max2, s_repr, s_isi, s_itT, s_itR, s_itZT, s_lenIT, s_lenIR, s_lenIN, s_lenIZ, s_slcT, s_revT, s_alloc, List.getElem?_cons_zero, List.getElem?_cons_succ, List.set_cons_zero, List.set_cons_succ, Option.map_some, Option.bind_some, if_true, and_self, true_and, reduceIte, Bool.not_true, Bool.not_false, Bool.false_eq_true, eqT_int, Tgs.len, List.length_cons, List.length_nil, Nat.zero_add, Nat.reduceAdd, wipeL, decide_true, decide_false]) (b62 (by omega) (by omega)) (by omega)) s_lenIN ⟨hs.app rfl, fun n d h _ => get_app h, get_new⟩ ?_ ?_
  · rintro i s hi ⟨hT, hf, hg⟩
    obtain ⟨l, g1, g2⟩ := chains_spec (N := M + 3) (c := c) (b := i) (hf _ _ hr hrr) hT.cls (by omega) (by omega)
    have g2' : run fns G (M + 4) 12 [.int c, .ref rr, .int i] s = .ok (.ref s.length) (s ++ [Cell.dic (encD l)]) := g2
    have hy : (val l v) = relK rows (s0 i) (c + 1) v := by rw [g1]
    have hlen : (((List.range i).map fun b => (relK rows (s0 b) (c + 1) v).getD 0).map T.int).length = i := by simp
    have hL : 2 ≤ st.length := by have := lt_of_get hr; omega
    have hT2 : TSt 1 0 xs (s ++ [Cell.dic (encD l)]) := hT.app (encD_lim _ _)
    have happ : (((List.range i).map fun b => (relK rows (s0 b) (c + 1) v).getD 0).map T.int) ++ [.int ((relK rows (s0 i) (c + 1) v).getD 0)] = ((List.range (i + 1)).map fun b => (relK rows (s0 b) (c + 1) v).getD 0).map .int := by
      rw [List.range_succ, List.map_append, List.map_append]; rfl
    refine ⟨.int i, .int ((relK rows (s0 i) (c + 1) v).getD 0), lsl ns x2 x3 (some (.int c)) (some (.ref rr)) (some (.int v)) x7 x8 x9 x10 x11 (some (.int i)) x13 x14, s ++ [Cell.dic (encD l)], by rw [s_getIN, if_pos hi, Int.zero_add], by simp only [Ss_cons, Ss_nil, q_nx, q_rt, q_bk, q_ct, q_xc, evS.eq_1, evS.eq_2, evS.eq_3, evS.eq_5, evS.eq_6, evS.eq_7, evS.eq_8, evS.eq_9, evS.eq_10, evS.eq_11, evS.eq_14, evE.eq_1, evE.eq_2, evE.eq_3, evE.eq_4, evE.eq_5, evE.eq_6, evE.eq_7, evE.eq_8, evE.eq_9, evE.eq_10, evE.eq_11, evE.eq_12, evE.eq_13, evE.eq_14, evE.eq_15, evE.eq_16, evE.eq_17, evE.eq_18, evE.eq_19, evE.eq_20, evE.eq_21, evE.eq_22, evE.eq_23, evEs, evIt, evTg, evTgs, evC, evEo, evKV, R.bind_ok, R.bind_exc, R.thenS_ok, R.thenS_exc, R.ofOpt_some, R.noExc_ok, s_add, s_sub, s_mul, s_div, s_mod, s_addT, s_eq, s_ne, s_lt, s_le, s_gt, s_ge, s_isB, s_isnB, s_isN, s_isnN, s_ixT, s_ixR, s_keyI, s_keyS, s_lenT, s_lenR, s_abs, s_int, s_tupT, s_truRB, s_min2, s_max2, s_repr, s_isi, s_itT, s_itR, s_itZT, s_lenIT, s_lenIR, s_lenIN, s_lenIZ, s_slcT, s_revT, s_alloc, List.getElem?_cons_zero, List.getElem?_cons_succ, List.set_cons_zero, List.set_cons_succ, Option.map_some, Option.bind_some, if_true, and_self, true_and, reduceIte, Bool.not_true, Bool.not_false, Bool.false_eq_true, eqT_int, Tgs.len, List.length_cons, List.length_nil, Nat.zero_add, Nat.reduceAdd, wipeL, decide_true, decide_false],
      ?_, _, get_app hg, lt_size (by rw [hlen]; omega), ?_, ?_, ?_⟩
    · simp only [Ss_cons, Ss_nil, q_nx, q_rt, q_bk, q_ct, q_xc, evS.eq_1, evS.eq_2, evS.eq_3, evS.eq_5, evS.eq_6, evS.eq_7, evS.eq_8, evS.eq_9, evS.eq_10, evS.eq_11, evS.eq_14, evE.eq_1, evE.eq_2, evE.eq_3, evE.eq_4, evE.eq_5, evE.eq_6, evE.eq_7, evE.eq_8, evE.eq_9, evE.eq_10, evE.eq_11, evE.eq_12, evE.eq_13, evE.eq_14, evE.eq_15, evE.eq_16, evE.eq_17, evE.eq_18, evE.eq_19, evE.eq_20, evE.eq_21, evE.eq_22, evE.eq_23, evEs, evIt, evTg, evTgs, evC, evEo, evKV, R.bind_ok, R.bind_exc, R.thenS_ok, R.thenS_exc, R.ofOpt_some, R.noExc_ok, s_add, s_sub, s_mul, s_div, s_mod, s_addT, s_eq, s_ne, s_lt, s_le, s_gt, s_ge, s_isB, s_isnB, s_isN, s_isnN, s_ixT, s_ixR, s_keyI, s_keyS, s_lenT, s_lenR, s_abs, s_int, s_tupT, s_truRB, s_min2, s_max2, s_repr, s_isi, s_itT, s_itR, s_itZT, s_lenIT, s_lenIR, s_lenIN, s_lenIZ, s_slcT, s_revT, s_alloc, List.getElem?_cons_zero, List.getElem?_cons_succ, List.set_cons_zero, List.set_cons_succ, Option.map_some, Option.bind_some, if_true, and_self, true_and, reduceIte, Bool.not_true, Bool.not_false, Bool.false_eq_true, eqT_int, Tgs.len, List.length_cons, List.length_nil, Nat.zero_add, Nat.reduceAdd, wipeL, decide_true, decide_false, g2', s_okG get_new, s_get2 get_new, dLook_enc, hy, getD_int]
    · rw [happ]
      exact TSt.setO hT2 hL (ints_lim _ _)
    · intro n d hn h2
      rw [get_set_ne (by have := lt_of_get hn; omega)]
      exact get_app (hf n d hn h2)
    · rw [happ]; exact get_set (get_app hg)
  · rintro s ⟨hT, hf, hg⟩
    exact ⟨s_lenIN, s, hT, hf, hg, rfl⟩

theorem vals_2b {vl : List Int} {v : Nat} {x2 x3 x7 x8 x10 x11 x12 x13 x14 : Option T} (hc : 1 ≤ c ∧ c ≤ 5) (ho : Okay c rows) (hl : rows.length ≤ 7) (hr : st[rr]? = some (.lst (rows.map rowT))) (hrr : 2 ≤ rr) (hs : TSt 1 0 xs st) (hg : Good c rows vl) (hv : v < c) :
    ∃ st' x10', TSt 1 0 xs st' ∧ (∀ n d, st[n]? = some d → 2 ≤ n → st'[n]? = some d) ∧ evSs (run fns G (M + 4)) G sV2b (lsl ns x2 x3 (some (.int c)) (some (.ref rr)) (some (.int v)) x7 x8 (some (.tup (vl.map .int))) x10 x11 x12 x13 x14) st =
      .nx (lsl ns x2 x3 (some (.int c)) (some (.ref rr)) (some (.int v)) x7 x8 (some (.tup (vl.map .int))) x10' x11 x12 x13 x14) st' := by
  have hs1 : TSt 1 0 xs (st ++ [Cell.lst [.int 0]]) := hs.app rfl
  obtain ⟨st1, a1, a2, a3, a4⟩ := comp_best (M := M) (ns := ns) (v := v) (x2 := x2) (x3 := x3) (x7 := x7) (x8 := x8) (x9 := some (.tup (vl.map .int))) (x10 := x10) (x11 := x11) (x12 := x12) (x13 := x13) (x14 := x14) hc hl (get_app hr (d := Cell.lst [.int 0])) hrr hs1
  have hL : 2 ≤ st.length := by have := lt_of_get hr; omega
  have e0 : st1[st.length]? = some (.lst [.int 0]) := a2 _ _ get_new hL
  have z : ((([T.int 0] : List T)).length + ((bests c rows v).map T.int).length ≤ sizeLine) := lt_size2 (by unfold bests; simp; omega)
  have hcat : [T.int 0] ++ (bests c rows v).map .int = (least c rows v).map .int := rfl
  have e1 : evE (run fns G (M + 4)) G (.bin .Add (.lst (.cons (.cst (.int 0)) .nil)) (.comp (.nm 12) (.range (.cons (.var 4) .nil)) .none (.mcall .get (.call 12 (.cons (.var 4) (.cons (.var 5) (.cons (.var 12) .nil)))) (.cons (.var 6) (.cons (.cst (.int 0)) .nil))) [12])) (lsl ns x2 x3 (some (.int c)) (some (.ref rr)) (some (.int v)) x7 x8 (some (.tup (vl.map .int))) x10 x11 x12 x13 x14) st
      = .ok (.ref st1.length) (st1 ++ [Cell.lst ((least c rows v).map .int)]) := by
    have e1' : evE (run fns G (M + 4)) G (.lst (.cons (.cst (.int 0)) .nil)) (lsl ns x2 x3 (some (.int c)) (some (.ref rr)) (some (.int v)) x7 x8 (some (.tup (vl.map .int))) x10 x11 x12 x13 x14) st = .ok (.ref st.length) (st ++ [Cell.lst [.int 0]]) := by
      simp only [Ss_cons, Ss_nil, q_nx, q_rt, q_bk, q_ct, q_xc, evS.eq_1, evS.eq_2, evS.eq_3, evS.eq_5, evS.eq_6, evS.eq_7, evS.eq_8, evS.eq_9, evS.eq_10, evS.eq_11, evS.eq_14, evE.eq_1, evE.eq_2, evE.eq_3, evE.eq_4, evE.eq_5, evE.eq_6, evE.eq_7, evE.eq_8, evE.eq_9, evE.eq_10, evE.eq_11, evE.eq_12, evE.eq_13, evE.eq_14, evE.eq_15, evE.eq_16, evE.eq_17, evE.eq_18, evE.eq_19, evE.eq_20, evE.eq_21, evE.eq_22, evE.eq_23, evEs, evIt, evTg, evTgs, evC, evEo, evKV, R.bind_ok, R.bind_exc, R.thenS_ok, R.thenS_exc, R.ofOpt_some, R.noExc_ok, s_add, s_sub, s_mul, s_div, s_mod, s_addT, s_eq, s_ne, s_lt, s_le, s_gt, s_ge, s_isB, s_isnB, s_isN, s_isnN, s_ixT, s_ixR, s_keyI, s_keyS, s_lenT, s_lenR, s_abs, s_int, s_tupT, s_truRB, s_min2, s_max2, s_repr, s_isi, s_itT, s_itR, s_itZT, s_lenIT, s_lenIR, s_lenIN, s_lenIZ, s_slcT, s_revT, s_alloc, List.getElem?_cons_zero, List.getElem?_cons_succ, List.set_cons_zero, List.set_cons_succ, Option.map_some, Option.bind_some, if_true, and_self, true_and, reduceIte, Bool.not_true, Bool.not_false, Bool.false_eq_true, eqT_int, Tgs.len, List.length_cons, List.length_nil, Nat.zero_add, Nat.reduceAdd, wipeL, decide_true, decide_false, one_le]
    have e2 := s_addL e0 a3
    rw [if_pos z, hcat, s_alloc] at e2
    rw [evE.eq_7, e1', R.bind_ok, a4, R.bind_ok, e2]
  have hne : (least c rows v).isEmpty = false := rfl
  have iv : ixN (vl.map T.int).length v = some v := ixN_nat (by rw [List.length_map, hg.1]; exact hv)
  have hm := least_eq ho hg hv
  have hd : decide (vl.getD v 0 = vl.getD v 0) = true := decide_eq_true rfl
  refine ⟨st1 ++ [Cell.lst ((least c rows v).map .int)], some (.ref st1.length), a1.app (ints_lim _ _), fun n d hn h2 => get_app (a2 n d (get_app hn) h2), ?_⟩
  unfold sV2b
  rw [Ss_cons, evS.eq_1, e1]
  have hgd : (vl.map T.int)[v]? = some (.int (vl.getD v 0)) := getD_map (by rw [hg.1]; exact hv)
  simp only [Ss_cons, Ss_nil, q_nx, q_rt, q_bk, q_ct, q_xc, evS.eq_1, evS.eq_2, evS.eq_3, evS.eq_5, evS.eq_6, evS.eq_7, evS.eq_8, evS.eq_9, evS.eq_10, evS.eq_11, evS.eq_14, evE.eq_1, evE.eq_2, evE.eq_3, evE.eq_4, evE.eq_5, evE.eq_6, evE.eq_7, evE.eq_8, evE.eq_9, evE.eq_10, evE.eq_11, evE.eq_12, evE.eq_13, evE.eq_14, evE.eq_15, evE.eq_16, evE.eq_17, evE.eq_18, evE.eq_19, evE.eq_20, evE.eq_21, evE.eq_22, evE.eq_23, evEs, evIt, evTg, evTgs, evC, evEo, evKV, R.bind_ok, R.bind_exc, R.thenS_ok, R.thenS_exc, R.ofOpt_some, R.noExc_ok, s_add, s_sub, s_mul, s_div, s_mod, s_addT, s_eq, s_ne, s_lt, s_le, s_gt, s_ge, s_isB, s_isnB, s_isN, s_isnN, s_ixT, s_ixR, s_keyI, s_keyS, s_lenT, s_lenR, s_abs, s_int, s_tupT, s_truRB, s_min2, s_max2, s_repr, s_isi, s_itT, s_itR, s_itZT, s_lenIT, s_lenIR, s_lenIN, s_lenIZ, s_slcT, s_revT, s_alloc, List.getElem?_cons_zero, List.getElem?_cons_succ, List.set_cons_zero, List.set_cons_succ, Option.map_some, Option.bind_some, if_true, and_self, true_and, reduceIte, Bool.not_true, Bool.not_false, Bool.false_eq_true, eqT_int, Tgs.len, List.length_cons, List.length_nil, Nat.zero_add, Nat.reduceAdd, wipeL, decide_true, decide_false, iv, hgd, s_min1 get_new, hne, hm, hd]
def sV2 : S := .for (.nm 6) (.range (.cons (.var 4) .nil)) sV2b
theorem vals_2 {vl : List Int} {x2 x3 x6 x7 x8 x10 x11 x12 x13 x14 : Option T} (hc : 1 ≤ c ∧ c ≤ 5) (ho : Okay c rows) (hl : rows.length ≤ 7) (hr : st[rr]? = some (.lst (rows.map rowT))) (hrr : 2 ≤ rr) (hs : TSt 1 0 xs st) (hg : Good c rows vl) :
    ∃ st' x6' x10', TSt 1 0 xs st' ∧ (∀ n d, st[n]? = some d → 2 ≤ n → st'[n]? = some d) ∧ evS (run fns G (M + 4)) G sV2 (lsl ns x2 x3 (some (.int c)) (some (.ref rr)) x6 x7 x8 (some (.tup (vl.map .int))) x10 x11 x12 x13 x14) st =
      .nx (lsl ns x2 x3 (some (.int c)) (some (.ref rr)) x6' x7 x8 (some (.tup (vl.map .int))) x10' x11 x12 x13 x14) st' := by
  refine for_ind (P := fun r => ∃ st' x6' x10', TSt 1 0 xs st' ∧ (∀ n d, st[n]? = some d → 2 ≤ n → st'[n]? = some d) ∧ r = .nx (lsl ns x2 x3 (some (.int c)) (some (.ref rr)) x6' x7 x8 (some (.tup (vl.map .int))) x10' x11 x12 x13 x14) st') c
    (fun i sl s => TSt 1 0 xs s ∧ (∀ n d, st[n]? = some d → 2 ≤ n → s[n]? = some d) ∧ ∃ x6 x10, sl = lsl ns x2 x3 (some (.int c)) (some (.ref rr)) x6 x7 x8 (some (.tup (vl.map .int))) x10 x11 x12 x13 x14) (J := .rng 0 c) (st' := st)
    (it_rng1 (i := (c : Int)) (by simp only [Ss_cons, Ss_nil, q_nx, q_rt, q_bk, q_ct, q_xc, evS.eq_1, evS.eq_2, evS.eq_3, evS.eq_5, evS.eq_6, evS.eq_7, evS.eq_8, evS.eq_9, evS.eq_10, evS.eq_11, evS.eq_14, evE.eq_1, evE.eq_2, evE.eq_3, evE.eq_4, evE.eq_5, evE.eq_6, evE.eq_7, evE.eq_8, evE.eq_9, evE.eq_10, evE.eq_11, evE.eq_12, evE.eq_13, evE.eq_14, evE.eq_15, evE.eq_16, evE.eq_17, evE.eq_18, evE.eq_19, evE.eq_20, evE.eq_21, evE.eq_22, evE.eq_23, evEs, evIt, evTg, evTgs, evC, evEo, evKV, R.bind_ok, R.bind_exc, R.thenS_ok, R.thenS_exc, R.ofOpt_some, R.noExc_ok, s_add, s_sub, s_mul, s_div, s_mod, s_addT, s_eq, s_ne, s_lt, s_le, s_gt, s_ge, s_isB, s_isnB, s_isN, s_isnN, s_ixT, s_ixR, s_keyI, s_keyS, s_lenT, s_lenR, s_abs, s_int, s_tupT, s_truRB, s_min2, s_max2, s_repr, s_isi, s_itT, s_itR, s_itZT, s_lenIT, s_lenIR, s_lenIN, s_lenIZ, s_slcT, s_revT, s_alloc, List.getElem?_cons_zero, List.getElem?_cons_succ, List.set_cons_zero, List.set_cons_succ, Option.map_some, Option.bind_some, if_true, and_self, true_and, reduceIte, Bool.not_true, Bool.not_false, Bool.false_eq_true, eqT_int, Tgs.len, List.length_cons, List.length_nil, Nat.zero_add, Nat.reduceAdd, wipeL, decide_true, decide_false]) (b62 (by omega) (by omega)) (by omega)) s_lenIN ⟨hs, fun n d h _ => h, _, _, rfl⟩ ?_ ?_
  · rintro i sl s hi ⟨hT, hf, x6, x10, rfl⟩
    obtain ⟨st', x10', b1, b2, b3⟩ := vals_2b (M := M) (ns := ns) (v := i) (x2 := x2) (x3 := x3) (x7 := x7) (x8 := x8) (x10 := x10) (x11 := x11) (x12 := x12) (x13 := x13) (x14 := x14) hc ho hl (hf _ _ hr hrr) hrr hT hg hi
    refine ⟨.int i, lsl ns x2 x3 (some (.int c)) (some (.ref rr)) (some (.int i)) x7 x8 (some (.tup (vl.map .int))) x10 x11 x12 x13 x14, s, by rw [s_getIN, if_pos hi, Int.zero_add], by simp only [Ss_cons, Ss_nil, q_nx, q_rt, q_bk, q_ct, q_xc, evS.eq_1, evS.eq_2, evS.eq_3, evS.eq_5, evS.eq_6, evS.eq_7, evS.eq_8, evS.eq_9, evS.eq_10, evS.eq_11, evS.eq_14, evE.eq_1, evE.eq_2, evE.eq_3, evE.eq_4, evE.eq_5, evE.eq_6, evE.eq_7, evE.eq_8, evE.eq_9, evE.eq_10, evE.eq_11, evE.eq_12, evE.eq_13, evE.eq_14, evE.eq_15, evE.eq_16, evE.eq_17, evE.eq_18, evE.eq_19, evE.eq_20, evE.eq_21, evE.eq_22, evE.eq_23, evEs, evIt, evTg, evTgs, evC, evEo, evKV, R.bind_ok, R.bind_exc, R.thenS_ok, R.thenS_exc, R.ofOpt_some, R.noExc_ok, s_add, s_sub, s_mul, s_div, s_mod, s_addT, s_eq, s_ne, s_lt, s_le, s_gt, s_ge, s_isB, s_isnB, s_isN, s_isnN, s_ixT, s_ixR, s_keyI, s_keyS, s_lenT, s_lenR, s_abs, s_int, s_tupT, s_truRB, s_min2, s_max2, s_repr, s_isi, s_itT, s_itR, s_itZT, s_lenIT, s_lenIR, s_lenIN, s_lenIZ, s_slcT, s_revT, s_alloc, List.getElem?_cons_zero, List.getElem?_cons_succ, List.set_cons_zero, List.set_cons_succ, Option.map_some, Option.bind_some, if_true, and_self, true_and, reduceIte, Bool.not_true, Bool.not_false, Bool.false_eq_true, eqT_int, Tgs.len, List.length_cons, List.length_nil, Nat.zero_add, Nat.reduceAdd, wipeL, decide_true, decide_false], ?_⟩
    rw [b3]
    exact ⟨b1, fun n d h h2 => b2 n d (hf n d h h2) h2, _, _, rfl⟩
  · rintro sl s ⟨hT, hf, x6, x10, rfl⟩
    exact ⟨s_lenIN, s, x6, x10, hT, hf, rfl⟩
end Lw

end

section
set_option Elab.async false
set_option linter.all false
set_option maxRecDepth 100000
set_option maxHeartbeats 4000000
set_option autoImplicit false
namespace Lw
open PF PySem Df
variable {M c rr : Nat} {rows : List Row} {st : Store} {ns : List T} {xs : List Int}
def sV3 : S := .asg (.nm 7) (.bcall .tuple (.cons (.comp (.nm 14) (.val (.var 9)) .none (.bin .Sub (.bin .Add (.var 14) (.call 6 (.cons (.var 1) (.cons (.cst (.int 3)) .nil)))) (.cst (.int 1))) [14]) .nil))
theorem vals_3 {vl : List Int} {x2 x3 x5 x6 x7 x8 x10 x11 x12 x13 x14 : Option T} (hl : 2 ≤ st.length) (hv : vl.length ≤ 100) (hs : TSt 1 0 xs st) :
    ∃ st', ∃ mv : List Int, TSt 1 0 xs st' ∧ (∀ n d, st[n]? = some d → 2 ≤ n → st'[n]? = some d) ∧ mv.length = vl.length ∧ evS (run fns G (M + 4)) G sV3 (lsl ns x2 x3 (some (.int c)) x5 x6 x7 x8 (some (.tup (vl.map .int))) x10 x11 x12 x13 x14) st =
      .nx (lsl ns x2 x3 (some (.int c)) x5 x6 (some (.tup (mv.map .int))) x8 (some (.tup (vl.map .int))) x10 x11 x12 x13 x14) st' := by
  have key : ∃ st', ∃ mv : List Int, TSt 1 0 xs st' ∧ (∀ n d, st[n]? = some d → 2 ≤ n → st'[n]? = some d) ∧ mv.length = vl.length ∧ st'[st.length]? = some (.lst (mv.map .int)) ∧ evE (run fns G (M + 4)) G (.comp (.nm 14) (.val (.var 9)) .none (.bin .Sub (.bin .Add (.var 14) (.call 6 (.cons (.var 1) (.cons (.cst (.int 3)) .nil)))) (.cst (.int 1))) [14])
      (lsl ns x2 x3 (some (.int c)) x5 x6 x7 x8 (some (.tup (vl.map .int))) x10 x11 x12 x13 x14) st = .ok (.ref st.length) st' := by
    refine comp_ind (P := fun r => ∃ st', ∃ mv : List Int, TSt 1 0 xs st' ∧ (∀ n d, st[n]? = some d → 2 ≤ n → st'[n]? = some d) ∧ mv.length = vl.length ∧ st'[st.length]? = some (.lst (mv.map .int)) ∧ r = .ok (.ref st.length) st') vl.length
      (fun i s => ∃ mv : List Int, TSt 1 0 xs s ∧ (∀ n d, st[n]? = some d → 2 ≤ n → s[n]? = some d) ∧ mv.length = i ∧ s[st.length]? = some (.lst (mv.map .int))) (J := .tup (vl.map .int)) (st1 := st)
      (by simp only [Ss_cons, Ss_nil, q_nx, q_rt, q_bk, q_ct, q_xc, evS.eq_1, evS.eq_2, evS.eq_3, evS.eq_5, evS.eq_6, evS.eq_7, evS.eq_8, evS.eq_9, evS.eq_10, evS.eq_11, evS.eq_14, evE.eq_1, evE.eq_2, evE.eq_3, evE.eq_4, evE.eq_5, evE.eq_6, evE.eq_7, evE.eq_8, evE.eq_9, evE.eq_10, evE.eq_11, evE.eq_12, evE.eq_13, evE.eq_14, evE.eq_15, evE.eq_16, evE.eq_17, evE.eq_18, evE.eq_19, evE.eq_20, evE.eq_21, evE.eq_22, evE.eq_23, evEs, evIt, evTg, evTgs, evC, evEo, evKV, R.bind_ok, R.bind_exc, R.thenS_ok, R.thenS_exc, R.ofOpt_some, R.noExc_ok, s_add, s_sub, s_mul, s_div, s_mod, s_addT, s_eq, s_ne, s_lt, s_le, s_gt, s_ge, s_isB, s_isnB, s_isN, s_isnN, s_ixT, s_ixR, s_keyI, s_keyS, s_lenT, s_lenR, s_abs, s_int, s_tupT, s_truRB, s_min2, s_max2, s_repr, s_isi, s_itT, s_itR, s_itZT, s_lenIT, s_lenIR, s_lenIN, s_lenIZ, s_slcT, s_revT, s_alloc, List.getElem?_cons_zero, List.getElem?_cons_succ, List.set_cons_zero, List.set_cons_succ, Option.map_some, Option.bind_some, if_true, and_self, true_and, reduceIte, Bool.not_true, Bool.not_false, Bool.false_eq_true, eqT_int, Tgs.len, List.length_cons, List.length_nil, Nat.zero_add, Nat.reduceAdd, wipeL, decide_true, decide_false]) (by rw [s_lenIT, List.length_map]) ⟨[], hs.app rfl, fun n d h _ => get_app h, rfl, get_new⟩ ?_ ?_
    · rintro i s hi ⟨mv, hT, hf, hm, hg⟩
      obtain ⟨k, s1, a0, a1, ar, aT, al, af⟩ := tk (M := M) (m := 3) hT (by omega) (by omega)
      have hg1 : s1[st.length]? = some (.lst (mv.map .int)) := by rw [af _ (by omega), hg]
      have happ : mv.map T.int ++ [.int (vl.getD i 0 + k - 1)] = (mv ++ [vl.getD i 0 + k - 1]).map .int := by rw [List.map_append]; rfl
      refine ⟨.int (vl.getD i 0), .int (vl.getD i 0 + k - 1), lsl ns x2 x3 (some (.int c)) x5 x6 x7 x8 (some (.tup (vl.map .int))) x10 x11 x12 x13 (some (.int (vl.getD i 0))), s1, by rw [s_getIT, getD_map hi], by simp only [Ss_cons, Ss_nil, q_nx, q_rt, q_bk, q_ct, q_xc, evS.eq_1, evS.eq_2, evS.eq_3, evS.eq_5, evS.eq_6, evS.eq_7, evS.eq_8, evS.eq_9, evS.eq_10, evS.eq_11, evS.eq_14, evE.eq_1, evE.eq_2, evE.eq_3, evE.eq_4, evE.eq_5, evE.eq_6, evE.eq_7, evE.eq_8, evE.eq_9, evE.eq_10, evE.eq_11, evE.eq_12, evE.eq_13, evE.eq_14, evE.eq_15, evE.eq_16, evE.eq_17, evE.eq_18, evE.eq_19, evE.eq_20, evE.eq_21, evE.eq_22, evE.eq_23, evEs, evIt, evTg, evTgs, evC, evEo, evKV, R.bind_ok, R.bind_exc, R.thenS_ok, R.thenS_exc, R.ofOpt_some, R.noExc_ok, s_add, s_sub, s_mul, s_div, s_mod, s_addT, s_eq, s_ne, s_lt, s_le, s_gt, s_ge, s_isB, s_isnB, s_isN, s_isnN, s_ixT, s_ixR, s_keyI, s_keyS, s_lenT, s_lenR, s_abs, s_int, s_tupT, s_truRB, s_min2, s_max2, s_repr, s_isi, s_itT, s_itR, s_itZT, s_lenIT, s_lenIR, s_lenIN, s_lenIZ, s_slcT, s_revT, s_alloc, List.getElem?_cons_zero, List.getElem?_cons_succ, List.set_cons_zero, List.set_cons_succ, Option.map_some, Option.bind_some, if_true, and_self, true_and, reduceIte, Bool.not_true, Bool.not_false, Bool.false_eq_true, eqT_int, Tgs.len, List.length_cons, List.length_nil, Nat.zero_add, Nat.reduceAdd, wipeL, decide_true, decide_false], ?_, _, hg1, lt_size (by rw [List.length_map]; omega), mv ++ [vl.getD i 0 + k - 1], ?_, ?_, ?_, ?_⟩
      · simp only [Ss_cons, Ss_nil, q_nx, q_rt, q_bk, q_ct, q_xc, evS.eq_1, evS.eq_2, evS.eq_3, evS.eq_5, evS.eq_6, evS.eq_7, evS.eq_8, evS.eq_9, evS.eq_10, evS.eq_11, evS.eq_14, evE.eq_1, evE.eq_2, evE.eq_3, evE.eq_4, evE.eq_5, evE.eq_6, evE.eq_7, evE.eq_8, evE.eq_9, evE.eq_10, evE.eq_11, evE.eq_12, evE.eq_13, evE.eq_14, evE.eq_15, evE.eq_16, evE.eq_17, evE.eq_18, evE.eq_19, evE.eq_20, evE.eq_21, evE.eq_22, evE.eq_23, evEs, evIt, evTg, evTgs, evC, evEo, evKV, R.bind_ok, R.bind_exc, R.thenS_ok, R.thenS_exc, R.ofOpt_some, R.noExc_ok, s_add, s_sub, s_mul, s_div, s_mod, s_addT, s_eq, s_ne, s_lt, s_le, s_gt, s_ge, s_isB, s_isnB, s_isN, s_isnN, s_ixT, s_ixR, s_keyI, s_keyS, s_lenT, s_lenR, s_abs, s_int, s_tupT, s_truRB, s_min2, s_max2, s_repr, s_isi, s_itT, s_itR, s_itZT, s_lenIT, s_lenIR, s_lenIN, s_lenIZ, s_slcT, s_revT, s_alloc, List.getElem?_cons_zero, List.getElem?_cons_succ, List.set_cons_zero, List.set_cons_succ, Option.map_some, Option.bind_some, if_true, and_self, true_and, reduceIte, Bool.not_true, Bool.not_false, Bool.false_eq_true, eqT_int, Tgs.len, List.length_cons, List.length_nil, Nat.zero_add, Nat.reduceAdd, wipeL, decide_true, decide_false, ar]
      · rw [happ]; exact TSt.setO aT hl (ints_lim _ _)
      · intro n d hn h2
        rw [get_set_ne (by have := lt_of_get hn; omega), af n (by omega)]
        exact hf n d hn h2
      · simp [hm]
      · rw [happ]; exact get_set hg1
    · rintro s ⟨mv, hT, hf, hm, hg⟩
      exact ⟨by rw [s_lenIT, List.length_map], s, mv, hT, hf, hm, hg, rfl⟩
  obtain ⟨st', mv, b1, b2, b3, b4, b5⟩ := key
  refine ⟨st', mv, b1, b2, b3, ?_⟩
  unfold sV3
  rw [evS.eq_1, evE.eq_17, evEs.eq_2, b5]
  simp only [Ss_cons, Ss_nil, q_nx, q_rt, q_bk, q_ct, q_xc, evS.eq_1, evS.eq_2, evS.eq_3, evS.eq_5, evS.eq_6, evS.eq_7, evS.eq_8, evS.eq_9, evS.eq_10, evS.eq_11, evS.eq_14, evE.eq_1, evE.eq_2, evE.eq_3, evE.eq_4, evE.eq_5, evE.eq_6, evE.eq_7, evE.eq_8, evE.eq_9, evE.eq_10, evE.eq_11, evE.eq_12, evE.eq_13, evE.eq_14, evE.eq_15, evE.eq_16, evE.eq_17, evE.eq_18, evE.eq_19, evE.eq_20, evE.eq_21, evE.eq_22, evE.eq_23, evEs, evIt, evTg, evTgs, evC, evEo, evKV, R.bind_ok, R.bind_exc, R.thenS_ok, R.thenS_exc, R.ofOpt_some, R.noExc_ok, s_add, s_sub, s_mul, s_div, s_mod, s_addT, s_eq, s_ne, s_lt, s_le, s_gt, s_ge, s_isB, s_isnB, s_isN, s_isnN, s_ixT, s_ixR, s_keyI, s_keyS, s_lenT, s_lenR, s_abs, s_int, s_tupT, s_truRB, s_min2, s_max2, s_repr, s_isi, s_itT, s_itR, s_itZT, s_lenIT, s_lenIR, s_lenIN, s_lenIZ, s_slcT, s_revT, s_alloc, List.getElem?_cons_zero, List.getElem?_cons_succ, List.set_cons_zero, List.set_cons_succ, Option.map_some, Option.bind_some, if_true, and_self, true_and, reduceIte, Bool.not_true, Bool.not_false, Bool.false_eq_true, eqT_int, Tgs.len, List.length_cons, List.length_nil, Nat.zero_add, Nat.reduceAdd, wipeL, decide_true, decide_false, s_tupL b4]
def sV4 : S := .ifS (.cmp .NotEq (.bcall .repr (.cons (.call 2 (.cons (.var 4) (.cons (.var 5) (.cons (.var 7) .nil)))) .nil)) (.bcall .repr (.cons (.call 10 (.cons (.var 5) (.cons (.var 7) .nil))) .nil))) (.cons (.ret (.cst (.bl false)))
  .nil) .nil
theorem vals_4 {mv : List Int} {x2 x3 x6 x8 x9 x10 x11 x12 x13 x14 : Option T} (hc : 1 ≤ c ∧ c ≤ 5) (ho : Okay c rows) (hl : rows.length ≤ 7) (hr : st[rr]? = some (.lst (rows.map rowT))) (hs : Cls st) (hm : mv.length = c) :
    evS (run fns G (M + 4)) G sV4 (lsl ns x2 x3 (some (.int c)) (some (.ref rr)) x6 (some (.tup (mv.map .int))) x8 x9 x10 x11 x12 x13 x14) st = .nx (lsl ns x2 x3 (some (.int c)) (some (.ref rr)) x6 (some (.tup (mv.map .int))) x8 x9 x10 x11 x12 x13 x14) st := by
  have f10 : run fns G (M + 4) 10 [.ref rr, .tup (mv.map .int)] st = .ok (.bl (rows.all (keepR mv))) st := lkeeps_spec (N := M + 3) ho (by omega) (by omega) hr hs
  have f2 : run fns G (M + 4) 2 [.int c, .ref rr, .tup (mv.map .int)] st = .ok (.bl (rows.all (keepR mv))) st := by
    have := keeps_spec (N := M + 2) (vl := mv) (by omega) ho (by omega) (by omega) hr hs
    rw [decide_eq_true hm, Bool.true_and] at this
    exact this
  unfold sV4
  simp only [Ss_cons, Ss_nil, q_nx, q_rt, q_bk, q_ct, q_xc, evS.eq_1, evS.eq_2, evS.eq_3, evS.eq_5, evS.eq_6, evS.eq_7, evS.eq_8, evS.eq_9, evS.eq_10, evS.eq_11, evS.eq_14, evE.eq_1, evE.eq_2, evE.eq_3, evE.eq_4, evE.eq_5, evE.eq_6, evE.eq_7, evE.eq_8, evE.eq_9, evE.eq_10, evE.eq_11, evE.eq_12, evE.eq_13, evE.eq_14, evE.eq_15, evE.eq_16, evE.eq_17, evE.eq_18, evE.eq_19, evE.eq_20, evE.eq_21, evE.eq_22, evE.eq_23, evEs, evIt, evTg, evTgs, evC, evEo, evKV, R.bind_ok, R.bind_exc, R.thenS_ok, R.thenS_exc, R.ofOpt_some, R.noExc_ok, s_add, s_sub, s_mul, s_div, s_mod, s_addT, s_eq, s_ne, s_lt, s_le, s_gt, s_ge, s_isB, s_isnB, s_isN, s_isnN, s_ixT, s_ixR, s_keyI, s_keyS, s_lenT, s_lenR, s_abs, s_int, s_tupT, s_truRB, s_min2, s_max2, s_repr, s_isi, s_itT, s_itR, s_itZT, s_lenIT, s_lenIR, s_lenIN, s_lenIZ, s_slcT, s_revT, s_alloc, List.getElem?_cons_zero, List.getElem?_cons_succ, List.set_cons_zero, List.set_cons_succ, Option.map_some, Option.bind_some, if_true, and_self, true_and, reduceIte, Bool.not_true, Bool.not_false, Bool.false_eq_true, eqT_int, Tgs.len, List.length_cons, List.length_nil, Nat.zero_add, Nat.reduceAdd, wipeL, decide_true, decide_false, f10, f2, eqT_str, same_str]
def sV5 : S := .par 11 12 (.call 6 (.cons (.var 1) (.cons (.var 4) .nil))) (.call 6 (.cons (.var 1) (.cons (.var 4) .nil)))
theorem vals_5 {x2 x3 x5 x6 x7 x8 x9 x10 x11 x12 x13 x14 : Option T} (hc : 1 ≤ c ∧ c ≤ 5) (hs : TSt 1 0 xs st) :
    ∃ st', ∃ p q : Nat, p < c ∧ q < c ∧ TSt 1 0 xs st' ∧ (∀ n d, st[n]? = some d → 2 ≤ n → st'[n]? = some d) ∧ evS (run fns G (M + 4)) G sV5 (lsl ns x2 x3 (some (.int c)) x5 x6 x7 x8 x9 x10 x11 x12 x13 x14) st =
      .nx (lsl ns x2 x3 (some (.int c)) x5 x6 x7 x8 x9 x10 (some (.int p)) (some (.int q)) x13 x14) st' := by
  obtain ⟨k1, s1, a0, a1, ar, aT, al, af⟩ := tk (M := M) (m := c) hs (by omega) (by omega)
  obtain ⟨k2, s2, b0, b1, br, bT, bl, bf⟩ := tk (M := M) (m := c) aT (by omega) (by omega)
  have e1 : ((k1.toNat : Nat) : Int) = k1 := by omega
  have e2 : ((k2.toNat : Nat) : Int) = k2 := by omega
  refine ⟨s2, k1.toNat, k2.toNat, by omega, by omega, bT, fun n d h h2 => by rw [bf n (by omega), af n (by omega), h], ?_⟩
  unfold sV5
  simp only [Ss_cons, Ss_nil, q_nx, q_rt, q_bk, q_ct, q_xc, evS.eq_1, evS.eq_2, evS.eq_3, evS.eq_5, evS.eq_6, evS.eq_7, evS.eq_8, evS.eq_9, evS.eq_10, evS.eq_11, evS.eq_14, evE.eq_1, evE.eq_2, evE.eq_3, evE.eq_4, evE.eq_5, evE.eq_6, evE.eq_7, evE.eq_8, evE.eq_9, evE.eq_10, evE.eq_11, evE.eq_12, evE.eq_13, evE.eq_14, evE.eq_15, evE.eq_16, evE.eq_17, evE.eq_18, evE.eq_19, evE.eq_20, evE.eq_21, evE.eq_22, evE.eq_23, evEs, evIt, evTg, evTgs, evC, evEo, evKV, R.bind_ok, R.bind_exc, R.thenS_ok, R.thenS_exc, R.ofOpt_some, R.noExc_ok, s_add, s_sub, s_mul, s_div, s_mod, s_addT, s_eq, s_ne, s_lt, s_le, s_gt, s_ge, s_isB, s_isnB, s_isN, s_isnN, s_ixT, s_ixR, s_keyI, s_keyS, s_lenT, s_lenR, s_abs, s_int, s_tupT, s_truRB, s_min2, s_max2, s_repr, s_isi, s_itT, s_itR, s_itZT, s_lenIT, s_lenIR, s_lenIN, s_lenIZ, s_slcT, s_revT, s_alloc, List.getElem?_cons_zero, List.getElem?_cons_succ, List.set_cons_zero, List.set_cons_succ, Option.map_some, Option.bind_some, if_true, and_self, true_and, reduceIte, Bool.not_true, Bool.not_false, Bool.false_eq_true, eqT_int, Tgs.len, List.length_cons, List.length_nil, Nat.zero_add, Nat.reduceAdd, wipeL, decide_true, decide_false, ar, br, e1, e2]
def sV6 : S := .ifS (.not (.call 9 (.cons (.call 4 (.cons (.var 4) (.cons (.var 5) (.cons (.var 11) (.cons (.var 12) .nil))))) (.cons (.mcall .get (.call 12 (.cons (.var 4) (.cons (.var 5) (.cons (.var 12) .nil)))) (.cons (.var 11) .nil)) .nil)))) (.cons (.ret (.cst (.bl false)))
  .nil) .nil
theorem getD_non {o : Option Int} : (o.map T.int).getD .non = optT o := by cases o <;> rfl
theorem vals_6 {p q : Nat} {vl : List Int} {x2 x3 x6 x7 x8 x9 x10 x13 x14 : Option T} (hc : 1 ≤ c ∧ c ≤ 5) (ho : Okay c rows) (hl : rows.length ≤ 7) (hr : st[rr]? = some (.lst (rows.map rowT))) (hs : TSt 1 0 xs st) (hg : Good c rows vl) (hp : p < c) (hq : q < c) :
    ∃ st', TSt 1 0 xs st' ∧ evS (run fns G (M + 4)) G sV6 (lsl ns x2 x3 (some (.int c)) (some (.ref rr)) x6 x7 x8 x9 x10 (some (.int p)) (some (.int q)) x13 x14) st =
      .nx (lsl ns x2 x3 (some (.int c)) (some (.ref rr)) x6 x7 x8 x9 x10 (some (.int p)) (some (.int q)) x13 x14) st' := by
  have hf := good_feas ho hg
  have f4 : run fns G (M + 4) 4 [.int c, .ref rr, .int p, .int q] st = .ok (optT (relK rows (s0 q) c p)) st := tight_spec (N := M + 1) (by omega) ho hr hs.cls (by omega) ⟨_, hf⟩ hp hq
  obtain ⟨l, g1, g2⟩ := chains_spec (N := M + 3) (c := c) (b := q) hr hs.cls (by omega) (by omega)
  have g2' : run fns G (M + 4) 12 [.int c, .ref rr, .int q] st = .ok (.ref st.length) (st ++ [Cell.dic (encD l)]) := g2
  have hT : TSt 1 0 xs (st ++ [Cell.dic (encD l)]) := hs.app (encD_lim _ _)
  have f9 : run fns G (M + 4) 9 [optT (relK rows (s0 q) c p), optT (relK rows (s0 q) c p)] (st ++ [Cell.dic (encD l)]) = .ok (.bl true) (st ++ [Cell.dic (encD l)]) := same_opt (N := M + 2) hT.cls
  refine ⟨_, hT, ?_⟩
  unfold sV6
  simp only [Ss_cons, Ss_nil, q_nx, q_rt, q_bk, q_ct, q_xc, evS.eq_1, evS.eq_2, evS.eq_3, evS.eq_5, evS.eq_6, evS.eq_7, evS.eq_8, evS.eq_9, evS.eq_10, evS.eq_11, evS.eq_14, evE.eq_1, evE.eq_2, evE.eq_3, evE.eq_4, evE.eq_5, evE.eq_6, evE.eq_7, evE.eq_8, evE.eq_9, evE.eq_10, evE.eq_11, evE.eq_12, evE.eq_13, evE.eq_14, evE.eq_15, evE.eq_16, evE.eq_17, evE.eq_18, evE.eq_19, evE.eq_20, evE.eq_21, evE.eq_22, evE.eq_23, evEs, evIt, evTg, evTgs, evC, evEo, evKV, R.bind_ok, R.bind_exc, R.thenS_ok, R.thenS_exc, R.ofOpt_some, R.noExc_ok, s_add, s_sub, s_mul, s_div, s_mod, s_addT, s_eq, s_ne, s_lt, s_le, s_gt, s_ge, s_isB, s_isnB, s_isN, s_isnN, s_ixT, s_ixR, s_keyI, s_keyS, s_lenT, s_lenR, s_abs, s_int, s_tupT, s_truRB, s_min2, s_max2, s_repr, s_isi, s_itT, s_itR, s_itZT, s_lenIT, s_lenIR, s_lenIN, s_lenIZ, s_slcT, s_revT, s_alloc, List.getElem?_cons_zero, List.getElem?_cons_succ, List.set_cons_zero, List.set_cons_succ, Option.map_some, Option.bind_some, if_true, and_self, true_and, reduceIte, Bool.not_true, Bool.not_false, Bool.false_eq_true, eqT_int, Tgs.len, List.length_cons, List.length_nil, Nat.zero_add, Nat.reduceAdd, wipeL, decide_true, decide_false, f4, g2', s_okG get_new, s_get1 get_new, dLook_enc, g1, relK_eq ho hf, getD_non, f9]
end Lw

end

section
set_option Elab.async false
set_option linter.all false
set_option maxRecDepth 100000
set_option maxHeartbeats 4000000
set_option autoImplicit false
namespace Lw
open PF PySem Df
variable {M c rr : Nat} {rows : List Row} {st : Store} {ns : List T} {xs : List Int}
def sD : S := .asg (.tup (.cons (.nm 8) (.cons (.nm 9) .nil))) (.call 1 (.cons (.var 4) (.cons (.var 5) .nil)))
def bL : Ss := .cons sA1 (.cons sA2 (.cons sD (.cons sC (.cons sV1 (.cons sV2 (.cons sV3 (.cons sV4 (.cons sV5 (.cons sV6 .nil)))))))))
theorem turn_b {x2 x3 x4 x5 x6 x7 x8 x9 x10 x11 x12 x13 x14 : Option T} (hs : TSt 1 0 xs st) (hl : 2 ≤ st.length) :
    ∃ st', TSt 1 0 xs st' ∧ 2 ≤ st'.length ∧ ∃ y3 y4 y5 y6 y7 y8 y9 y10 y11 y12 y13 y14,
      (evSs (run fns G (M + 4)) G bL (lsl ns x2 x3 x4 x5 x6 x7 x8 x9 x10 x11 x12 x13 x14) st = .nx (lsl ns x2 y3 y4 y5 y6 y7 y8 y9 y10 y11 y12 y13 y14) st' ∨
       evSs (run fns G (M + 4)) G bL (lsl ns x2 x3 x4 x5 x6 x7 x8 x9 x10 x11 x12 x13 x14) st = .ct (lsl ns x2 y3 y4 y5 y6 y7 y8 y9 y10 y11 y12 y13 y14) st') := by
  obtain ⟨c, s1, c0, c1, cT, cl, e1⟩ := draw_c (M := M) (ns := ns) (x2 := x2) (x3 := x3) (x4 := x4) (x5 := x5) (x6 := x6) (x7 := x7) (x8 := x8) (x9 := x9) (x10 := x10) (x11 := x11) (x12 := x12) (x13 := x13) (x14 := x14) hs
  have hc : 1 ≤ c ∧ c ≤ 5 := ⟨c0, c1⟩
  obtain ⟨rows, s2, ho, hrl, rT, hr, rl, e2⟩ := draw_rows (M := M) (ns := ns) (x2 := x2) (x3 := x3) (x5 := x5) (x6 := x6) (x7 := x7) (x8 := x8) (x9 := x9) (x10 := x10) (x11 := x11) (x12 := x12) (x13 := x13) (x14 := x14) cT (by omega) hc
  have hrr : 2 ≤ s1.length := by omega
  obtain ⟨v, d1, d2, _⟩ := dif_spec (N := M + 2) (c := c) (by omega) ho hr rT.cls
  have d1' : run fns G (M + 4) 1 [.int c, .ref s1.length] s2 = .ok v s2 := d1
  unfold bL
  rw [Ss_cons, e1, q_nx, Ss_cons, e2, q_nx]
  rcases d2 with ⟨vl, rfl, hg⟩ | ⟨q, rfl, hq, ha, hn⟩
  · have eD : evS (run fns G (M + 4)) G sD (lsl ns x2 x3 (some (.int c)) (some (.ref s1.length)) x6 x7 x8 x9 x10 x11 x12 x13 x14) s2 = .nx (lsl ns x2 x3 (some (.int c)) (some (.ref s1.length)) x6 x7 (some (.str s_values)) (some (.tup (vl.map .int))) x10 x11 x12 x13 x14) s2 := by
      unfold sD
      simp only [Ss_cons, Ss_nil, q_nx, q_rt, q_bk, q_ct, q_xc, evS.eq_1, evS.eq_2, evS.eq_3, evS.eq_5, evS.eq_6, evS.eq_7, evS.eq_8, evS.eq_9, evS.eq_10, evS.eq_11, evS.eq_14, evE.eq_1, evE.eq_2, evE.eq_3, evE.eq_4, evE.eq_5, evE.eq_6, evE.eq_7, evE.eq_8, evE.eq_9, evE.eq_10, evE.eq_11, evE.eq_12, evE.eq_13, evE.eq_14, evE.eq_15, evE.eq_16, evE.eq_17, evE.eq_18, evE.eq_19, evE.eq_20, evE.eq_21, evE.eq_22, evE.eq_23, evEs, evIt, evTg, evTgs, evC, evEo, evKV, R.bind_ok, R.bind_exc, R.thenS_ok, R.thenS_exc, R.ofOpt_some, R.noExc_ok, s_add, s_sub, s_mul, s_div, s_mod, s_addT, s_eq, s_ne, s_lt, s_le, s_gt, s_ge, s_isB, s_isnB, s_isN, s_isnN, s_ixT, s_ixR, s_keyI, s_keyS, s_lenT, s_lenR, s_abs, s_int, s_tupT, s_truRB, s_min2, s_max2, s_repr, s_isi, s_itT, s_itR, s_itZT, s_lenIT, s_lenIR, s_lenIN, s_lenIZ, s_slcT, s_revT, s_alloc, List.getElem?_cons_zero, List.getElem?_cons_succ, List.set_cons_zero, List.set_cons_succ, Option.map_some, Option.bind_some, if_true, and_self, true_and, reduceIte, Bool.not_true, Bool.not_false, Bool.false_eq_true, eqT_int, Tgs.len, List.length_cons, List.length_nil, Nat.zero_add, Nat.reduceAdd, wipeL, decide_true, decide_false, d1']
    have eC : evS (run fns G (M + 4)) G sC (lsl ns x2 x3 (some (.int c)) (some (.ref s1.length)) x6 x7 (some (.str s_values)) (some (.tup (vl.map .int))) x10 x11 x12 x13 x14) s2 = .nx (lsl ns x2 x3 (some (.int c)) (some (.ref s1.length)) x6 x7 (some (.str s_values)) (some (.tup (vl.map .int))) x10 x11 x12 x13 x14) s2 := by
      unfold sC
      simp only [Ss_cons, Ss_nil, q_nx, q_rt, q_bk, q_ct, q_xc, evS.eq_1, evS.eq_2, evS.eq_3, evS.eq_5, evS.eq_6, evS.eq_7, evS.eq_8, evS.eq_9, evS.eq_10, evS.eq_11, evS.eq_14, evE.eq_1, evE.eq_2, evE.eq_3, evE.eq_4, evE.eq_5, evE.eq_6, evE.eq_7, evE.eq_8, evE.eq_9, evE.eq_10, evE.eq_11, evE.eq_12, evE.eq_13, evE.eq_14, evE.eq_15, evE.eq_16, evE.eq_17, evE.eq_18, evE.eq_19, evE.eq_20, evE.eq_21, evE.eq_22, evE.eq_23, evEs, evIt, evTg, evTgs, evC, evEo, evKV, R.bind_ok, R.bind_exc, R.thenS_ok, R.thenS_exc, R.ofOpt_some, R.noExc_ok, s_add, s_sub, s_mul, s_div, s_mod, s_addT, s_eq, s_ne, s_lt, s_le, s_gt, s_ge, s_isB, s_isnB, s_isN, s_isnN, s_ixT, s_ixR, s_keyI, s_keyS, s_lenT, s_lenR, s_abs, s_int, s_tupT, s_truRB, s_min2, s_max2, s_repr, s_isi, s_itT, s_itR, s_itZT, s_lenIT, s_lenIR, s_lenIN, s_lenIZ, s_slcT, s_revT, s_alloc, List.getElem?_cons_zero, List.getElem?_cons_succ, List.set_cons_zero, List.set_cons_succ, Option.map_some, Option.bind_some, if_true, and_self, true_and, reduceIte, Bool.not_true, Bool.not_false, Bool.false_eq_true, eqT_int, Tgs.len, List.length_cons, List.length_nil, Nat.zero_add, Nat.reduceAdd, wipeL, decide_true, decide_false, eqT_str, vc_ne]
    rw [Ss_cons, eD, q_nx, Ss_cons, eC, q_nx, Ss_cons, vals_1 hc ho hrl hr rT.cls hg, q_nx]
    obtain ⟨s3, x6', x10', t1, t2, t3⟩ := vals_2 (M := M) (ns := ns) (x2 := x2) (x3 := x3) (x6 := x6) (x7 := x7) (x8 := some (.str s_values)) (x10 := x10) (x11 := x11) (x12 := x12) (x13 := x13) (x14 := x14) hc ho hrl hr hrr rT hg
    rw [Ss_cons, t3, q_nx]
    have hr3 := t2 _ _ hr hrr
    have hl3 : 2 ≤ s3.length := by have := lt_of_get hr3; omega
    obtain ⟨s4, mv, u1, u2, u3, u4⟩ := vals_3 (M := M) (c := c) (vl := vl) (ns := ns) (x2 := x2) (x3 := x3) (x5 := some (.ref s1.length)) (x6 := x6') (x7 := x7) (x8 := some (.str s_values)) (x10 := x10') (x11 := x11) (x12 := x12) (x13 := x13) (x14 := x14) hl3 (by rw [hg.1]; omega) t1
    rw [Ss_cons, u4, q_nx]
    have hr4 := u2 _ _ hr3 hrr
    rw [Ss_cons, vals_4 hc ho hrl hr4 u1.cls (by rw [u3, hg.1]), q_nx]
    obtain ⟨s5, p, q, hp, hq, w1, w2, w3⟩ := vals_5 (M := M) (c := c) (ns := ns) (x2 := x2) (x3 := x3) (x5 := some (.ref s1.length)) (x6 := x6') (x7 := some (.tup (mv.map .int))) (x8 := some (.str s_values)) (x9 := some (.tup (vl.map .int))) (x10 := x10') (x11 := x11) (x12 := x12) (x13 := x13) (x14 := x14) hc u1
    rw [Ss_cons, w3, q_nx]
    have hr5 := w2 _ _ hr4 hrr
    obtain ⟨s6, y1, y2⟩ := vals_6 (M := M) (ns := ns) (x2 := x2) (x3 := x3) (x6 := x6') (x7 := some (.tup (mv.map .int))) (x8 := some (.str s_values)) (x9 := some (.tup (vl.map .int))) (x10 := x10') (x13 := x13) (x14 := x14) hc ho hrl hr5 w1 hg hp hq
    rw [Ss_cons, y2, q_nx, Ss_nil]
    have hl6 : 2 ≤ s6.length := by
      have := y1.tp.2.1
      obtain ⟨_, _, a, l, s, z, _, k⟩ := y1.tp
      have := lt_of_get k; omega
    exact ⟨s6, y1, hl6, _, _, _, _, _, _, _, _, _, _, _, _, .inl rfl⟩
  · have eD : evS (run fns G (M + 4)) G sD (lsl ns x2 x3 (some (.int c)) (some (.ref s1.length)) x6 x7 x8 x9 x10 x11 x12 x13 x14) s2 = .nx (lsl ns x2 x3 (some (.int c)) (some (.ref s1.length)) x6 x7 (some (.str s_circle)) (some (.tup (q.map .int))) x10 x11 x12 x13 x14) s2 := by
      unfold sD
      simp only [Ss_cons, Ss_nil, q_nx, q_rt, q_bk, q_ct, q_xc, evS.eq_1, evS.eq_2, evS.eq_3, evS.eq_5, evS.eq_6, evS.eq_7, evS.eq_8, evS.eq_9, evS.eq_10, evS.eq_11, evS.eq_14, evE.eq_1, evE.eq_2, evE.eq_3, evE.eq_4, evE.eq_5, evE.eq_6, evE.eq_7, evE.eq_8, evE.eq_9, evE.eq_10, evE.eq_11, evE.eq_12, evE.eq_13, evE.eq_14, evE.eq_15, evE.eq_16, evE.eq_17, evE.eq_18, evE.eq_19, evE.eq_20, evE.eq_21, evE.eq_22, evE.eq_23, evEs, evIt, evTg, evTgs, evC, evEo, evKV, R.bind_ok, R.bind_exc, R.thenS_ok, R.thenS_exc, R.ofOpt_some, R.noExc_ok, s_add, s_sub, s_mul, s_div, s_mod, s_addT, s_eq, s_ne, s_lt, s_le, s_gt, s_ge, s_isB, s_isnB, s_isN, s_isnN, s_ixT, s_ixR, s_keyI, s_keyS, s_lenT, s_lenR, s_abs, s_int, s_tupT, s_truRB, s_min2, s_max2, s_repr, s_isi, s_itT, s_itR, s_itZT, s_lenIT, s_lenIR, s_lenIN, s_lenIZ, s_slcT, s_revT, s_alloc, List.getElem?_cons_zero, List.getElem?_cons_succ, List.set_cons_zero, List.set_cons_succ, Option.map_some, Option.bind_some, if_true, and_self, true_and, reduceIte, Bool.not_true, Bool.not_false, Bool.false_eq_true, eqT_int, Tgs.len, List.length_cons, List.length_nil, Nat.zero_add, Nat.reduceAdd, wipeL, decide_true, decide_false, d1']
    obtain ⟨x3', eC⟩ := circ_b (M := M) (ns := ns) (x2 := x2) (x3 := x3) (x6 := x6) (x7 := x7) (x10 := x10) (x11 := x11) (x12 := x12) (x13 := x13) (x14 := x14) hc ho hr rT.cls hq ha hn
    rw [Ss_cons, eD, q_nx, Ss_cons, eC, q_ct]
    exact ⟨s2, rT, rl, _, _, _, _, _, _, _, _, _, _, _, _, .inr rfl⟩
/-! the odd ones -/
def sO : S := .asg (.nm 3) (.ix (.lst (.cons (.tup (.cons (.cst (.int 0)) (.cons (.lst .nil) (.cons (.cst (.int 0)) (.cons (.cst (.int 0)) .nil))))) (.cons (.tup (.cons (.cst (.int 13)) (.cons (.lst .nil) (.cons (.cst (.int 0)) (.cons (.cst (.int 0)) .nil))))) (.cons (.tup (.cons (.cst (.int 2)) (.cons (.lst (.cons (.tup (.cons (.cst (.int 2)) (.cons (.cst (.int 0)) (.cons (.cst (.int 1)) .nil)))) .nil)) (.cons (.cst (.int 0)) (.cons (.cst (.int 0)) .nil))))) (.cons (.tup (.cons (.cst (.int 2)) (.cons (.lst (.cons (.tup (.cons (.cst (.int 0)) (.cons (.neg (.cst (.int 1))) (.cons (.cst (.int 1)) .nil)))) .nil)) (.cons (.cst (.int 0)) (.cons (.cst (.int 0)) .nil))))) (.cons (.tup (.cons (.cst (.int 2)) (.cons (.lst .nil) (.cons (.cst (.int 2)) (.cons (.cst (.int 0)) .nil))))) (.cons (.tup (.cons (.cst (.int 2)) (.cons (.lst .nil) (.cons (.cst (.int 0)) (.cons (.neg (.cst (.int 1))) .nil))))) .nil))))))) (.call 6 (.cons (.var 1) (.cons (.cst (.int 6)) .nil))))
def odds (L : Nat) : List T := [.tup [.int 0, .ref L, .int 0, .int 0], .tup [.int 13, .ref (L + 1), .int 0, .int 0], .tup [.int 2, .ref (L + 2), .int 0, .int 0], .tup [.int 2, .ref (L + 3), .int 0, .int 0], .tup [.int 2, .ref (L + 4), .int 2, .int 0], .tup [.int 2, .ref (L + 5), .int 0, .int (-1)]]
def oS (st : Store) : Store := st ++ [.lst [], .lst [], .lst [.tup [.int 2, .int 0, .int 1]], .lst [.tup [.int 0, .int (-1), .int 1]], .lst [], .lst []]
theorem four_le : (4 ≤ sizeLine) = True := eq_true (lt_size2 (by omega))
theorem odd_e {cl : Call} {sl : Sl} : evE cl G (.lst (.cons (.tup (.cons (.cst (.int 0)) (.cons (.lst .nil) (.cons (.cst (.int 0)) (.cons (.cst (.int 0)) .nil))))) (.cons (.tup (.cons (.cst (.int 13)) (.cons (.lst .nil) (.cons (.cst (.int 0)) (.cons (.cst (.int 0)) .nil))))) (.cons (.tup (.cons (.cst (.int 2)) (.cons (.lst (.cons (.tup (.cons (.cst (.int 2)) (.cons (.cst (.int 0)) (.cons (.cst (.int 1)) .nil)))) .nil)) (.cons (.cst (.int 0)) (.cons (.cst (.int 0)) .nil))))) (.cons (.tup (.cons (.cst (.int 2)) (.cons (.lst (.cons (.tup (.cons (.cst (.int 0)) (.cons (.neg (.cst (.int 1))) (.cons (.cst (.int 1)) .nil)))) .nil)) (.cons (.cst (.int 0)) (.cons (.cst (.int 0)) .nil))))) (.cons (.tup (.cons (.cst (.int 2)) (.cons (.lst .nil) (.cons (.cst (.int 2)) (.cons (.cst (.int 0)) .nil))))) (.cons (.tup (.cons (.cst (.int 2)) (.cons (.lst .nil) (.cons (.cst (.int 0)) (.cons (.neg (.cst (.int 1))) .nil))))) .nil))))))) sl st =
    .ok (.ref (st.length + 6)) (oS st ++ [.lst (odds st.length)]) := by
  simp only [Ss_cons, Ss_nil, q_nx, q_rt, q_bk, q_ct, q_xc, evS.eq_1, evS.eq_2, evS.eq_3, evS.eq_5, evS.eq_6, evS.eq_7, evS.eq_8, evS.eq_9, evS.eq_10, evS.eq_11, evS.eq_14, evE.eq_1, evE.eq_2, evE.eq_3, evE.eq_4, evE.eq_5, evE.eq_6, evE.eq_7, evE.eq_8, evE.eq_9, evE.eq_10, evE.eq_11, evE.eq_12, evE.eq_13, evE.eq_14, evE.eq_15, evE.eq_16, evE.eq_17, evE.eq_18, evE.eq_19, evE.eq_20, evE.eq_21, evE.eq_22, evE.eq_23, evEs, evIt, evTg, evTgs, evC, evEo, evKV, R.bind_ok, R.bind_exc, R.thenS_ok, R.thenS_exc, R.ofOpt_some, R.noExc_ok, s_add, s_sub, s_mul, s_div, s_mod, s_addT, s_eq, s_ne, s_lt, s_le, s_gt, s_ge, s_isB, s_isnB, s_isN, s_isnN, s_ixT, s_ixR, s_keyI, s_keyS, s_lenT, s_lenR, s_abs, s_int, s_tupT, s_truRB, s_min2, s_max2, s_repr, s_isi, s_itT, s_itR, s_itZT, s_lenIT, s_lenIR, s_lenIN, s_lenIZ, s_slcT, s_revT, s_alloc, List.getElem?_cons_zero, List.getElem?_cons_succ, List.set_cons_zero, List.set_cons_succ, Option.map_some, Option.bind_some, if_true, and_self, true_and, reduceIte, Bool.not_true, Bool.not_false, Bool.false_eq_true, eqT_int, Tgs.len, List.length_cons, List.length_nil, Nat.zero_add, Nat.reduceAdd, wipeL, decide_true, decide_false, z_le, one_le, three_le, four_le, six_le]
  unfold oS odds
  simp only [List.append_assoc, List.cons_append, List.nil_append, List.length_append, List.length_cons, List.length_nil, Nat.zero_add, Nat.reduceAdd]
theorem oS_len : (oS st).length = st.length + 6 := by unfold oS; simp
theorem oS_get {i : Nat} {d : Cell} (h : ([.lst [], .lst [], .lst [.tup [.int 2, .int 0, .int 1]], .lst [.tup [.int 0, .int (-1), .int 1]], .lst [], .lst []] : List Cell)[i]? = some d) : (oS st)[st.length + i]? = some d := by
  unfold oS; rw [List.getElem?_append_right (by omega), Nat.add_sub_cancel_left, h]
theorem tlim (a : Int) (r : Nat) (p q : Int) (n : Nat) (h : r < n) : T.lim n (.tup [.int a, .ref r, .int p, .int q]) = true := by
  simp [T.lim, T.lims, h]
theorem oS_T (h : TSt 1 0 xs st) : TSt 1 0 xs (oS st ++ [.lst (odds st.length)]) := by
  have e : oS st ++ [.lst (odds st.length)] = st ++ [.lst []] ++ [.lst []] ++ [.lst [.tup [.int 2, .int 0, .int 1]]] ++ [.lst [.tup [.int 0, .int (-1), .int 1]]] ++ [.lst []] ++ [.lst []] ++ [.lst (odds st.length)] := by
    unfold oS; simp only [List.append_assoc, List.cons_append, List.nil_append]
  rw [e]
  refine (((((((h.app rfl).app rfl).app rfl).app rfl).app rfl).app rfl).app ?_)
  unfold odds
  simp [Cell.lim, T.lim, T.lims]
  omega
theorem ix4_0 : ixN 4 0 = some 0 := rfl
theorem ix4_1 : ixN 4 1 = some 1 := rfl
theorem ix4_2 : ixN 4 2 = some 2 := rfl
theorem ix4_3 : ixN 4 3 = some 3 := rfl
theorem odd_b {x2 x3 x4 x5 x6 x7 x8 x9 x10 x11 x12 x13 x14 : Option T} (hs : TSt 1 0 xs st) (hl : 2 ≤ st.length) :
    ∃ st' k r p q, TSt 1 0 xs st' ∧ run fns G (M + 4) 13 [.int k, .ref r, .int p, .int q] st' = .ok (.bl true) st' ∧
      evS (run fns G (M + 4)) G sO (lsl ns x2 x3 x4 x5 x6 x7 x8 x9 x10 x11 x12 x13 x14) st = .nx (lsl ns x2 (some (.tup [.int k, .ref r, .int p, .int q])) x4 x5 x6 x7 x8 x9 x10 x11 x12 x13 x14) st' := by
  obtain ⟨j, s1, j0, j1, jr, jT, jl, jf⟩ := tk (M := M) (m := 6) (oS_T hs) (by omega) (by omega)
  have g6 : s1[st.length + 6]? = some (.lst (odds st.length)) := by
    rw [jf _ (by omega), ← oS_len]; exact get_new
  have gi : ∀ i d, ([.lst [], .lst [], .lst [.tup [.int 2, .int 0, .int 1]], .lst [.tup [.int 0, .int (-1), .int 1]], .lst [], .lst []] : List Cell)[i]? = some d → s1[st.length + i]? = some d := by
    intro i d h
    rw [jf _ (by omega)]; exact get_app (oS_get h)
  have hS := jT.cls
  have all : ∀ k r p q, (odds st.length)[j.toNat]? = some (.tup [.int k, .ref r, .int p, .int q]) → run fns G (M + 4) 13 [.int k, .ref r, .int p, .int q] s1 = .ok (.bl true) s1 →
      ∃ st' k r p q, TSt 1 0 xs st' ∧ run fns G (M + 4) 13 [.int k, .ref r, .int p, .int q] st' = .ok (.bl true) st' ∧
        evS (run fns G (M + 4)) G sO (lsl ns x2 x3 x4 x5 x6 x7 x8 x9 x10 x11 x12 x13 x14) st = .nx (lsl ns x2 (some (.tup [.int k, .ref r, .int p, .int q])) x4 x5 x6 x7 x8 x9 x10 x11 x12 x13 x14) st' := by
    intro k r p q h hr
    refine ⟨s1, k, r, p, q, jT, hr, ?_⟩
    have ij : ixN (odds st.length).length j = some j.toNat := by
      unfold ixN; rw [if_pos j0, if_pos (by simpa [odds] using j1)]
    unfold sO
    rw [evS.eq_1, evE.eq_21, odd_e, R.bind_ok]
    simp only [Ss_cons, Ss_nil, q_nx, q_rt, q_bk, q_ct, q_xc, evS.eq_1, evS.eq_2, evS.eq_3, evS.eq_5, evS.eq_6, evS.eq_7, evS.eq_8, evS.eq_9, evS.eq_10, evS.eq_11, evS.eq_14, evE.eq_1, evE.eq_2, evE.eq_3, evE.eq_4, evE.eq_5, evE.eq_6, evE.eq_7, evE.eq_8, evE.eq_9, evE.eq_10, evE.eq_11, evE.eq_12, evE.eq_13, evE.eq_14, evE.eq_15, evE.eq_16, evE.eq_17, evE.eq_18, evE.eq_19, evE.eq_20, evE.eq_21, evE.eq_22, evE.eq_23, evEs, evIt, evTg, evTgs, evC, evEo, evKV, R.bind_ok, R.bind_exc, R.thenS_ok, R.thenS_exc, R.ofOpt_some, R.noExc_ok, s_add, s_sub, s_mul, s_div, s_mod, s_addT, s_eq, s_ne, s_lt, s_le, s_gt, s_ge, s_isB, s_isnB, s_isN, s_isnN, s_ixT, s_ixR, s_keyI, s_keyS, s_lenT, s_lenR, s_abs, s_int, s_tupT, s_truRB, s_min2, s_max2, s_repr, s_isi, s_itT, s_itR, s_itZT, s_lenIT, s_lenIR, s_lenIN, s_lenIZ, s_slcT, s_revT, s_alloc, List.getElem?_cons_zero, List.getElem?_cons_succ, List.set_cons_zero, List.set_cons_succ, Option.map_some, Option.bind_some, if_true, and_self, true_and, reduceIte, Bool.not_true, Bool.not_false, Bool.false_eq_true, eqT_int, Tgs.len, List.length_cons, List.length_nil, Nat.zero_add, Nat.reduceAdd, wipeL, decide_true, decide_false, jr, s_ixL g6, ij, h]
  have hj : j = 0 ∨ j = 1 ∨ j = 2 ∨ j = 3 ∨ j = 4 ∨ j = 5 := by omega
  rcases hj with rfl | rfl | rfl | rfl | rfl | rfl
  · exact all _ _ _ _ rfl (refused_t (N := M) hS (tight_bad (N := M) hS (check_bad1 (N := M + 1) hS (by omega))))
  · exact all _ _ _ _ rfl (refused_t (N := M) hS (tight_bad (N := M) hS (check_bad1 (N := M + 1) hS (by omega))))
  · exact all _ _ _ _ rfl (refused_t (N := M) hS (tight_bad (N := M) hS (check_bad2 (N := M + 1) hS (gi 2 _ rfl) (by omega))))
  · exact all _ _ _ _ rfl (refused_t (N := M) hS (tight_bad (N := M) hS (check_bad2 (N := M + 1) hS (gi 3 _ rfl) (by omega))))
  · exact all _ _ _ _ rfl (refused_t (N := M) hS (tight_rng (N := M) hS (gi 4 _ rfl) (by omega)))
  · exact all _ _ _ _ rfl (refused_t (N := M) hS (tight_rng (N := M) hS (gi 5 _ rfl) (by omega)))
theorem is_14 : IsFn f_law 1 15 b_law := ⟨rfl, rfl, rfl, rfl⟩
theorem b_law_eq : b_law = .cons (.asg (.nm 1) (.call 5 (.cons (.var 0) .nil))) (.cons (.for (.nm 2) (.range (.cons (.cst (.int 5)) .nil)) bL) (.cons sO
  (.cons (.ret (.and (.call 13 (.cons (.ix (.var 3) (.cst (.int 0))) (.cons (.ix (.var 3) (.cst (.int 1))) (.cons (.ix (.var 3) (.cst (.int 2))) (.cons (.ix (.var 3) (.cst (.int 3))) .nil))))) (.not (.call 13 (.cons (.cst (.int 2)) (.cons (.lst .nil) (.cons (.cst (.int 0)) (.cons (.cst (.int 1)) .nil)))))))) .nil))) := rfl
theorem law_run (M : Nat) (ms : List Int) (hn : ms.length ≤ 63) : ∃ st, run fns G (M + 5) 14 [.rol (ms.map .int)] [] = .ok (.bl true) st := by
  rw [run_as fn_14 is_14 [some (.rol (ms.map .int)), none, none, none, none, none, none, none, none, none, none, none, none, none, none] rfl rfl]
  obtain ⟨xs, st, h1, h2, h3⟩ := tape_spec (G := G) (N := M + 3) fn_5 is_5 ms hn
  rw [b_law_eq]
  have e1 : evS (run fns G (M + 4)) G (.asg (.nm 1) (.call 5 (.cons (.var 0) .nil))) [some (.rol (ms.map .int)), none, none, none, none, none, none, none, none, none, none, none, none, none, none] [] = .nx (lsl (ms.map .int) none none none none none none none none none none none none none) st := by
    have h1' : run fns G (M + 4) 5 [.rol (ms.map .int)] [] = .ok (.ref 1) st := h1
    simp only [Ss_cons, Ss_nil, q_nx, q_rt, q_bk, q_ct, q_xc, evS.eq_1, evS.eq_2, evS.eq_3, evS.eq_5, evS.eq_6, evS.eq_7, evS.eq_8, evS.eq_9, evS.eq_10, evS.eq_11, evS.eq_14, evE.eq_1, evE.eq_2, evE.eq_3, evE.eq_4, evE.eq_5, evE.eq_6, evE.eq_7, evE.eq_8, evE.eq_9, evE.eq_10, evE.eq_11, evE.eq_12, evE.eq_13, evE.eq_14, evE.eq_15, evE.eq_16, evE.eq_17, evE.eq_18, evE.eq_19, evE.eq_20, evE.eq_21, evE.eq_22, evE.eq_23, evEs, evIt, evTg, evTgs, evC, evEo, evKV, R.bind_ok, R.bind_exc, R.thenS_ok, R.thenS_exc, R.ofOpt_some, R.noExc_ok, s_add, s_sub, s_mul, s_div, s_mod, s_addT, s_eq, s_ne, s_lt, s_le, s_gt, s_ge, s_isB, s_isnB, s_isN, s_isnN, s_ixT, s_ixR, s_keyI, s_keyS, s_lenT, s_lenR, s_abs, s_int, s_tupT, s_truRB, s_min2, s_max2, s_repr, s_isi, s_itT, s_itR, s_itZT, s_lenIT, s_lenIR, s_lenIN, s_lenIZ, s_slcT, s_revT, s_alloc, List.getElem?_cons_zero, List.getElem?_cons_succ, List.set_cons_zero, List.set_cons_succ, Option.map_some, Option.bind_some, if_true, and_self, true_and, reduceIte, Bool.not_true, Bool.not_false, Bool.false_eq_true, eqT_int, Tgs.len, List.length_cons, List.length_nil, Nat.zero_add, Nat.reduceAdd, wipeL, decide_true, decide_false, h1']
  rw [Ss_cons, e1, q_nx, Ss_cons]
  have e2 : ∃ st', TSt 1 0 xs st' ∧ 2 ≤ st'.length ∧ ∃ x2 x3 x4 x5 x6 x7 x8 x9 x10 x11 x12 x13 x14, evS (run fns G (M + 4)) G (.for (.nm 2) (.range (.cons (.cst (.int 5)) .nil)) bL) (lsl (ms.map .int) none none none none none none none none none none none none none) st = .nx (lsl (ms.map .int) x2 x3 x4 x5 x6 x7 x8 x9 x10 x11 x12 x13 x14) st' := by
    refine for_ind (P := fun r => ∃ st', TSt 1 0 xs st' ∧ 2 ≤ st'.length ∧ ∃ x2 x3 x4 x5 x6 x7 x8 x9 x10 x11 x12 x13 x14, r = .nx (lsl (ms.map .int) x2 x3 x4 x5 x6 x7 x8 x9 x10 x11 x12 x13 x14) st') 5
      (fun i sl s => TSt 1 0 xs s ∧ 2 ≤ s.length ∧ ∃ x2 x3 x4 x5 x6 x7 x8 x9 x10 x11 x12 x13 x14, sl = lsl (ms.map .int) x2 x3 x4 x5 x6 x7 x8 x9 x10 x11 x12 x13 x14) (J := .rng 0 5) (st' := st)
      (it_rng1 (i := 5) (by simp only [Ss_cons, Ss_nil, q_nx, q_rt, q_bk, q_ct, q_xc, evS.eq_1, evS.eq_2, evS.eq_3, evS.eq_5, evS.eq_6, evS.eq_7, evS.eq_8, evS.eq_9, evS.eq_10, evS.eq_11, evS.eq_14, evE.eq_1, evE.eq_2, evE.eq_3, evE.eq_4, evE.eq_5, evE.eq_6, evE.eq_7, evE.eq_8, evE.eq_9, evE.eq_10, evE.eq_11, evE.eq_12, evE.eq_13, evE.eq_14, evE.eq_15, evE.eq_16, evE.eq_17, evE.eq_18, evE.eq_19, evE.eq_20, evE.eq_21, evE.eq_22, evE.eq_23, evEs, evIt, evTg, evTgs, evC, evEo, evKV, R.bind_ok, R.bind_exc, R.thenS_ok, R.thenS_exc, R.ofOpt_some, R.noExc_ok, s_add, s_sub, s_mul, s_div, s_mod, s_addT, s_eq, s_ne, s_lt, s_le, s_gt, s_ge, s_isB, s_isnB, s_isN, s_isnN, s_ixT, s_ixR, s_keyI, s_keyS, s_lenT, s_lenR, s_abs, s_int, s_tupT, s_truRB, s_min2, s_max2, s_repr, s_isi, s_itT, s_itR, s_itZT, s_lenIT, s_lenIR, s_lenIN, s_lenIZ, s_slcT, s_revT, s_alloc, List.getElem?_cons_zero, List.getElem?_cons_succ, List.set_cons_zero, List.set_cons_succ, Option.map_some, Option.bind_some, if_true, and_self, true_and, reduceIte, Bool.not_true, Bool.not_false, Bool.false_eq_true, eqT_int, Tgs.len, List.length_cons, List.length_nil, Nat.zero_add, Nat.reduceAdd, wipeL, decide_true, decide_false]) (b62 (by omega) (by omega)) rfl) s_lenIN ⟨h2, by omega, _, _, _, _, _, _, _, _, _, _, _, _, _, rfl⟩ ?_ ?_
    · rintro i sl s hi ⟨hT, hL, x2, x3, x4, x5, x6, x7, x8, x9, x10, x11, x12, x13, x14, rfl⟩
      refine ⟨.int i, lsl (ms.map .int) (some (.int i)) x3 x4 x5 x6 x7 x8 x9 x10 x11 x12 x13 x14, s, by rw [s_getIN, if_pos hi, Int.zero_add], by simp only [Ss_cons, Ss_nil, q_nx, q_rt, q_bk, q_ct, q_xc, evS.eq_1, evS.eq_2, evS.eq_3, evS.eq_5, evS.eq_6, evS.eq_7, evS.eq_8, evS.eq_9, evS.eq_10, evS.eq_11, evS.eq_14, evE.eq_1, evE.eq_2, evE.eq_3, evE.eq_4, evE.eq_5, evE.eq_6, evE.eq_7, evE.eq_8, evE.eq_9, evE.eq_10, evE.eq_11, evE.eq_12, evE.eq_13, evE.eq_14, evE.eq_15, evE.eq_16, evE.eq_17, evE.eq_18, evE.eq_19, evE.eq_20, evE.eq_21, evE.eq_22, evE.eq_23, evEs, evIt, evTg, evTgs, evC, evEo, evKV, R.bind_ok, R.bind_exc, R.thenS_ok, R.thenS_exc, R.ofOpt_some, R.noExc_ok, s_add, s_sub, s_mul, s_div, s_mod, s_addT, s_eq, s_ne, s_lt, s_le, s_gt, s_ge, s_isB, s_isnB, s_isN, s_isnN, s_ixT, s_ixR, s_keyI, s_keyS, s_lenT, s_lenR, s_abs, s_int, s_tupT, s_truRB, s_min2, s_max2, s_repr, s_isi, s_itT, s_itR, s_itZT, s_lenIT, s_lenIR, s_lenIN, s_lenIZ, s_slcT, s_revT, s_alloc, List.getElem?_cons_zero, List.getElem?_cons_succ, List.set_cons_zero, List.set_cons_succ, Option.map_some, Option.bind_some, if_true, and_self, true_and, reduceIte, Bool.not_true, Bool.not_false, Bool.false_eq_true, eqT_int, Tgs.len, List.length_cons, List.length_nil, Nat.zero_add, Nat.reduceAdd, wipeL, decide_true, decide_false], ?_⟩
      obtain ⟨s', t1, t2, y3, y4, y5, y6, y7, y8, y9, y10, y11, y12, y13, y14, t3⟩ := turn_b (M := M) (ns := ms.map .int) (x2 := some (.int i)) (x3 := x3) (x4 := x4) (x5 := x5) (x6 := x6) (x7 := x7) (x8 := x8) (x9 := x9) (x10 := x10) (x11 := x11) (x12 := x12) (x13 := x13) (x14 := x14) hT hL
      rcases t3 with t3 | t3 <;> rw [t3] <;> exact ⟨t1, t2, _, _, _, _, _, _, _, _, _, _, _, _, _, rfl⟩
    · rintro sl s ⟨hT, hL, x2, x3, x4, x5, x6, x7, x8, x9, x10, x11, x12, x13, x14, rfl⟩
      exact ⟨s_lenIN, s, hT, hL, _, _, _, _, _, _, _, _, _, _, _, _, _, rfl⟩
  obtain ⟨s2, hT2, hL2, x2, x3, x4, x5, x6, x7, x8, x9, x10, x11, x12, x13, x14, e2⟩ := e2
  rw [e2, q_nx, Ss_cons]
  obtain ⟨s3, k, r, p, q, hT3, hr3, e3⟩ := odd_b (M := M) (ns := ms.map .int) (x2 := x2) (x3 := x3) (x4 := x4) (x5 := x5) (x6 := x6) (x7 := x7) (x8 := x8) (x9 := x9) (x10 := x10) (x11 := x11) (x12 := x12) (x13 := x13) (x14 := x14) hT2 hL2
  rw [e3, q_nx]
  have hC : Cls (s3 ++ [Cell.lst []]) := hT3.cls.app rfl
  have gn : (s3 ++ [Cell.lst []])[s3.length]? = some (.lst (([] : List Row).map rowT)) := get_new
  have f13 : run fns G (M + 4) 13 [.int 2, .ref s3.length, .int 0, .int 1] (s3 ++ [Cell.lst []]) = .ok (.bl false) (s3 ++ [Cell.lst []]) :=
    refused_f (N := M) hC (tight_spec (N := M) (c := 2) (p := 0) (q := 1) (by omega) nil_okay gn hC (by simp) nil_feas (by omega) (by omega))
  simp only [Ss_cons, Ss_nil, q_nx, q_rt, q_bk, q_ct, q_xc, evS.eq_1, evS.eq_2, evS.eq_3, evS.eq_5, evS.eq_6, evS.eq_7, evS.eq_8, evS.eq_9, evS.eq_10, evS.eq_11, evS.eq_14, evE.eq_1, evE.eq_2, evE.eq_3, evE.eq_4, evE.eq_5, evE.eq_6, evE.eq_7, evE.eq_8, evE.eq_9, evE.eq_10, evE.eq_11, evE.eq_12, evE.eq_13, evE.eq_14, evE.eq_15, evE.eq_16, evE.eq_17, evE.eq_18, evE.eq_19, evE.eq_20, evE.eq_21, evE.eq_22, evE.eq_23, evEs, evIt, evTg, evTgs, evC, evEo, evKV, R.bind_ok, R.bind_exc, R.thenS_ok, R.thenS_exc, R.ofOpt_some, R.noExc_ok, s_add, s_sub, s_mul, s_div, s_mod, s_addT, s_eq, s_ne, s_lt, s_le, s_gt, s_ge, s_isB, s_isnB, s_isN, s_isnN, s_ixT, s_ixR, s_keyI, s_keyS, s_lenT, s_lenR, s_abs, s_int, s_tupT, s_truRB, s_min2, s_max2, s_repr, s_isi, s_itT, s_itR, s_itZT, s_lenIT, s_lenIR, s_lenIN, s_lenIZ, s_slcT, s_revT, s_alloc, List.getElem?_cons_zero, List.getElem?_cons_succ, List.set_cons_zero, List.set_cons_succ, Option.map_some, Option.bind_some, if_true, and_self, true_and, reduceIte, Bool.not_true, Bool.not_false, Bool.false_eq_true, eqT_int, Tgs.len, List.length_cons, List.length_nil, Nat.zero_add, Nat.reduceAdd, wipeL, decide_true, decide_false, ix4_0, ix4_1, ix4_2, ix4_3, hr3, z_le, f13]
  rw [r_rt]
  exact ⟨_, gc_pure (st := []) (by intro c hc; cases hc) rfl rfl⟩
theorem law_holds (ms : List Int) (hn : ms.length ≤ 63) : ∃ st, PF.run Lw.fns Lw.G 230 14 [.rol (ms.map .int)] [] = .ok (.bl true) st := law_run 225 ms hn
end Lw

end

section
/-! The text keeps the code. -/
namespace Lw
open PF PySem L2
def top (i : Nat) : Stmt := PySem.Challenge.pw_proofhouse_k29_whole_differences.main.body.getD i (.Pass ⟨0, 0, 0, 0⟩)
theorem sc_check_differences : FnScope ["count", "rows", "first", "second", "_"] ["count", "rows"] (defScope (top 5)) := ⟨rfl, rfl, rfl, by decide +kernel, rfl, by decide +kernel, by decide +kernel⟩
theorem cm_check_differences : compSs 200 ⟨["count", "rows", "first", "second", "_"], defScope (top 5), fun _ => true, true, true, gn⟩ (defBody (top 5)) = some b_check_differences := by kernel_rfl
theorem sc_differences : FnScope ["count", "rows", "values", "came", "last", "_", "circle", "at", "index", "first", "second", "most"] ["count", "rows"] (defScope (top 6)) := ⟨rfl, rfl, rfl, by decide +kernel, rfl, by decide +kernel, by decide +kernel⟩
theorem cm_differences : compSs 200 ⟨["count", "rows", "values", "came", "last", "_", "circle", "at", "index", "first", "second", "most"], defScope (top 6), fun _ => true, true, true, gn⟩ (defBody (top 6)) = some b_differences := by kernel_rfl
theorem sc_keeps : FnScope ["count", "rows", "values", "first", "second", "most"] ["count", "rows", "values"] (defScope (top 7)) := ⟨rfl, rfl, rfl, by decide +kernel, rfl, by decide +kernel, by decide +kernel⟩
theorem cm_keeps : compSs 200 ⟨["count", "rows", "values", "first", "second", "most"], defScope (top 7), fun _ => true, true, true, gn⟩ (defBody (top 7)) = some b_keeps := by kernel_rfl
theorem sc_is_against : FnScope ["count", "rows", "circle", "index", "following"] ["count", "rows", "circle"] (defScope (top 8)) := ⟨rfl, rfl, rfl, by decide +kernel, rfl, by decide +kernel, by decide +kernel⟩
theorem cm_is_against : compSs 200 ⟨["count", "rows", "circle", "index", "following"], defScope (top 8), fun _ => true, true, true, gn⟩ (defBody (top 8)) = some b_is_against := by kernel_rfl
theorem sc_tightest : FnScope ["count", "rows", "first", "second", "best", "_", "one", "other", "most"] ["count", "rows", "first", "second"] (defScope (top 9)) := ⟨rfl, rfl, rfl, by decide +kernel, rfl, by decide +kernel, by decide +kernel⟩
theorem cm_tightest : compSs 200 ⟨["count", "rows", "first", "second", "best", "_", "one", "other", "most"], defScope (top 9), fun _ => true, true, true, gn⟩ (defBody (top 9)) = some b_tightest := by kernel_rfl
theorem sc__law_tape : FnScope ["script", "cells", "seed", "cell"] ["script"] (defScope (top 11)) := ⟨rfl, rfl, rfl, by decide +kernel, rfl, by decide +kernel, by decide +kernel⟩
theorem cm__law_tape : compSs 200 ⟨["script", "cells", "seed", "cell"], defScope (top 11), fun _ => true, true, true, gn⟩ (defBody (top 11)) = some b__law_tape := by kernel_rfl
theorem sc__law_take : FnScope ["tape", "many", "mixed", "drawn"] ["tape", "many"] (defScope (top 12)) := ⟨rfl, rfl, rfl, by decide +kernel, rfl, by decide +kernel, by decide +kernel⟩
theorem cm__law_take : compSs 200 ⟨["tape", "many", "mixed", "drawn"], defScope (top 12), fun _ => true, true, true, gn⟩ (defBody (top 12)) = some b__law_take := by kernel_rfl
theorem sc__law_is_integer : FnScope ["actual"] ["actual"] (defScope (top 13)) := ⟨rfl, rfl, rfl, by decide +kernel, rfl, by decide +kernel, by decide +kernel⟩
theorem cm__law_is_integer : compSs 200 ⟨["actual"], defScope (top 13), fun _ => true, true, true, gn⟩ (defBody (top 13)) = some b__law_is_integer := by kernel_rfl
theorem sc__law_same_items : FnScope ["actual", "expected", "k"] ["actual", "expected"] (defScope (top 14)) := ⟨rfl, rfl, rfl, by decide +kernel, rfl, by decide +kernel, by decide +kernel⟩
theorem cm__law_same_items : compSs 200 ⟨["actual", "expected", "k"], defScope (top 14), fun _ => true, true, true, gn⟩ (defBody (top 14)) = some b__law_same_items := by kernel_rfl
theorem sc__law_same : FnScope ["actual", "expected", "key"] ["actual", "expected"] (defScope (top 15)) := ⟨rfl, rfl, rfl, by decide +kernel, rfl, by decide +kernel, by decide +kernel⟩
theorem cm__law_same : compSs 200 ⟨["actual", "expected", "key"], defScope (top 15), fun _ => true, true, true, gn⟩ (defBody (top 15)) = some b__law_same := by kernel_rfl
theorem sc__law_keeps : FnScope ["rows", "values", "a", "b", "most"] ["rows", "values"] (defScope (top 16)) := ⟨rfl, rfl, rfl, by decide +kernel, rfl, by decide +kernel, by decide +kernel⟩
theorem cm__law_keeps : compSs 200 ⟨["rows", "values", "a", "b", "most"], defScope (top 16), fun _ => true, true, true, gn⟩ (defBody (top 16)) = some b__law_keeps := by kernel_rfl
theorem sc__law_against : FnScope ["rows", "circle", "follow", "k"] ["rows", "circle"] (defScope (top 17)) := ⟨rfl, rfl, rfl, by decide +kernel, rfl, by decide +kernel, by decide +kernel⟩
theorem cm__law_against : compSs 200 ⟨["rows", "circle", "follow", "k"], defScope (top 17), fun _ => true, true, true, gn⟩ (defBody (top 17)) = some b__law_against := by kernel_rfl
theorem sc__law_chains : FnScope ["count", "rows", "start", "best", "turn", "a", "b", "most"] ["count", "rows", "start"] (defScope (top 18)) := ⟨rfl, rfl, rfl, by decide +kernel, rfl, by decide +kernel, by decide +kernel⟩
theorem cm__law_chains : compSs 200 ⟨["count", "rows", "start", "best", "turn", "a", "b", "most"], defScope (top 18), fun _ => true, true, true, gn⟩ (defBody (top 18)) = some b__law_chains := by kernel_rfl
theorem sc__law_is_refused : FnScope ["count", "rows", "a", "b"] ["count", "rows", "a", "b"] (defScope (top 19)) := ⟨rfl, rfl, rfl, by decide +kernel, rfl, by decide +kernel, by decide +kernel⟩
theorem cm__law_is_refused : compSs 200 ⟨["count", "rows", "a", "b"], defScope (top 19), fun _ => true, true, true, gn⟩ (defBody (top 19)) = some b__law_is_refused := by kernel_rfl
theorem sc_law : FnScope ["script", "tape", "turn", "odd", "count", "rows", "v", "moved", "word", "told", "least", "a", "b", "k", "one"] ["script"] (defScope (top 20)) := ⟨rfl, rfl, rfl, by decide +kernel, rfl, by decide +kernel, by decide +kernel⟩
theorem cm_law : compSs 200 ⟨["script", "tape", "turn", "odd", "count", "rows", "v", "moved", "word", "told", "least", "a", "b", "k", "one"], defScope (top 20), fun _ => true, true, true, gn⟩ (defBody (top 20)) = some b_law := by kernel_rfl
section
variable {K : PySem.W.Frag} {h : Heap} {mg : Str → Option Value}
theorem t_check_differences {f : Addr} {od an : Option Addr} {sl : Array (Option Value)} {oc kV dc pm cd ct : Value} (X : K.In h) (H : h.Ns mainGlobals mg)
    (a : PySem.W.nsIn K mainGlobals "check_differences" = some (some (.ref f))) (l : K.lookup f = some ⟨oc, od, .func (PySem.W.fnOf "check_differences" "check_differences" (defArgs (top 5)) (defBody (top 5)) (defScope (top 5)) .none kV dc pm an cd ct), sl⟩) (c : PySem.W.codeIn K cd "check_differences" = true) (k : PySem.W.keepIn K (.ref f) = true) : FnT K mg gn f_check_differences :=
  ⟨top 5, f, _, ["count", "rows", "first", "second", "_"], 200, ⟨fun_mk l c k, PySem.W.mg_of X H a, fun us hl => match us, hl with | [_, _], _ => rfl, sc_check_differences, cm_check_differences, rfl, rfl⟩⟩
theorem t_differences {f : Addr} {od an : Option Addr} {sl : Array (Option Value)} {oc kV dc pm cd ct : Value} (X : K.In h) (H : h.Ns mainGlobals mg)
    (a : PySem.W.nsIn K mainGlobals "differences" = some (some (.ref f))) (l : K.lookup f = some ⟨oc, od, .func (PySem.W.fnOf "differences" "differences" (defArgs (top 6)) (defBody (top 6)) (defScope (top 6)) .none kV dc pm an cd ct), sl⟩) (c : PySem.W.codeIn K cd "differences" = true) (k : PySem.W.keepIn K (.ref f) = true) : FnT K mg gn f_differences :=
  ⟨top 6, f, _, ["count", "rows", "values", "came", "last", "_", "circle", "at", "index", "first", "second", "most"], 200, ⟨fun_mk l c k, PySem.W.mg_of X H a, fun us hl => match us, hl with | [_, _], _ => rfl, sc_differences, cm_differences, rfl, rfl⟩⟩
theorem t_keeps {f : Addr} {od an : Option Addr} {sl : Array (Option Value)} {oc kV dc pm cd ct : Value} (X : K.In h) (H : h.Ns mainGlobals mg)
    (a : PySem.W.nsIn K mainGlobals "keeps" = some (some (.ref f))) (l : K.lookup f = some ⟨oc, od, .func (PySem.W.fnOf "keeps" "keeps" (defArgs (top 7)) (defBody (top 7)) (defScope (top 7)) .none kV dc pm an cd ct), sl⟩) (c : PySem.W.codeIn K cd "keeps" = true) (k : PySem.W.keepIn K (.ref f) = true) : FnT K mg gn f_keeps :=
  ⟨top 7, f, _, ["count", "rows", "values", "first", "second", "most"], 200, ⟨fun_mk l c k, PySem.W.mg_of X H a, fun us hl => match us, hl with | [_, _, _], _ => rfl, sc_keeps, cm_keeps, rfl, rfl⟩⟩
theorem t_is_against {f : Addr} {od an : Option Addr} {sl : Array (Option Value)} {oc kV dc pm cd ct : Value} (X : K.In h) (H : h.Ns mainGlobals mg)
    (a : PySem.W.nsIn K mainGlobals "is_against" = some (some (.ref f))) (l : K.lookup f = some ⟨oc, od, .func (PySem.W.fnOf "is_against" "is_against" (defArgs (top 8)) (defBody (top 8)) (defScope (top 8)) .none kV dc pm an cd ct), sl⟩) (c : PySem.W.codeIn K cd "is_against" = true) (k : PySem.W.keepIn K (.ref f) = true) : FnT K mg gn f_is_against :=
  ⟨top 8, f, _, ["count", "rows", "circle", "index", "following"], 200, ⟨fun_mk l c k, PySem.W.mg_of X H a, fun us hl => match us, hl with | [_, _, _], _ => rfl, sc_is_against, cm_is_against, rfl, rfl⟩⟩
theorem t_tightest {f : Addr} {od an : Option Addr} {sl : Array (Option Value)} {oc kV dc pm cd ct : Value} (X : K.In h) (H : h.Ns mainGlobals mg)
    (a : PySem.W.nsIn K mainGlobals "tightest" = some (some (.ref f))) (l : K.lookup f = some ⟨oc, od, .func (PySem.W.fnOf "tightest" "tightest" (defArgs (top 9)) (defBody (top 9)) (defScope (top 9)) .none kV dc pm an cd ct), sl⟩) (c : PySem.W.codeIn K cd "tightest" = true) (k : PySem.W.keepIn K (.ref f) = true) : FnT K mg gn f_tightest :=
  ⟨top 9, f, _, ["count", "rows", "first", "second", "best", "_", "one", "other", "most"], 200, ⟨fun_mk l c k, PySem.W.mg_of X H a, fun us hl => match us, hl with | [_, _, _, _], _ => rfl, sc_tightest, cm_tightest, rfl, rfl⟩⟩
theorem t__law_tape {f : Addr} {od an : Option Addr} {sl : Array (Option Value)} {oc kV dc pm cd ct : Value} (X : K.In h) (H : h.Ns mainGlobals mg)
    (a : PySem.W.nsIn K mainGlobals "_law_tape" = some (some (.ref f))) (l : K.lookup f = some ⟨oc, od, .func (PySem.W.fnOf "_law_tape" "_law_tape" (defArgs (top 11)) (defBody (top 11)) (defScope (top 11)) .none kV dc pm an cd ct), sl⟩) (c : PySem.W.codeIn K cd "_law_tape" = true) (k : PySem.W.keepIn K (.ref f) = true) : FnT K mg gn f__law_tape :=
  ⟨top 11, f, _, ["script", "cells", "seed", "cell"], 200, ⟨fun_mk l c k, PySem.W.mg_of X H a, fun us hl => match us, hl with | [_], _ => rfl, sc__law_tape, cm__law_tape, rfl, rfl⟩⟩
theorem t__law_take {f : Addr} {od an : Option Addr} {sl : Array (Option Value)} {oc kV dc pm cd ct : Value} (X : K.In h) (H : h.Ns mainGlobals mg)
    (a : PySem.W.nsIn K mainGlobals "_law_take" = some (some (.ref f))) (l : K.lookup f = some ⟨oc, od, .func (PySem.W.fnOf "_law_take" "_law_take" (defArgs (top 12)) (defBody (top 12)) (defScope (top 12)) .none kV dc pm an cd ct), sl⟩) (c : PySem.W.codeIn K cd "_law_take" = true) (k : PySem.W.keepIn K (.ref f) = true) : FnT K mg gn f__law_take :=
  ⟨top 12, f, _, ["tape", "many", "mixed", "drawn"], 200, ⟨fun_mk l c k, PySem.W.mg_of X H a, fun us hl => match us, hl with | [_, _], _ => rfl, sc__law_take, cm__law_take, rfl, rfl⟩⟩
theorem t__law_is_integer {f : Addr} {od an : Option Addr} {sl : Array (Option Value)} {oc kV dc pm cd ct : Value} (X : K.In h) (H : h.Ns mainGlobals mg)
    (a : PySem.W.nsIn K mainGlobals "_law_is_integer" = some (some (.ref f))) (l : K.lookup f = some ⟨oc, od, .func (PySem.W.fnOf "_law_is_integer" "_law_is_integer" (defArgs (top 13)) (defBody (top 13)) (defScope (top 13)) .none kV dc pm an cd ct), sl⟩) (c : PySem.W.codeIn K cd "_law_is_integer" = true) (k : PySem.W.keepIn K (.ref f) = true) : FnT K mg gn f__law_is_integer :=
  ⟨top 13, f, _, ["actual"], 200, ⟨fun_mk l c k, PySem.W.mg_of X H a, fun us hl => match us, hl with | [_], _ => rfl, sc__law_is_integer, cm__law_is_integer, rfl, rfl⟩⟩
theorem t__law_same_items {f : Addr} {od an : Option Addr} {sl : Array (Option Value)} {oc kV dc pm cd ct : Value} (X : K.In h) (H : h.Ns mainGlobals mg)
    (a : PySem.W.nsIn K mainGlobals "_law_same_items" = some (some (.ref f))) (l : K.lookup f = some ⟨oc, od, .func (PySem.W.fnOf "_law_same_items" "_law_same_items" (defArgs (top 14)) (defBody (top 14)) (defScope (top 14)) .none kV dc pm an cd ct), sl⟩) (c : PySem.W.codeIn K cd "_law_same_items" = true) (k : PySem.W.keepIn K (.ref f) = true) : FnT K mg gn f__law_same_items :=
  ⟨top 14, f, _, ["actual", "expected", "k"], 200, ⟨fun_mk l c k, PySem.W.mg_of X H a, fun us hl => match us, hl with | [_, _], _ => rfl, sc__law_same_items, cm__law_same_items, rfl, rfl⟩⟩
theorem t__law_same {f : Addr} {od an : Option Addr} {sl : Array (Option Value)} {oc kV dc pm cd ct : Value} (X : K.In h) (H : h.Ns mainGlobals mg)
    (a : PySem.W.nsIn K mainGlobals "_law_same" = some (some (.ref f))) (l : K.lookup f = some ⟨oc, od, .func (PySem.W.fnOf "_law_same" "_law_same" (defArgs (top 15)) (defBody (top 15)) (defScope (top 15)) .none kV dc pm an cd ct), sl⟩) (c : PySem.W.codeIn K cd "_law_same" = true) (k : PySem.W.keepIn K (.ref f) = true) : FnT K mg gn f__law_same :=
  ⟨top 15, f, _, ["actual", "expected", "key"], 200, ⟨fun_mk l c k, PySem.W.mg_of X H a, fun us hl => match us, hl with | [_, _], _ => rfl, sc__law_same, cm__law_same, rfl, rfl⟩⟩
theorem t__law_keeps {f : Addr} {od an : Option Addr} {sl : Array (Option Value)} {oc kV dc pm cd ct : Value} (X : K.In h) (H : h.Ns mainGlobals mg)
    (a : PySem.W.nsIn K mainGlobals "_law_keeps" = some (some (.ref f))) (l : K.lookup f = some ⟨oc, od, .func (PySem.W.fnOf "_law_keeps" "_law_keeps" (defArgs (top 16)) (defBody (top 16)) (defScope (top 16)) .none kV dc pm an cd ct), sl⟩) (c : PySem.W.codeIn K cd "_law_keeps" = true) (k : PySem.W.keepIn K (.ref f) = true) : FnT K mg gn f__law_keeps :=
  ⟨top 16, f, _, ["rows", "values", "a", "b", "most"], 200, ⟨fun_mk l c k, PySem.W.mg_of X H a, fun us hl => match us, hl with | [_, _], _ => rfl, sc__law_keeps, cm__law_keeps, rfl, rfl⟩⟩
theorem t__law_against {f : Addr} {od an : Option Addr} {sl : Array (Option Value)} {oc kV dc pm cd ct : Value} (X : K.In h) (H : h.Ns mainGlobals mg)
    (a : PySem.W.nsIn K mainGlobals "_law_against" = some (some (.ref f))) (l : K.lookup f = some ⟨oc, od, .func (PySem.W.fnOf "_law_against" "_law_against" (defArgs (top 17)) (defBody (top 17)) (defScope (top 17)) .none kV dc pm an cd ct), sl⟩) (c : PySem.W.codeIn K cd "_law_against" = true) (k : PySem.W.keepIn K (.ref f) = true) : FnT K mg gn f__law_against :=
  ⟨top 17, f, _, ["rows", "circle", "follow", "k"], 200, ⟨fun_mk l c k, PySem.W.mg_of X H a, fun us hl => match us, hl with | [_, _], _ => rfl, sc__law_against, cm__law_against, rfl, rfl⟩⟩
theorem t__law_chains {f : Addr} {od an : Option Addr} {sl : Array (Option Value)} {oc kV dc pm cd ct : Value} (X : K.In h) (H : h.Ns mainGlobals mg)
    (a : PySem.W.nsIn K mainGlobals "_law_chains" = some (some (.ref f))) (l : K.lookup f = some ⟨oc, od, .func (PySem.W.fnOf "_law_chains" "_law_chains" (defArgs (top 18)) (defBody (top 18)) (defScope (top 18)) .none kV dc pm an cd ct), sl⟩) (c : PySem.W.codeIn K cd "_law_chains" = true) (k : PySem.W.keepIn K (.ref f) = true) : FnT K mg gn f__law_chains :=
  ⟨top 18, f, _, ["count", "rows", "start", "best", "turn", "a", "b", "most"], 200, ⟨fun_mk l c k, PySem.W.mg_of X H a, fun us hl => match us, hl with | [_, _, _], _ => rfl, sc__law_chains, cm__law_chains, rfl, rfl⟩⟩
theorem t__law_is_refused {f : Addr} {od an : Option Addr} {sl : Array (Option Value)} {oc kV dc pm cd ct : Value} (X : K.In h) (H : h.Ns mainGlobals mg)
    (a : PySem.W.nsIn K mainGlobals "_law_is_refused" = some (some (.ref f))) (l : K.lookup f = some ⟨oc, od, .func (PySem.W.fnOf "_law_is_refused" "_law_is_refused" (defArgs (top 19)) (defBody (top 19)) (defScope (top 19)) .none kV dc pm an cd ct), sl⟩) (c : PySem.W.codeIn K cd "_law_is_refused" = true) (k : PySem.W.keepIn K (.ref f) = true) : FnT K mg gn f__law_is_refused :=
  ⟨top 19, f, _, ["count", "rows", "a", "b"], 200, ⟨fun_mk l c k, PySem.W.mg_of X H a, fun us hl => match us, hl with | [_, _, _, _], _ => rfl, sc__law_is_refused, cm__law_is_refused, rfl, rfl⟩⟩
theorem t_law {f : Addr} {od an : Option Addr} {sl : Array (Option Value)} {oc kV dc pm cd ct : Value} (X : K.In h) (H : h.Ns mainGlobals mg)
    (a : PySem.W.nsIn K mainGlobals "law" = some (some (.ref f))) (l : K.lookup f = some ⟨oc, od, .func (PySem.W.fnOf "law" "law" (defArgs (top 20)) (defBody (top 20)) (defScope (top 20)) .none kV dc pm an cd ct), sl⟩) (c : PySem.W.codeIn K cd "law" = true) (k : PySem.W.keepIn K (.ref f) = true) : FnT K mg gn f_law :=
  ⟨top 20, f, _, ["script", "tape", "turn", "odd", "count", "rows", "v", "moved", "word", "told", "least", "a", "b", "k", "one"], 200, ⟨fun_mk l c k, PySem.W.mg_of X H a, fun us hl => match us, hl with | [_], _ => rfl, sc_law, cm_law, rfl, rfl⟩⟩
end
theorem all_mk {K : PySem.W.Frag} {h : Heap} {mg : Str → Option Value} (X : K.In h) (H : h.Ns mainGlobals mg)
    {f0 : Addr} {od0 an0 : Option Addr} {sl0 : Array (Option Value)} {oc0 kV0 dc0 pm0 cd0 ct0 : Value} (a0 : PySem.W.nsIn K mainGlobals "check_differences" = some (some (.ref f0))) (l0 : K.lookup f0 = some ⟨oc0, od0, .func (PySem.W.fnOf "check_differences" "check_differences" (defArgs (top 5)) (defBody (top 5)) (defScope (top 5)) .none kV0 dc0 pm0 an0 cd0 ct0), sl0⟩) (c0 : PySem.W.codeIn K cd0 "check_differences" = true) (k0 : PySem.W.keepIn K (.ref f0) = true)
    {f1 : Addr} {od1 an1 : Option Addr} {sl1 : Array (Option Value)} {oc1 kV1 dc1 pm1 cd1 ct1 : Value} (a1 : PySem.W.nsIn K mainGlobals "differences" = some (some (.ref f1))) (l1 : K.lookup f1 = some ⟨oc1, od1, .func (PySem.W.fnOf "differences" "differences" (defArgs (top 6)) (defBody (top 6)) (defScope (top 6)) .none kV1 dc1 pm1 an1 cd1 ct1), sl1⟩) (c1 : PySem.W.codeIn K cd1 "differences" = true) (k1 : PySem.W.keepIn K (.ref f1) = true)
    {f2 : Addr} {od2 an2 : Option Addr} {sl2 : Array (Option Value)} {oc2 kV2 dc2 pm2 cd2 ct2 : Value} (a2 : PySem.W.nsIn K mainGlobals "keeps" = some (some (.ref f2))) (l2 : K.lookup f2 = some ⟨oc2, od2, .func (PySem.W.fnOf "keeps" "keeps" (defArgs (top 7)) (defBody (top 7)) (defScope (top 7)) .none kV2 dc2 pm2 an2 cd2 ct2), sl2⟩) (c2 : PySem.W.codeIn K cd2 "keeps" = true) (k2 : PySem.W.keepIn K (.ref f2) = true)
    {f3 : Addr} {od3 an3 : Option Addr} {sl3 : Array (Option Value)} {oc3 kV3 dc3 pm3 cd3 ct3 : Value} (a3 : PySem.W.nsIn K mainGlobals "is_against" = some (some (.ref f3))) (l3 : K.lookup f3 = some ⟨oc3, od3, .func (PySem.W.fnOf "is_against" "is_against" (defArgs (top 8)) (defBody (top 8)) (defScope (top 8)) .none kV3 dc3 pm3 an3 cd3 ct3), sl3⟩) (c3 : PySem.W.codeIn K cd3 "is_against" = true) (k3 : PySem.W.keepIn K (.ref f3) = true)
    {f4 : Addr} {od4 an4 : Option Addr} {sl4 : Array (Option Value)} {oc4 kV4 dc4 pm4 cd4 ct4 : Value} (a4 : PySem.W.nsIn K mainGlobals "tightest" = some (some (.ref f4))) (l4 : K.lookup f4 = some ⟨oc4, od4, .func (PySem.W.fnOf "tightest" "tightest" (defArgs (top 9)) (defBody (top 9)) (defScope (top 9)) .none kV4 dc4 pm4 an4 cd4 ct4), sl4⟩) (c4 : PySem.W.codeIn K cd4 "tightest" = true) (k4 : PySem.W.keepIn K (.ref f4) = true)
    {f5 : Addr} {od5 an5 : Option Addr} {sl5 : Array (Option Value)} {oc5 kV5 dc5 pm5 cd5 ct5 : Value} (a5 : PySem.W.nsIn K mainGlobals "_law_tape" = some (some (.ref f5))) (l5 : K.lookup f5 = some ⟨oc5, od5, .func (PySem.W.fnOf "_law_tape" "_law_tape" (defArgs (top 11)) (defBody (top 11)) (defScope (top 11)) .none kV5 dc5 pm5 an5 cd5 ct5), sl5⟩) (c5 : PySem.W.codeIn K cd5 "_law_tape" = true) (k5 : PySem.W.keepIn K (.ref f5) = true)
    {f6 : Addr} {od6 an6 : Option Addr} {sl6 : Array (Option Value)} {oc6 kV6 dc6 pm6 cd6 ct6 : Value} (a6 : PySem.W.nsIn K mainGlobals "_law_take" = some (some (.ref f6))) (l6 : K.lookup f6 = some ⟨oc6, od6, .func (PySem.W.fnOf "_law_take" "_law_take" (defArgs (top 12)) (defBody (top 12)) (defScope (top 12)) .none kV6 dc6 pm6 an6 cd6 ct6), sl6⟩) (c6 : PySem.W.codeIn K cd6 "_law_take" = true) (k6 : PySem.W.keepIn K (.ref f6) = true)
    {f7 : Addr} {od7 an7 : Option Addr} {sl7 : Array (Option Value)} {oc7 kV7 dc7 pm7 cd7 ct7 : Value} (a7 : PySem.W.nsIn K mainGlobals "_law_is_integer" = some (some (.ref f7))) (l7 : K.lookup f7 = some ⟨oc7, od7, .func (PySem.W.fnOf "_law_is_integer" "_law_is_integer" (defArgs (top 13)) (defBody (top 13)) (defScope (top 13)) .none kV7 dc7 pm7 an7 cd7 ct7), sl7⟩) (c7 : PySem.W.codeIn K cd7 "_law_is_integer" = true) (k7 : PySem.W.keepIn K (.ref f7) = true)
    {f8 : Addr} {od8 an8 : Option Addr} {sl8 : Array (Option Value)} {oc8 kV8 dc8 pm8 cd8 ct8 : Value} (a8 : PySem.W.nsIn K mainGlobals "_law_same_items" = some (some (.ref f8))) (l8 : K.lookup f8 = some ⟨oc8, od8, .func (PySem.W.fnOf "_law_same_items" "_law_same_items" (defArgs (top 14)) (defBody (top 14)) (defScope (top 14)) .none kV8 dc8 pm8 an8 cd8 ct8), sl8⟩) (c8 : PySem.W.codeIn K cd8 "_law_same_items" = true) (k8 : PySem.W.keepIn K (.ref f8) = true)
    {f9 : Addr} {od9 an9 : Option Addr} {sl9 : Array (Option Value)} {oc9 kV9 dc9 pm9 cd9 ct9 : Value} (a9 : PySem.W.nsIn K mainGlobals "_law_same" = some (some (.ref f9))) (l9 : K.lookup f9 = some ⟨oc9, od9, .func (PySem.W.fnOf "_law_same" "_law_same" (defArgs (top 15)) (defBody (top 15)) (defScope (top 15)) .none kV9 dc9 pm9 an9 cd9 ct9), sl9⟩) (c9 : PySem.W.codeIn K cd9 "_law_same" = true) (k9 : PySem.W.keepIn K (.ref f9) = true)
    {f10 : Addr} {od10 an10 : Option Addr} {sl10 : Array (Option Value)} {oc10 kV10 dc10 pm10 cd10 ct10 : Value} (a10 : PySem.W.nsIn K mainGlobals "_law_keeps" = some (some (.ref f10))) (l10 : K.lookup f10 = some ⟨oc10, od10, .func (PySem.W.fnOf "_law_keeps" "_law_keeps" (defArgs (top 16)) (defBody (top 16)) (defScope (top 16)) .none kV10 dc10 pm10 an10 cd10 ct10), sl10⟩) (c10 : PySem.W.codeIn K cd10 "_law_keeps" = true) (k10 : PySem.W.keepIn K (.ref f10) = true)
    {f11 : Addr} {od11 an11 : Option Addr} {sl11 : Array (Option Value)} {oc11 kV11 dc11 pm11 cd11 ct11 : Value} (a11 : PySem.W.nsIn K mainGlobals "_law_against" = some (some (.ref f11))) (l11 : K.lookup f11 = some ⟨oc11, od11, .func (PySem.W.fnOf "_law_against" "_law_against" (defArgs (top 17)) (defBody (top 17)) (defScope (top 17)) .none kV11 dc11 pm11 an11 cd11 ct11), sl11⟩) (c11 : PySem.W.codeIn K cd11 "_law_against" = true) (k11 : PySem.W.keepIn K (.ref f11) = true)
    {f12 : Addr} {od12 an12 : Option Addr} {sl12 : Array (Option Value)} {oc12 kV12 dc12 pm12 cd12 ct12 : Value} (a12 : PySem.W.nsIn K mainGlobals "_law_chains" = some (some (.ref f12))) (l12 : K.lookup f12 = some ⟨oc12, od12, .func (PySem.W.fnOf "_law_chains" "_law_chains" (defArgs (top 18)) (defBody (top 18)) (defScope (top 18)) .none kV12 dc12 pm12 an12 cd12 ct12), sl12⟩) (c12 : PySem.W.codeIn K cd12 "_law_chains" = true) (k12 : PySem.W.keepIn K (.ref f12) = true)
    {f13 : Addr} {od13 an13 : Option Addr} {sl13 : Array (Option Value)} {oc13 kV13 dc13 pm13 cd13 ct13 : Value} (a13 : PySem.W.nsIn K mainGlobals "_law_is_refused" = some (some (.ref f13))) (l13 : K.lookup f13 = some ⟨oc13, od13, .func (PySem.W.fnOf "_law_is_refused" "_law_is_refused" (defArgs (top 19)) (defBody (top 19)) (defScope (top 19)) .none kV13 dc13 pm13 an13 cd13 ct13), sl13⟩) (c13 : PySem.W.codeIn K cd13 "_law_is_refused" = true) (k13 : PySem.W.keepIn K (.ref f13) = true)
    {f14 : Addr} {od14 an14 : Option Addr} {sl14 : Array (Option Value)} {oc14 kV14 dc14 pm14 cd14 ct14 : Value} (a14 : PySem.W.nsIn K mainGlobals "law" = some (some (.ref f14))) (l14 : K.lookup f14 = some ⟨oc14, od14, .func (PySem.W.fnOf "law" "law" (defArgs (top 20)) (defBody (top 20)) (defScope (top 20)) .none kV14 dc14 pm14 an14 cd14 ct14), sl14⟩) (c14 : PySem.W.codeIn K cd14 "law" = true) (k14 : PySem.W.keepIn K (.ref f14) = true)
    {C0 : Addr} (x0 : PySem.W.nsIn K mainGlobals "ProofError" = some (some (.ref C0))) (xe0 : PySem.W.excIn K C0 [.type "ValueError", .type "Exception", .type "BaseException", .type "object"] "ValueError.__new__" = true) (xk0 : PySem.W.keepIn K (.ref C0) = true) (xs0 : PySem.W.subIn K (.ref C0) (.type "BaseException") = some true) (xt0 : PySem.W.typeIn K (.ref C0) = some (.type "type")) (xi0 : PySem.W.isClsIn K C0 = true) (xb0 : PySem.W.subIn K (.ref C0) (.ref C0) = some true)
    {C1 : Addr} (x1 : PySem.W.nsIn K mainGlobals "NoEquation" = some (some (.ref C1))) (xe1 : PySem.W.excIn K C1 [.type "ValueError", .type "Exception", .type "BaseException", .type "object"] "ValueError.__new__" = true) (xk1 : PySem.W.keepIn K (.ref C1) = true) (xs1 : PySem.W.subIn K (.ref C1) (.type "BaseException") = some true) (xt1 : PySem.W.typeIn K (.ref C1) = some (.type "type")) (xi1 : PySem.W.isClsIn K C1 = true) (xb1 : PySem.W.subIn K (.ref C1) (.ref C1) = some true)
    {tk0 : Tok} (cg0 : PySem.W.nsIn K mainGlobals "MOST_VARIABLES" = some (some (.int 12 tk0)))
    (z0 : PySem.W.nsIn K mainGlobals "range" = some none)
    (z1 : PySem.W.nsIn K mainGlobals "enumerate" = some none)
    (z2 : PySem.W.nsIn K mainGlobals "tuple" = some none)
    (z3 : PySem.W.nsIn K mainGlobals "len" = some none)
    (z4 : PySem.W.nsIn K mainGlobals "all" = some none)
    (z5 : PySem.W.nsIn K mainGlobals "zip" = some none)
    (z6 : PySem.W.nsIn K mainGlobals "sum" = some none)
    (z7 : PySem.W.nsIn K mainGlobals "abs" = some none)
    (z8 : PySem.W.nsIn K mainGlobals "int" = some none)
    (z9 : PySem.W.nsIn K mainGlobals "isinstance" = some none)
    (z10 : PySem.W.nsIn K mainGlobals "bool" = some none)
    (z11 : PySem.W.nsIn K mainGlobals "str" = some none)
    (z12 : PySem.W.nsIn K mainGlobals "list" = some none)
    (z13 : PySem.W.nsIn K mainGlobals "dict" = some none)
    (z14 : PySem.W.nsIn K mainGlobals "repr" = some none)
    (z15 : PySem.W.nsIn K mainGlobals "min" = some none) : ∃ A : Ad, Txt K mg A fns G gn := by
  refine ⟨⟨fun i => [C0, C1][i]?, fun _ => none⟩, ⟨?_, rfl, ?_, ?_, ?_⟩⟩
  · intro F hF
    simp only [fns, List.mem_cons, List.mem_nil_iff, or_false] at hF
    rcases hF with rfl | rfl | rfl | rfl | rfl | rfl | rfl | rfl | rfl | rfl | rfl | rfl | rfl | rfl | rfl
    · exact t_check_differences X H a0 l0 c0 k0
    · exact t_differences X H a1 l1 c1 k1
    · exact t_keeps X H a2 l2 c2 k2
    · exact t_is_against X H a3 l3 c3 k3
    · exact t_tightest X H a4 l4 c4 k4
    · exact t__law_tape X H a5 l5 c5 k5
    · exact t__law_take X H a6 l6 c6 k6
    · exact t__law_is_integer X H a7 l7 c7 k7
    · exact t__law_same_items X H a8 l8 c8 k8
    · exact t__law_same X H a9 l9 c9 k9
    · exact t__law_keeps X H a10 l10 c10 k10
    · exact t__law_against X H a11 l11 c11 k11
    · exact t__law_chains X H a12 l12 c12 k12
    · exact t__law_is_refused X H a13 l13 c13 k13
    · exact t_law X H a14 l14 c14 k14
  · intro x hx
    have hx : x ∈ gn.blt := by simpa using hx
    simp only [gn, List.mem_cons, List.mem_nil_iff, or_false] at hx
    rcases hx with rfl | rfl | rfl | rfl | rfl | rfl | rfl | rfl | rfl | rfl | rfl | rfl | rfl | rfl | rfl | rfl
    · exact PySem.W.mg_none_of X H z0
    · exact PySem.W.mg_none_of X H z1
    · exact PySem.W.mg_none_of X H z2
    · exact PySem.W.mg_none_of X H z3
    · exact PySem.W.mg_none_of X H z4
    · exact PySem.W.mg_none_of X H z5
    · exact PySem.W.mg_none_of X H z6
    · exact PySem.W.mg_none_of X H z7
    · exact PySem.W.mg_none_of X H z8
    · exact PySem.W.mg_none_of X H z9
    · exact PySem.W.mg_none_of X H z10
    · exact PySem.W.mg_none_of X H z11
    · exact PySem.W.mg_none_of X H z12
    · exact PySem.W.mg_none_of X H z13
    · exact PySem.W.mg_none_of X H z14
    · exact PySem.W.mg_none_of X H z15
  · intro i x hi
    match i, hi with
    | 0, hi => cases hi; exact ⟨_, .int 12, .int 12, PySem.W.mg_of X H cg0, ⟨_, rfl⟩, rfl, fun _ _ => .int _⟩
    | _ + 1, hi => simp [gn] at hi
  · intro i x hi
    match i, hi with
    | 0, hi => cases hi; exact ⟨C0, PySem.W.mg_of X H x0, rfl, ⟨xe0, xk0, xs0, xt0, exm_self xs0 xi0 xt0 xb0⟩⟩
    | 1, hi => cases hi; exact ⟨C1, PySem.W.mg_of X H x1, rfl, ⟨xe1, xk1, xs1, xt1, exm_self xs1 xi1 xt1 xb1⟩⟩
    | _ + 2, hi => simp [gn] at hi
end Lw

end

open PySem PySem.W PyProof.Rows
set_option maxRecDepth 100000 in
set_option maxHeartbeats 0 in
theorem PySem.Challenge.cw_proofhouse_k29_whole_differences_holds : PySem.Challenge.rw_proofhouse_k29_whole_differences.Holds := by
  w_on; o_law; k_head; (case hw => w_witness2)
  k_fill
  refine PF.law_walk (l := PySem.Challenge.rw_proofhouse_k29_whole_differences) (fns := Lw.fns) (G := Lw.G) (gn := Lw.gn) (N := 230) (i := 14) (F := Lw.f_law) (x := "script") rfl rfl ⟨rfl, by decide, by decide⟩ rfl rfl rfl rfl (fun w h Y => PySem.W.kIn_of Y) ?F Lw.law_holds
  case F =>
    intro w mg fa h KX G hmg
    refine' Lw.all_mk KX G ?a0 ?l0 ?c0 ?k0 ?a1 ?l1 ?c1 ?k1 ?a2 ?l2 ?c2 ?k2 ?a3 ?l3 ?c3 ?k3 ?a4 ?l4 ?c4 ?k4 ?a5 ?l5 ?c5 ?k5 ?a6 ?l6 ?c6 ?k6 ?a7 ?l7 ?c7 ?k7 ?a8 ?l8 ?c8 ?k8 ?a9 ?l9 ?c9 ?k9 ?a10 ?l10 ?c10 ?k10 ?a11 ?l11 ?c11 ?k11 ?a12 ?l12 ?c12 ?k12 ?a13 ?l13 ?c13 ?k13 ?a14 ?l14 ?c14 ?k14 ?x0 ?xe0 ?xk0 ?xs0 ?xt0 ?xi0 ?xb0 ?x1 ?xe1 ?xk1 ?xs1 ?xt1 ?xi1 ?xb1 ?cg0 ?z0 ?z1 ?z2 ?z3 ?z4 ?z5 ?z6 ?z7 ?z8 ?z9 ?z10 ?z11 ?z12 ?z13 ?z14 ?z15
    (case a0 => k_is)
    (case l0 => k_is)
    (case c0 => k_is)
    (case k0 => k_is)
    (case a1 => k_is)
    (case l1 => k_is)
    (case c1 => k_is)
    (case k1 => k_is)
    (case a2 => k_is)
    (case l2 => k_is)
    (case c2 => k_is)
    (case k2 => k_is)
    (case a3 => k_is)
    (case l3 => k_is)
    (case c3 => k_is)
    (case k3 => k_is)
    (case a4 => k_is)
    (case l4 => k_is)
    (case c4 => k_is)
    (case k4 => k_is)
    (case a5 => k_is)
    (case l5 => k_is)
    (case c5 => k_is)
    (case k5 => k_is)
    (case a6 => k_is)
    (case l6 => k_is)
    (case c6 => k_is)
    (case k6 => k_is)
    (case a7 => k_is)
    (case l7 => k_is)
    (case c7 => k_is)
    (case k7 => k_is)
    (case a8 => k_is)
    (case l8 => k_is)
    (case c8 => k_is)
    (case k8 => k_is)
    (case a9 => k_is)
    (case l9 => k_is)
    (case c9 => k_is)
    (case k9 => k_is)
    (case a10 => k_is)
    (case l10 => k_is)
    (case c10 => k_is)
    (case k10 => k_is)
    (case a11 => k_is)
    (case l11 => k_is)
    (case c11 => k_is)
    (case k11 => k_is)
    (case a12 => k_is)
    (case l12 => k_is)
    (case c12 => k_is)
    (case k12 => k_is)
    (case a13 => k_is)
    (case l13 => k_is)
    (case c13 => k_is)
    (case k13 => k_is)
    (case a14 => k_is)
    (case l14 => k_is)
    (case c14 => k_is)
    (case k14 => k_is)
    (case x0 => k_is)
    (case xe0 => k_exc)
    (case xk0 => k_is)
    (case xs0 => k_is)
    (case xt0 => k_is)
    (case xi0 => k_is)
    (case xb0 => first | rfl | k_is)
    (case x1 => k_is)
    (case xe1 => k_exc)
    (case xk1 => k_is)
    (case xs1 => k_is)
    (case xt1 => k_is)
    (case xi1 => k_is)
    (case xb1 => first | rfl | k_is)
    (case cg0 => k_is)
    (case z0 => k_is)
    (case z1 => k_is)
    (case z2 => k_is)
    (case z3 => k_is)
    (case z4 => k_is)
    (case z5 => k_is)
    (case z6 => k_is)
    (case z7 => k_is)
    (case z8 => k_is)
    (case z9 => k_is)
    (case z10 => k_is)
    (case z11 => k_is)
    (case z12 => k_is)
    (case z13 => k_is)
    (case z14 => k_is)
    (case z15 => k_is)
