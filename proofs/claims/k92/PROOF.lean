import PyProof.Rows.All
import Wide.All
import OpenK.AllK
import Wide.FinOn
import HandS.ForMost
import HandS.TupAny
import HandS.TupLe
import HandS.Exc
import HandS.ExcOwn
import HandS.ExcInit
import HandS.WordsExc
import HandS.TupMul
import HandS.IsInst
import HandS.Walk
import HandS.Zip
import HandS.Defaults
import HandS.More
import HandS.HeadHook4
import HandS.Wide
import HandS.Deep
import HandS.RaiseMore
import HandS.Star
import HandS.CallSlots
import HandS.HeadWalk
import Lean
import KE.KStateDown
import HandS.Head0
import HandS.Head1
import HandS.Head2
import HandS.HeadEnd
import PySem.Challenge.RW_latecomers_k92_text_of_a_sender
import HandS.Text
/-! Ev0: a compact program text, its values, its evaluator. Plain Lean, no machine in sight. -/
set_option linter.all false
set_option Elab.async false
namespace Pv
open PySem

inductive Val where
  | non | bl (b : Bool) | int (i : Int) | str (s : Str)
  | lst (xs : List Val) | tup (xs : List Val)
  | ins (c : Nat) (ks : List Nat) (vs : List Val)
  | dct0
  /-- a list that is known to the object: the script -/
  | frz (xs : List Val)
  | cell (n : Nat)
  deriving Inhabited

inductive Cell where
  | lst (x : Bool) (xs : List Val)
  | ins (x : Bool) (c : Nat) (ks : List Nat) (vs : List Val)
  deriving Inhabited
abbrev Hv := List Cell

inductive Cst where | non | bl (b : Bool) | int (i : Int) | str (s : Str)
  deriving DecidableEq
def Cst.val : Cst → Val
  | .non => .non | .bl b => .bl b | .int i => .int i | .str s => .str s

inductive Bop where | add | sub | mul | fdiv | mod | pow
  deriving DecidableEq
inductive Cop where | eq | ne | lt | le | gt | ge | isN | notN | isIn | notIn
  deriving DecidableEq
/-- a class that isinstance asks for -/
inductive Tn where | int | bool | str | list | tuple | dict | own (c : Nat)
  deriving DecidableEq
/-- built-in functions of values -/
inductive Blt where | len | int | list | tuple | sum | abs | min2 | max2 | str
  deriving DecidableEq
/-- methods of built-in types -/
inductive Bm where | append | popAt | pop | reverse | clear | extend | join | split
  deriving DecidableEq
/-- the target of a for -/
inductive Tg where | n (i : Nat) | t (ts : List Tg)

mutual
inductive E where
  | var (i : Nat)
  | con (c : Cst)
  | bin (op : Bop) (a b : E)
  | cmp (op : Cop) (a b : E)
  | chain (op op' : Cop) (a b c : E)
  | bop (and : Bool) (es : List E)
  | not (a : E)
  | neg (a : E)
  | ite (c a b : E)
  | lst (es : List E)
  | tup (es : List E)
  | star (e : E)
  | dct0
  | keep (x : Bool) (e : E)
  | ix (a b : E)
  | sl (a lo hi : E)
  | fld (a : E) (f : Nat)
  | call (f : Nat) (es : List E)
  | new (c f : Nat) (mu : Bool) (es : List E)
  | meth (c f : Nat) (o : E) (es : List E)
  | blt (b : Blt) (es : List E)
  | bm (b : Bm) (o : E) (es : List E)
  | isi (a : E) (t : Tn)
  | lc (vs : List Nat) (elt : E) (tg : Tg) (it : It) (tst : E)
  | lc2 (vs vs1 : List Nat) (elt : E) (tg : Tg) (it : It) (tg1 : Tg) (it1 : It)
  /-- what is never reached -/
  | dead
inductive It where
  | seq (e : E)
  | rng (a : E)
  | rng2 (a b : E)
  | enum (e : E)
  | zip (a b : E)
end

inductive S where
  | set (i : Nat) (e : E)
  | unp (ts : List Tg) (e : E)
  | aug (i : Nat) (op : Bop) (e : E)
  | seti (o i v : E)
  | setsl (o lo hi v : E)
  | setf (o : E) (f : Nat) (v : E)
  | augf (o : E) (f : Nat) (v : E)
  | expr (e : E)
  | ret (e : E)
  | retN
  | ifs (c : E) (a b : List S)
  | for_ (tg : Tg) (it : It) (body : List S)
  | while_ (c : E) (body : List S)
  | brk | cont | pass
  | raise (c f : Nat) (es : List E)
  | raise0 (c : Nat)
  /-- what is never reached -/
  | dead

inductive Res (α : Type) where
  | ok (a : α) (h : Hv)
  | ex (c : Nat) (a : List Val) (h : Hv)
  | no
def Res.bind {α β : Type} : Res α → (α → Hv → Res β) → Res β
  | .ok a h, k => k a h
  | .ex c a h, _ => .ex c a h
  | .no, _ => .no
@[simp] theorem Res.bind_ok {α β : Type} (a : α) (h : Hv) (k : α → Hv → Res β) : Res.bind (.ok a h) k = k a h := rfl
@[simp] theorem Res.bind_ex {α β : Type} (c : Nat) (a : List Val) (h : Hv) (k : α → Hv → Res β) : Res.bind (.ex c a h) k = .ex c a h := rfl
@[simp] theorem Res.bind_no {α β : Type} (k : α → Hv → Res β) : Res.bind (.no) k = .no := rfl
def ofO {α : Type} (o : Option α) (h : Hv) : Res α := match o with
  | some a => .ok a h
  | none => .no
@[simp] theorem ofO_some {α : Type} (a : α) (h : Hv) : ofO (some a) h = .ok a h := rfl
@[simp] theorem ofO_none {α : Type} (h : Hv) : ofO (none : Option α) h = .no := rfl

abbrev Env := List (Option Val)
inductive Out where
  | nx (e : Env) (h : Hv)
  | rt (v : Val) (h : Hv)
  | bk (e : Env) (h : Hv)
  | ct (e : Env) (h : Hv)
  | ex (c : Nat) (a : List Val) (e : Env) (h : Hv)
  | no
def Res.out {α : Type} (e : Env) : Res α → (α → Hv → Out) → Out
  | .ok a h, k => k a h
  | .ex c a h, _ => .ex c a e h
  | .no, _ => .no
@[simp] theorem Res.out_ok {α : Type} (e : Env) (a : α) (h : Hv) (k : α → Hv → Out) : Res.out e (.ok a h) k = k a h := rfl
@[simp] theorem Res.out_ex {α : Type} (e : Env) (c : Nat) (a : List Val) (h : Hv) (k : α → Hv → Out) : Res.out e (.ex c a h) k = .ex c a e h := rfl
@[simp] theorem Res.out_no {α : Type} (e : Env) (k : α → Hv → Out) : Res.out e (.no) k = .no := rfl

/-! ### values -/
mutual
def isData : Val → Bool
  | .lst xs => allData xs
  | .tup xs => allData xs
  | .ins _ _ vs => allData vs
  | .frz xs => allData xs
  | .cell _ => false
  | _ => true
def allData : List Val → Bool
  | [] => true
  | x :: xs => isData x && allData xs
end
/-- the largest length -/
def lim : Nat := 1000000


/-- a list's items -/
def items (h : Hv) : Val → Option (List Val)
  | .lst xs => some xs
  | .frz xs => some xs
  | .cell n => match h[n]? with
    | some (.lst _ xs) => some xs
    | _ => none
  | _ => none
/-- .. not the script -/
def litems (h : Hv) : Val → Option (List Val)
  | .lst xs => some xs
  | .cell n => match h[n]? with
    | some (.lst _ xs) => some xs
    | _ => none
  | _ => none
/-- a list's, a tuple's -/
def seqs (h : Hv) : Val → Option (List Val)
  | .tup xs => some xs
  | v => items h v
def intsOf : List Val → Option (List Int)
  | [] => some []
  | .int i :: r => match intsOf r with
    | some l => some (i :: l)
    | none => none
  | _ => none
def strsOf : List Val → Option (List Str)
  | [] => some []
  | .str i :: r => match strsOf r with
    | some l => some (i :: l)
    | none => none
  | _ => none


/-! ### data, at most k deep -/
def mapO {α β : Type} (f : α → Option β) : List α → Option (List β)
  | [] => some []
  | x :: xs => match f x with
    | some y => (match mapO f xs with
      | some ys => some (y :: ys)
      | none => none)
    | none => none
def sclPD : Val → Option PyData
  | .non => some .none
  | .bl b => some (.bool b)
  | .int i => some (.int i)
  | .str s => if PyData.strOk s then some (.str s) else none
  | _ => none
def toPD (h : Hv) : Nat → Val → Option PyData
  | 0, v => sclPD v
  | k + 1, v => match v with
    | .lst xs => (mapO (toPD h k) xs).map .list
    | .tup xs => (mapO (toPD h k) xs).map .tuple
    | .cell n => (match h[n]? with
      | some (.lst _ xs) => (mapO (toPD h k) xs).map .list
      | _ => none)
    | v => sclPD v
/-- x == y -/
def eqD (h : Hv) (x y : Val) : Option Bool := match toPD h 30 x, toPD h 30 y with
  | some d, some e => some (PyData.eqv d e)
  | _, _ => none
def flat : Val → Bool
  | .non => true | .bl _ => true | .int _ => true | .str _ => true
  | _ => false
/-- == of flat values -/
def eqF : Val → Val → Bool
  | .non, .non => true
  | .bl a, .bl b => a == b
  | .bl a, .int b => (if a then 1 else 0) == b
  | .int a, .bl b => a == (if b then 1 else 0)
  | .int a, .int b => a == b
  | .str a, .str b => a == b
  | _, _ => false

/-! ### operators -/
/-- a product that is not too great -/
def mulOk (i j : Int) : Bool := decide (i.natAbs < 2 ^ 64) || (decide (j.natAbs < 2 ^ 64) || decide (i.natAbs.log2 + j.natAbs.log2 < 1000000))
def catL (h : Hv) (x y : Val) : Option Val := match litems h x, litems h y with
  | some xs, some ys => if xs.length + ys.length ≤ lim then some (.lst (xs ++ ys)) else none
  | _, _ => none
def binV (h : Hv) : Bop → Val → Val → Option Val
  | .add, .int i, .int j => some (.int (i + j))
  | .add, .str i, .str j => if i.length + j.length ≤ lim then some (.str (i ++ j)) else none
  | .add, .tup xs, .tup ys => if xs.length + ys.length ≤ lim then some (.tup (xs ++ ys)) else none
  | .add, x, y => catL h x y
  | .sub, .int i, .int j => some (.int (i - j))
  | .mul, .int i, .int j => if mulOk i j then some (.int (i * j)) else none
  | .mul, .tup xs, .int k => if 1 ≤ xs.length ∧ 1 ≤ k ∧ k ≤ 1000 ∧ xs.length ≤ 1000 then some (.tup (List.replicate k.toNat xs).flatten) else none
  | .mul, x, .int k => (match litems h x with
    | some xs => if -1000000 < k ∧ k < 1000000 ∧ xs.length * k.toNat ≤ lim then some (.lst (List.replicate k.toNat xs).flatten) else none
    | none => none)
  | .fdiv, .int i, .int j => if 0 < j ∧ j < 1073741824 then some (.int (i / j)) else none
  | .mod, .int i, .int j => if 0 < j then some (.int (i % j)) else none
  | .pow, .int i, .int j => if 0 ≤ j ∧ j ≤ 1000 ∧ i.natAbs < 2 ^ 64 then some (.int (i ^ j.toNat)) else none
  | _, _, _ => none
/-- t <= u of tuples of ints -/
def leT (ns ms : List Int) : Bool := Ob.lexAt (fun j => decide (ns.getD j 0 = ms.getD j 0)) (fun j => decide (ns.getD j 0 ≤ ms.getD j 0)) (decide (ns.length ≤ ms.length)) 0 (min ns.length ms.length)
/-- x in y, flat; of any depth -/
def memF (h : Hv) (x y : Val) : Option Bool := match seqs h y with
  | some ys => if flat x && ys.all flat then some (ys.any fun z => eqF z x) else none
  | none => none
def memD (h : Hv) (x y : Val) : Option Bool := match toPD h 30 x, toPD h 30 y with
  | some d, some (.list ds) => some (ds.any fun z => PyData.eqv z d)
  | _, _ => none
def cmpV (h : Hv) : Cop → Val → Val → Option Bool
  | .eq, x, y => eqD h x y
  | .ne, x, y => (eqD h x y).map (!·)
  | .lt, .int i, .int j => some (decide (i < j))
  | .le, .int i, .int j => some (decide (i ≤ j))
  | .le, .tup xs, .tup ys => (match intsOf xs, intsOf ys with
    | some ns, some ms => some (leT ns ms)
    | _, _ => none)
  | .gt, .int i, .int j => some (decide (j < i))
  | .ge, .int i, .int j => some (decide (j ≤ i))
  | .isN, x, .non => some (match x with
    | .non => true
    | _ => false)
  | .notN, x, .non => some (match x with
    | .non => false
    | _ => true)
  | .isIn, x, y => (match memF h x y with
    | some b => some b
    | none => memD h x y)
  | .notIn, x, y => (match memF h x y with
    | some b => some (!b)
    | none => (memD h x y).map (!·))
  | _, _, _ => none
/-- the place that an index of any sign means -/
def atV (h : Hv) : Val → Val → Option Val
  | x, .int i => (match seqs h x with
    | some xs => L2.atI xs i
    | none => none)
  | _, _ => none
def cutL {α : Type} (xs : List α) (lo hi : Option Int) : List α := (xs.drop (HT.sIx xs.length 0 lo)).take (HT.sIx xs.length xs.length hi - HT.sIx xs.length 0 lo)
/-- a slice's part: left out, or an int -/
def partE (a : E) (v : Val) : Option (Option Int) := match a with
  | .con .non => some none
  | _ => match v with
    | .int i => some (some i)
    | _ => none
def slV (h : Hv) (x : Val) (lo hi : Option Int) : Option Val := match x with
  | .tup xs => some (.tup (cutL xs lo hi))
  | v => match items h v with
    | some xs => some (.lst (cutL xs lo hi))
    | none => none
def lookK : List Nat → List Val → Nat → Option Val
  | k :: ks, v :: vs, f => if k = f then some v else lookK ks vs f
  | _, _, _ => none
def putK : List Nat → List Val → Nat → Val → List Nat × List Val
  | k :: ks, v :: vs, f, x => if k = f then (k :: ks, x :: vs) else (k :: (putK ks vs f x).1, v :: (putK ks vs f x).2)
  | _, _, f, x => ([f], [x])
def fldV (h : Hv) (x : Val) (f : Nat) : Option Val := match x with
  | .ins _ ks vs => lookK ks vs f
  | .cell n => (match h[n]? with
    | some (.ins _ _ ks vs) => lookK ks vs f
    | _ => none)
  | _ => none
def clsV (h : Hv) : Val → Option Nat
  | .ins c _ _ => some c
  | .cell n => (match h[n]? with
    | some (.ins _ c _ _) => some c
    | _ => none)
  | _ => none
def isiV (h : Hv) (x : Val) (t : Tn) : Option Bool := match x with
  | .non => some false
  | .bl _ => some (t = .bool || t = .int)
  | .int _ => some (t = .int)
  | .str _ => some (t = .str)
  | .lst _ => some (t = .list)
  | .frz _ => some (t = .list)
  | .tup _ => some (t = .tuple)
  | .dct0 => some (t = .dict)
  | .ins c _ _ => some (t = .own c)
  | .cell n => (match h[n]? with
    | some (.lst _ _) => some (t = .list)
    | some (.ins _ c _ _) => some (t = .own c)
    | none => none)
def lenV (h : Hv) : Val → Option Val
  | .str s => if s.length ≤ lim then some (.int s.length) else none
  | v => match seqs h v with
    | some xs => some (.int xs.length)
    | none => none
def bltV (h : Hv) : Blt → List Val → Option Val
  | .len, [x] => lenV h x
  | .int, [.int i] => some (.int i)
  | .int, [.bl b] => some (.int (if b then 1 else 0))
  | .list, [x] => (match seqs h x with
    | some xs => some (.lst xs)
    | none => none)
  | .tuple, [.tup xs] => some (.tup xs)
  | .tuple, [x] => (match items h x with
    | some xs => some (.tup xs)
    | none => none)
  | .sum, [x] => (match items h x with
    | some xs => (match intsOf xs with
      | some ns => some (.int ns.sum)
      | none => none)
    | none => none)
  | .abs, [.int i] => some (.int (if i < 0 then -i else i))
  | .min2, [.int i, .int j] => some (.int (if j < i then j else i))
  | .max2, [.int i, .int j] => some (.int (if j > i then j else i))
  | .str, [.int i] => if i.natAbs.log2 < 1920 then some (.str (toString i)) else none
  | .str, [.str s] => some (.str s)
  | _, _ => none
/-- a method that changes its list -/
def bmL (b : Bm) (n : Nat) (f : Bool) (xs vs : List Val) (h : Hv) : Res Val := match b, vs with
  | .append, [y] => if xs.length < lim then .ok .non (h.set n (.lst f (xs ++ [y]))) else .no
  | .pop, [] => (match xs[xs.length - 1]? with
    | some y => .ok y (h.set n (.lst f xs.dropLast))
    | none => .no)
  | .popAt, [.int i] => (match L2.ixN xs.length i with
    | some k => (match xs[k]? with
      | some y => .ok y (h.set n (.lst f (xs.eraseIdx k)))
      | none => .no)
    | none => .no)
  | .reverse, [] => .ok .non (h.set n (.lst f xs.reverse))
  | .clear, [] => .ok .non (h.set n (.lst f []))
  | .extend, [y] => (match litems h y with
    | some ys => if xs.length + ys.length ≤ lim then .ok .non (h.set n (.lst f (xs ++ ys))) else .no
    | none => .no)
  | _, _ => .no
/-- .. or reads a text -/
def bmV (b : Bm) (x : Val) (vs : List Val) (h : Hv) : Res Val := match x with
  | .str s => (match b, vs with
    | .join, [y] => (match seqs h y with
      | some ys => (match strsOf ys with
        | some zs => if (zs.map (·.length)).sum + zs.length * s.length ≤ lim then .ok (.str (Txt.join s zs)) h else .no
        | none => .no)
      | none => .no)
    | .split, [.str z] => if (z.length == 0) = false ∧ s.length + 2 ≤ lim then .ok (.lst ((Txt.split s z).map .str)) h else .no
    | _, _ => .no)
  | .cell n => (match h[n]? with
    | some (.lst f xs) => bmL b n f xs vs h
    | _ => .no)
  | _ => .no
/-- the receiver's type -/
def bmTy (b : Bm) (h : Hv) (x : Val) : Bool := match x with
  | .str _ => (match b with
    | .join => true | .split => true
    | _ => false)
  | .cell n => (match h[n]? with
    | some (.lst _ _) => (match b with
      | .join => false | .split => false
      | _ => true)
    | _ => false)
  | _ => false
/-- x[i] = v -/
def setV (h : Hv) (x i v : Val) : Option Hv := match x, i with
  | .cell n, .int k => (match h[n]? with
    | some (.lst f xs) => (match L2.ixN xs.length k with
      | some j => some (h.set n (.lst f (xs.set j v)))
      | none => none)
    | _ => none)
  | _, _ => none
/-- x[lo:hi] = ys -/
def setslV (h : Hv) (x lo hi v : Val) : Option Hv := match x, lo, hi, v with
  | .cell n, .int a, .int c, .lst ys => (match h[n]? with
    | some (.lst f xs) => if 0 ≤ a ∧ a ≤ c ∧ c ≤ xs.length ∧ xs.length + ys.length ≤ lim then some (h.set n (.lst f (xs.take a.toNat ++ ys ++ xs.drop c.toNat))) else none
    | _ => none)
  | _, _, _, _ => none
/-- x.f = v -/
def setfV (h : Hv) (x : Val) (f : Nat) (v : Val) : Option Hv := match x with
  | .cell n => (match h[n]? with
    | some (.ins y c ks vs) => if ks.length < 900 then some (h.set n (.ins y c (putK ks vs f v).1 (putK ks vs f v).2)) else none
    | _ => none)
  | _ => none

/-! ### calls: the callee's own heap -/
mutual
def cellsV : Val → List Nat
  | .cell n => [n]
  | .lst xs => cellsL xs
  | .tup xs => cellsL xs
  | .ins _ _ xs => cellsL xs
  | .frz xs => cellsL xs
  | _ => []
def cellsL : List Val → List Nat
  | [] => []
  | x :: xs => cellsV x ++ cellsL xs
end
def dedup (acc : List Nat) : List Nat → List Nat
  | [] => acc
  | x :: r => if acc.contains x then dedup acc r else dedup (acc ++ [x]) r
def inC : Cell → List Nat
  | .lst _ xs => cellsL xs
  | .ins _ _ _ xs => cellsL xs
/-- the cells that are seen from there, to a depth -/
def reach (h : Hv) : Nat → List Nat → List Nat
  | 0, ids => ids
  | k + 1, ids => reach h k (dedup ids (ids.flatMap fun n => match h[n]? with
    | some c => inC c
    | none => []))
/-! the cells numbered anew -/
mutual
def rnV (f : Nat → Option Nat) : Val → Option Val
  | .cell n => (f n).map .cell
  | .lst xs => (rnL f xs).map .lst
  | .tup xs => (rnL f xs).map .tup
  | .ins c ks xs => (rnL f xs).map (.ins c ks)
  | .frz xs => (rnL f xs).map .frz
  | v => some v
def rnL (f : Nat → Option Nat) : List Val → Option (List Val)
  | [] => some []
  | x :: xs => match rnV f x, rnL f xs with
    | some y, some ys => some (y :: ys)
    | _, _ => none
end
def rnC (f : Nat → Option Nat) : Cell → Option Cell
  | .lst g xs => (rnL f xs).map (.lst g)
  | .ins g c ks xs => (rnL f xs).map (.ins g c ks)
def exported : Cell → Bool
  | .lst f _ => f
  | .ins f _ _ _ => f
/-- a value as it leaves the callee: s tells what a cell is from outside; none: its content -/
def outV (s : Nat → Option Nat) (h : Hv) : Nat → Val → Option Val
  | 0, v => if isData v then some v else none
  | k + 1, v => if isData v then some v else match v with
    | .cell n => (match s n with
      | some m => some (.cell m)
      | none => (match h[n]? with
        | some (.lst _ xs) => (mapO (outV s h k) xs).map .lst
        | some (.ins _ c ks vs) => (mapO (outV s h k) vs).map (.ins c ks)
        | none => none))
    | .lst xs => (mapO (outV s h k) xs).map .lst
    | .tup xs => (mapO (outV s h k) xs).map .tup
    | .ins c ks vs => (mapO (outV s h k) vs).map (.ins c ks)
    | _ => none
def outC (k : Bool) (s : Nat → Option Nat) (h : Hv) : Cell → Option Cell
  | .lst g xs => (mapO (outV s h 8) xs).map (.lst (k && g))
  | .ins g c ks vs => (mapO (outV s h 8) vs).map (.ins (k && g) c ks)
def getCs (h : Hv) (f : Nat → Option Nat) (ids : List Nat) : Option (List Cell) := mapO (fun n => (h[n]?).bind (rnC f)) ids
def putCs (h : Hv) : List Nat → List Cell → Hv
  | n :: r, c :: cs => putCs (h.set n c) r cs
  | _, _ => h
/-- the local cells that stay: their numbers -/
def stays : Hv → Nat → List Nat
  | [], _ => []
  | c :: r, i => if exported c then i :: stays r (i + 1) else stays r (i + 1)
def posOf (n : Nat) : List Nat → Nat → Option Nat
  | [], _ => none
  | m :: r, i => if n = m then some i else posOf n r (i + 1)
/-- what a cell of the callee is from outside -/
def nameOf (ids : List Nat) (st : List Nat) (base : Nat) (n : Nat) : Option Nat := if n < ids.length then ids[n]? else posOf n st base
abbrev CF := Nat → List Val → Hv → Res Val
/-- the callee's end, seen by the caller -/
def leave (ids : List Nat) (h h' : Hv) (xs : List Val) : Option (List Val × Hv) :=
  let st := stays (h'.drop ids.length) ids.length
  let s := nameOf ids st h.length
  match mapO (outV s h' 8) xs, mapO (outC true s h') (h'.take ids.length), mapO (fun i => (h'[i]?).bind (outC false s h')) st with
  | some ys, some cs, some ds => some (ys, putCs h ids cs ++ ds)
  | _, _, _ => none
/-- a call in a heap of its own: the cells that are handed in, and (pre) the instance that is being made -/
def region (cf : CF) (f : Nat) (pre : Option (Nat × Bool)) (args : List Val) (h : Hv) : Res Val :=
  let ids := reach h 4 (dedup [] (cellsL args))
  if decide ids.Nodup then
    match getCs h (fun n => posOf n ids 0) ids, rnL (fun n => posOf n ids 0) args with
    | some cs, some as =>
      (match (match pre with
        | none => cf f as cs
        | some (c, mu) => match cf f (.cell cs.length :: as) (cs ++ [Cell.ins mu c [] []]) with
          | .ok .non h' => .ok (.cell cs.length) h'
          | .ok _ _ => .no
          | r => r) with
      | .ok x h' => (match leave ids h h' [x] with
        | some ([y], h2) => .ok y h2
        | _ => .no)
      | .ex c xs h' => (match leave ids h h' xs with
        | some (ys, h2) => .ex c ys h2
        | _ => .no)
      | .no => .no)
    | _, _ => .no
  else .no

/-! ### loops -/
mutual
def bindT (h : Hv) : Tg → Val → Env → Option Env
  | .n i, x, e => some (e.set i (some x))
  | .t ts, .tup xs, e => bindTs h ts xs e
  | _, _, _ => none
def bindTs (h : Hv) : List Tg → List Val → Env → Option Env
  | [], [], e => some e
  | t :: ts, x :: xs, e => match bindT h t x e with
    | some e1 => bindTs h ts xs e1
    | none => none
  | _, _, _ => none
end
def wipeE (e : Env) : List Nat → Env
  | [] => e
  | v :: vs => (wipeE e vs).set v none
/-- what is walked: turns at most, the items as they are now -/
abbrev Src := Nat × (Hv → Option (List Val))
def srcAt (cur : Hv → Option (List Val)) (h : Hv) (i : Nat) : Option (Option Val) := match cur h with
  | some xs => if i ≤ xs.length then some xs[i]? else none
  | none => none
/-- a while's turns at most -/
def wturns : Nat := 100000
/-- a comprehension's turns: nothing is raised there -/
def lcL (f : Val → Hv → Res (Option Val)) (cur : Hv → Option (List Val)) : Nat → Nat → Hv → List Val → Res Val
  | 0, _, _, _ => .no
  | n + 1, i, h, acc => match srcAt cur h i with
    | none => .no
    | some none => .ok (.lst acc) h
    | some (some x) => match f x h with
      | .ok (some y) h1 => if acc.length < lim then lcL f cur n (i + 1) h1 (acc ++ [y]) else .no
      | .ok none h1 => lcL f cur n (i + 1) h1 acc
      | _ => .no
/-- .. of two clauses -/
def lc2L (f : Val → Hv → List Val → Res (List Val)) (cur : Hv → Option (List Val)) : Nat → Nat → Hv → List Val → Res (List Val)
  | 0, _, _, _ => .no
  | n + 1, i, h, acc => match srcAt cur h i with
    | none => .no
    | some none => .ok acc h
    | some (some x) => match f x h acc with
      | .ok acc' h1 => lc2L f cur n (i + 1) h1 acc'
      | _ => .no
/-- a comprehension's turn -/
def lcF (t d : Env → Hv → Res Val) (vs : List Nat) (tg : Tg) (e : Env) : Val → Hv → Res (Option Val) := fun x h => match bindT h tg x (wipeE e vs) with
        | none => .no
        | some e' => (t e' h).bind fun b h2 => match b with
          | .bl true => (d e' h2).bind fun y h3 => .ok (some y) h3
          | .bl false => .ok none h2
          | _ => .no
def lcI (d : Env → Hv → Res Val) (vs1 : List Nat) (tg1 : Tg) (e' : Env) : Val → Hv → List Val → Res (List Val) := fun y h acc => match bindT h tg1 y (wipeE e' vs1) with
            | none => .no
            | some e'' => (match d e'' h with
              | .ok z h3 => if acc.length < lim then .ok (acc ++ [z]) h3 else .no
              | _ => .no)
def lcO (i : Env → Hv → Res Src) (d : Env → Hv → Res Val) (vs vs1 : List Nat) (tg tg1 : Tg) (e : Env) : Val → Hv → List Val → Res (List Val) := fun x h acc => match bindT h tg x (wipeE e vs) with
        | none => .no
        | some e' => (match i e' h with
          | .ok ys h2 => lc2L (lcI d vs1 tg1 e') ys.2 ys.1 0 h2 acc
          | _ => .no)
def lcEnd : Res (List Val) → Res Val
  | .ok acc h => .ok (.lst acc) h
  | _ => .no
/-- a new list becomes a cell -/
def keepR (f : Bool) : Val → Hv → Res Val := fun x h => match x with
  | .lst xs => .ok (.cell h.length) (h ++ [.lst f xs])
  | _ => .no
def fuelV (x : Val) (xs : List Val) : Nat := match x with
  | .cell _ => wturns
  | _ => xs.length + 1
def enumV (xs : List Val) : Nat → List Val
  | i => match xs with
    | [] => []
    | x :: r => .tup [.int i, x] :: enumV r (i + 1)
def zipV : List Val → List Val → List Val
  | x :: xs, y :: ys => .tup [x, y] :: zipV xs ys
  | _, _ => []
def rngV (lo : Int) (n : Nat) : List Val := (List.range n).map fun i => .int (lo + (i : Nat))

mutual
def evE (cf : CF) : E → Env → Hv → Res Val
  | .var i, e, h => (match e[i]? with
    | some (some v) => .ok v h
    | _ => .no)
  | .con c, _, h => .ok c.val h
  | .bin op a b, e, h => (evE cf a e h).bind fun x h1 => (evE cf b e h1).bind fun y h2 => ofO (binV h2 op x y) h2
  | .cmp op a b, e, h => (evE cf a e h).bind fun x h1 => (evE cf b e h1).bind fun y h2 => ofO ((cmpV h2 op x y).map .bl) h2
  | .chain op op' a b c, e, h => (evE cf a e h).bind fun x h1 => (evE cf b e h1).bind fun y h2 => match cmpV h2 op x y with
    | some true => (evE cf c e h2).bind fun z h3 => ofO ((cmpV h3 op' y z).map .bl) h3
    | some false => .ok (.bl false) h2
    | none => .no
  | .bop and es, e, h => evB cf and es e h
  | .not a, e, h => (evE cf a e h).bind fun x h1 => match x with
    | .bl c => .ok (.bl (!c)) h1
    | _ => .no
  | .neg a, e, h => (evE cf a e h).bind fun x h1 => match x with
    | .int c => .ok (.int (-c)) h1
    | _ => .no
  | .ite c a b, e, h => (evE cf c e h).bind fun x h1 => match x with
    | .bl true => evE cf a e h1
    | .bl false => evE cf b e h1
    | _ => .no
  | .lst es, e, h => (evEs cf es e h).bind fun xs h1 => if xs.length ≤ lim then .ok (.lst xs) h1 else .no
  | .tup es, e, h => (evEs cf es e h).bind fun xs h1 => if xs.length ≤ lim then .ok (.tup xs) h1 else .no
  | .star _, _, _ => .no
  | .dct0, _, h => .ok .dct0 h
  | .keep f a, e, h => (evE cf a e h).bind (keepR f)
  | .ix a b, e, h => (evE cf a e h).bind fun x h1 => (evE cf b e h1).bind fun y h2 => ofO (atV h2 x y) h2
  | .sl a lo hi, e, h => (evE cf a e h).bind fun x h1 => (evE cf lo e h1).bind fun y h2 => match partE lo y with
    | none => .no
    | some l => (evE cf hi e h2).bind fun z h3 => match partE hi z with
      | none => .no
      | some u => ofO (slV h3 x l u) h3
  | .fld a f, e, h => (evE cf a e h).bind fun x h1 => ofO (fldV h1 x f) h1
  | .call f es, e, h => (evEs cf es e h).bind fun xs h1 => region cf f none xs h1
  | .new c f mu es, e, h => (evEs cf es e h).bind fun xs h1 => region cf f (some (c, mu)) xs h1
  | .meth c f o es, e, h => (evE cf o e h).bind fun x h1 => if clsV h1 x = some c then (evEs cf es e h1).bind fun xs h2 => region cf f none (x :: xs) h2 else .no
  | .blt b es, e, h => (evEs cf es e h).bind fun xs h1 => ofO (bltV h1 b xs) h1
  | .bm b o es, e, h => (evE cf o e h).bind fun x h1 => if bmTy b h1 x then (evEs cf es e h1).bind fun xs h2 => bmV b x xs h2 else .no
  | .isi a t, e, h => (evE cf a e h).bind fun x h1 => ofO ((isiV h1 x t).map .bl) h1
  | .lc vs elt tg it tst, e, h => (evI cf it e h).bind fun xs h1 => lcL (lcF (fun e h => evE cf tst e h) (fun e h => evE cf elt e h) vs tg e) xs.2 xs.1 0 h1 []
  | .lc2 vs vs1 elt tg it tg1 it1, e, h => (evI cf it e h).bind fun xs h1 => lcEnd (lc2L (lcO (fun e h => evI cf it1 e h) (fun e h => evE cf elt e h) vs vs1 tg tg1 e) xs.2 xs.1 0 h1 [])
  | .dead, _, _ => .no
def evEs (cf : CF) : List E → Env → Hv → Res (List Val)
  | [], _, h => .ok [] h
  | .star a :: r, e, h => (evE cf a e h).bind fun x h1 => match seqs h1 x with
    | some xs => (evEs cf r e h1).bind fun ys h2 => .ok (xs ++ ys) h2
    | none => .no
  | a :: r, e, h => (evE cf a e h).bind fun x h1 => (evEs cf r e h1).bind fun ys h2 => .ok (x :: ys) h2
def evB (cf : CF) (and : Bool) : List E → Env → Hv → Res Val
  | [], _, _ => .no
  | a :: r, e, h => match r with
    | [] => evE cf a e h
    | _ => (evE cf a e h).bind fun x h1 => match x with
      | .bl c => if c = and then evB cf and r e h1 else .ok (.bl c) h1
      | _ => .no
def evI (cf : CF) : It → Env → Hv → Res Src
  | .seq a, e, h => (evE cf a e h).bind fun x h1 => match seqs h1 x with
    | some xs => .ok (fuelV x xs, fun h => seqs h x) h1
    | none => .no
  | .rng a, e, h => (evE cf a e h).bind fun x h1 => match x with
    | .int i => if -1000000 ≤ i ∧ i ≤ 1000000 then .ok (i.toNat + 1, fun _ => some (rngV 0 i.toNat)) h1 else .no
    | _ => .no
  | .rng2 a b, e, h => (evE cf a e h).bind fun x h1 => (evE cf b e h1).bind fun y h2 => match x, y with
    | .int i, .int j => if -1000000 ≤ i ∧ i ≤ 1000000 ∧ -1000000 ≤ j ∧ j ≤ 1000000 then .ok ((j - i).toNat + 1, fun _ => some (rngV i (j - i).toNat)) h2 else .no
    | _, _ => .no
  | .enum a, e, h => (evE cf a e h).bind fun x h1 => match items h1 x with
    | some xs => .ok (fuelV x xs, fun h => (items h x).map fun xs => enumV xs 0) h1
    | none => .no
  | .zip a b, e, h => (evE cf a e h).bind fun x h1 => (evE cf b e h1).bind fun y h2 => match items h2 x, items h2 y with
    | some xs, some ys => .ok (fuelV x xs + fuelV y ys, fun h => match items h x, items h y with
      | some xs, some ys => some (zipV xs ys)
      | _, _ => none) h2
    | _, _ => .no
end

def forL (bind : Val → Env → Hv → Option Env) (body : Env → Hv → Out) (cur : Hv → Option (List Val)) : Nat → Nat → Env → Hv → Out
  | 0, _, _, _ => .no
  | n + 1, i, e, h => match srcAt cur h i with
    | none => .no
    | some none => .nx e h
    | some (some x) => match bind x e h with
      | none => .no
      | some e1 => match body e1 h with
        | .nx e2 h2 => forL bind body cur n (i + 1) e2 h2
        | .ct e2 h2 => forL bind body cur n (i + 1) e2 h2
        | .bk e2 h2 => .nx e2 h2
        | o => o
def whileL (c : Env → Hv → Res Val) (body : Env → Hv → Out) : Nat → Env → Hv → Out
  | 0, _, _ => .no
  | n + 1, e, h => (c e h).out e fun b h1 => match b with
    | .bl true => (match body e h1 with
      | .nx e2 h2 => whileL c body n e2 h2
      | .ct e2 h2 => whileL c body n e2 h2
      | .bk e2 h2 => .nx e2 h2
      | o => o)
    | .bl false => .nx e h1
    | _ => .no

def augV (op : Bop) (x : Int) (y : Val) : Option Int := match op, y with
  | .add, .int j => some (x + j)
  | .sub, .int j => some (x - j)
  | _, _ => none
mutual
def exS (cf : CF) : S → Env → Hv → Out
  | .set i a, e, h => (evE cf a e h).out e fun v h1 => .nx (e.set i (some v)) h1
  | .unp is a, e, h => (evE cf a e h).out e fun v h1 => match bindT h1 (.t is) v e with
    | some e1 => .nx e1 h1
    | none => .no
  | .aug i op a, e, h => (match e[i]? with
    | some (some (.int x)) => (evE cf a e h).out e fun y h1 => match augV op x y with
      | some z => .nx (e.set i (some (.int z))) h1
      | none => .no
    | _ => .no)
  | .seti o i v, e, h => (evE cf v e h).out e fun y h1 => (evE cf o e h1).out e fun x h2 => (evE cf i e h2).out e fun k h3 => match setV h3 x k y with
    | some h4 => .nx e h4
    | none => .no
  | .setsl o lo hi v, e, h => (evE cf v e h).out e fun y h1 => (evE cf o e h1).out e fun x h2 => (evE cf lo e h2).out e fun a h3 => (evE cf hi e h3).out e fun b h4 => match setslV h4 x a b y with
    | some h5 => .nx e h5
    | none => .no
  | .setf o f v, e, h => (evE cf v e h).out e fun y h1 => (evE cf o e h1).out e fun x h2 => match setfV h2 x f y with
    | some h3 => .nx e h3
    | none => .no
  | .augf o f v, e, h => (evE cf o e h).out e fun x h1 => match fldV h1 x f with
    | some (.int i) => (evE cf v e h1).out e fun y h2 => (match y with
      | .int j => if clsV h1 x = clsV h2 x then (match setfV h2 x f (.int (i + j)) with
        | some h3 => .nx e h3
        | none => .no) else .no
      | _ => .no)
    | _ => .no
  | .expr a, e, h => (evE cf a e h).out e fun _ h1 => .nx e h1
  | .ret a, e, h => (evE cf a e h).out e fun v h1 => .rt v h1
  | .retN, _, h => .rt .non h
  | .ifs c a b, e, h => (evE cf c e h).out e fun x h1 => match x with
    | .bl true => exSs cf a e h1
    | .bl false => exSs cf b e h1
    | _ => .no
  | .for_ tg it body, e, h => (evI cf it e h).out e fun xs h1 => forL (fun x e h => bindT h tg x e) (fun e h => exSs cf body e h) xs.2 xs.1 0 e h1
  | .while_ c body, e, h => whileL (fun e h => evE cf c e h) (fun e h => exSs cf body e h) wturns e h
  | .brk, e, h => .bk e h
  | .cont, e, h => .ct e h
  | .pass, e, h => .nx e h
  | .raise c _ es, e, h => (evEs cf es e h).out e fun xs h1 => .ex c xs e h1
  | .raise0 c, e, h => .ex c [] e h
  | .dead, _, _ => .no
def exSs (cf : CF) : List S → Env → Hv → Out
  | [], e, h => .nx e h
  | s :: r, e, h => match exS cf s e h with
    | .nx e1 h1 => exSs cf r e1 h1
    | o => o
end

structure Fn where
  /-- parameters, names, the body -/
  np : Nat
  nn : Nat
  body : List S
def runF (T : List Fn) : Nat → CF
  | 0, _, _, _ => .no
  | n + 1, f, args, h => match T[f]? with
    | some fn => if args.length = fn.np then
        (match exSs (runF T n) fn.body (args.map some ++ List.replicate (fn.nn - fn.np) none) h with
        | .nx _ h' => .ok .non h'
        | .rt v h' => .ok v h'
        | .ex c a _ h' => .ex c a h'
        | _ => .no)
      else .no
    | none => .no
end Pv

/-! Ev1: values and heaps of the evaluator, as the hand layer's abstract heap bears them. -/
set_option linter.all false
set_option Elab.async false
set_option maxRecDepth 100000
namespace Pv
open PySem PySem.Spec PyProof.Rows L2

/-- the text's names: classes, attributes -/
structure Nm where
  cls : Nat → Str
  fld : Nat → Str
  /-- classes, attributes: how many -/
  nC : Nat
  nF : Nat
  finj : ∀ i j, fld i = fld j → i = j
  far : ∀ i, nF ≤ i → 100 ≤ (fld i).cps.size
  /-- an exception's one attribute -/
  xf : Nat → Option Nat
abbrev Fr := Addr → Prop
/-- a list of the written part -/
def KL (K : PySem.W.Frag) (a : Addr) (xs : List V) : Prop :=
  ∃ (o : Obj) (its : Array Value) (n : Nat), K.lookup a = some o ∧ o.cls = .type "list" ∧ o.dict = none ∧ o.data = .seq its n ∧ its.size ≤ sizeLine ∧ Vals xs its.toList
def zipF (N : Nm) (ks : List Nat) (vs : List V) : List (Str × V) := (ks.map N.fld).zip vs
section
variable (N : Nm) (K : PySem.W.Frag)
mutual
/-- the value x, at v. F: what may be changed (by anyone); m: where the cells stand -/
def RV (F : Fr) (m : List Addr) (H : Hp) : Val → V → Prop
  | .non, v => v = .non
  | .bl b, v => v = .bl b
  | .int i, v => v = .int i
  | .str s, v => v = .str s
  | .lst xs, v => ∃ a vs, v = .ref a ∧ ¬ F a ∧ H a = some (.lst vs) ∧ RVs F m H xs vs
  | .tup xs, v => ∃ a vs, v = .ref a ∧ ¬ F a ∧ H a = some (.tup vs) ∧ RVs F m H xs vs
  | .ins c ks xs, v => ∃ a dx vs, v = .ref a ∧ ¬ F a ∧ H a = some (.ins (He.ga K (N.cls c)) dx (zipF N ks vs)) ∧ RVs F m H xs vs ∧ ks.length = xs.length ∧ c < N.nC
  | .dct0, v => ∃ a, v = .ref a ∧ ¬ F a ∧ H a = some (.dT [])
  | .frz xs, v => ∃ a vs, v = .ref a ∧ ((¬ F a ∧ ∃ o, H a = some (.frz o (.lst vs))) ∨ KL K a vs) ∧ RVs F m H xs vs
  | .cell n, v => ∃ a, m[n]? = some a ∧ v = .ref a
def RVs (F : Fr) (m : List Addr) (H : Hp) : List Val → List V → Prop
  | [], vs => vs = []
  | x :: xs, vs => ∃ v r, vs = v :: r ∧ RV F m H x v ∧ RVs F m H xs r
end
def RC (F : Fr) (m : List Addr) (H : Hp) (c : Cell) (a : Addr) : Prop := match c with
  | .lst _ xs => ∃ vs, H a = some (.lst vs) ∧ RVs N K F m H xs vs
  | .ins _ c ks xs => ∃ dx vs, H a = some (.ins (He.ga K (N.cls c)) dx (zipF N ks vs)) ∧ RVs N K F m H xs vs ∧ ks.length = xs.length ∧ c < N.nC
/-- the state -/
structure Rel (F : Fr) (m : List Addr) (H : Hp) (h : Hv) : Prop where
  len : m.length = h.length
  nd : m.Nodup
  mem : ∀ a ∈ m, F a
  dom : ∀ a, F a → H a ≠ none
  cell : ∀ (n : Nat) (c : Cell) (a : Addr), h[n]? = some c → m[n]? = some a → RC N K F m H c a
/-- a step: only the cells change -/
structure Stp (F : Fr) (m : List Addr) (H : Hp) (F' : Fr) (m' : List Addr) (H' : Hp) : Prop where
  fr : ∀ a o, H a = some o → a ∉ m → H' a = some o
  dm : ∀ a, H a ≠ none → H' a ≠ none
  fF : ∀ a, F' a → F a ∨ H a = none
  Fm : ∀ a, F a → F' a
  pre : ∃ t, m' = m ++ t ∧ ∀ a ∈ t, H a = none
end
theorem Stp.refl (F : Fr) (m : List Addr) (H : Hp) : Stp F m H F m H := ⟨fun _ _ h _ => h, fun _ h => h, fun _ h => .inl h, fun _ h => h, [], (List.append_nil m).symm, fun _ h => by cases h⟩
theorem none_or {o : Option HO} : o = none ∨ o ≠ none := by
  cases o with
  | none => exact .inl rfl
  | some x => exact .inr (fun h => by cases h)
theorem Stp.trans {F F1 F2 : Fr} {m m1 m2 : List Addr} {H H1 H2 : Hp} (a : Stp F m H F1 m1 H1) (b : Stp F1 m1 H1 F2 m2 H2) : Stp F m H F2 m2 H2 where
  fr := fun x o h hx => by
    obtain ⟨t, e, ht⟩ := a.pre
    refine b.fr x o (a.fr x o h hx) fun hm => ?_
    rw [e] at hm
    rcases List.mem_append.mp hm with z | z
    · exact hx z
    · rw [ht x z] at h; cases h
  dm := fun x h => b.dm x (a.dm x h)
  fF := fun x h => by
    rcases b.fF x h with z | z
    · exact a.fF x z
    · rcases none_or (o := H x) with y | y
      · exact .inr y
      · exact absurd z (a.dm x y)
  Fm := fun x h => b.Fm x (a.Fm x h)
  pre := by
    obtain ⟨t, e, ht⟩ := a.pre
    obtain ⟨u, e2, hu⟩ := b.pre
    refine ⟨t ++ u, by rw [e2, e, List.append_assoc], fun x hx => ?_⟩
    rcases List.mem_append.mp hx with z | z
    · exact ht x z
    · rcases none_or (o := H x) with y | y
      · exact y
      · exact absurd (hu x z) (a.dm x y)
section
variable {N : Nm} {K : PySem.W.Frag} {F F' : Fr} {m m' : List Addr} {H H' : Hp} {h : Hv}
theorem Stp.keeps (s : Stp F m H F' m' H') (hm : ∀ a ∈ m, F a) {a : Addr} {o : HO} (n : ¬ F a) (e : H a = some o) : H' a = some o ∧ ¬ F' a :=
  ⟨s.fr a o e (fun z => n (hm a z)), fun z => (s.fF a z).elim n (fun z => by rw [z] at e; cases e)⟩
/-- a weaker step: what is not to be changed stays -/
structure Wk (F : Fr) (m : List Addr) (H : Hp) (F' : Fr) (m' : List Addr) (H' : Hp) : Prop where
  keep : ∀ a o, ¬ F a → H a = some o → H' a = some o ∧ ¬ F' a
  pre : ∀ (n : Nat) a, m[n]? = some a → m'[n]? = some a
theorem Wk.refl (F : Fr) (m : List Addr) (H : Hp) : Wk F m H F m H := ⟨fun _ _ n e => ⟨e, n⟩, fun _ _ e => e⟩
theorem Wk.trans {F1 : Fr} {m1 : List Addr} {H1 : Hp} {F2 : Fr} {m2 : List Addr} {H2 : Hp} (a : Wk F m H F1 m1 H1) (b : Wk F1 m1 H1 F2 m2 H2) : Wk F m H F2 m2 H2 :=
  ⟨fun x o n e => b.keep x o (a.keep x o n e).2 (a.keep x o n e).1, fun n x e => b.pre n x (a.pre n x e)⟩
theorem Stp.wk (s : Stp F m H F' m' H') (hm : ∀ a ∈ m, F a) : Wk F m H F' m' H' :=
  ⟨fun a o n e => s.keeps hm n e, fun n a e => by
    obtain ⟨t, e3, _⟩ := s.pre
    rw [e3]
    exact (List.getElem?_append_left (List.getElem?_eq_some_iff.mp e).1).trans e⟩
mutual
theorem RV.monoW (s : Wk F m H F' m' H') : ∀ (x : Val) (v : V), RV N K F m H x v → RV N K F' m' H' x v
  | .non, _, e => by simpa only [RV] using e
  | .bl _, _, e => by simpa only [RV] using e
  | .int _, _, e => by simpa only [RV] using e
  | .str _, _, e => by simpa only [RV] using e
  | .lst xs, v, e => by
    simp only [RV] at e ⊢
    obtain ⟨a, vs, e1, e2, e3, e4⟩ := e
    exact ⟨a, vs, e1, (s.keep _ _ e2 e3).2, (s.keep _ _ e2 e3).1, RVs.monoW s xs vs e4⟩
  | .tup xs, v, e => by
    simp only [RV] at e ⊢
    obtain ⟨a, vs, e1, e2, e3, e4⟩ := e
    exact ⟨a, vs, e1, (s.keep _ _ e2 e3).2, (s.keep _ _ e2 e3).1, RVs.monoW s xs vs e4⟩
  | .ins c ks xs, v, e => by
    simp only [RV] at e ⊢
    obtain ⟨a, dx, vs, e1, e2, e3, e4, e5⟩ := e
    exact ⟨a, dx, vs, e1, (s.keep _ _ e2 e3).2, (s.keep _ _ e2 e3).1, RVs.monoW s xs vs e4, e5⟩
  | .dct0, v, e => by
    simp only [RV] at e ⊢
    obtain ⟨a, e1, e2, e3⟩ := e
    exact ⟨a, e1, (s.keep _ _ e2 e3).2, (s.keep _ _ e2 e3).1⟩
  | .frz xs, v, e => by
    simp only [RV] at e ⊢
    obtain ⟨a, vs, e1, e2, e4⟩ := e
    refine ⟨a, vs, e1, ?_, RVs.monoW s xs vs e4⟩
    rcases e2 with ⟨e2, o, e3⟩ | e2
    · exact .inl ⟨(s.keep _ _ e2 e3).2, o, (s.keep _ _ e2 e3).1⟩
    · exact .inr e2
  | .cell n, v, e => by
    simp only [RV] at e ⊢
    obtain ⟨a, e1, e2⟩ := e
    exact ⟨a, s.pre _ _ e1, e2⟩
theorem RVs.monoW (s : Wk F m H F' m' H') : ∀ (xs : List Val) (vs : List V), RVs N K F m H xs vs → RVs N K F' m' H' xs vs
  | [], _, e => by simpa only [RVs] using e
  | x :: xs, vs, e => by
    simp only [RVs] at e ⊢
    obtain ⟨v, r, e1, e2, e3⟩ := e
    exact ⟨v, r, e1, RV.monoW s x v e2, RVs.monoW s xs r e3⟩
end
theorem RV.mono (s : Stp F m H F' m' H') (hm : ∀ a ∈ m, F a) (x : Val) (v : V) (e : RV N K F m H x v) : RV N K F' m' H' x v := RV.monoW (s.wk hm) x v e
theorem RVs.mono (s : Stp F m H F' m' H') (hm : ∀ a ∈ m, F a) (xs : List Val) (vs : List V) (e : RVs N K F m H xs vs) : RVs N K F' m' H' xs vs := RVs.monoW (s.wk hm) xs vs e

/-! ### a new object; a cell that changes -/
theorem Rel.nF (R : Rel N K F m H h) {p : Addr} (hp : H p = none) : ¬ F p := fun z => R.dom p z hp
theorem stp_new (R : Rel N K F m H h) {p : Addr} {o : HO} (hp : H p = none) : Stp F m H F m (upd H p o) where
  fr := fun a u e _ => by rw [upd_ne (ne_of_none e hp)]; exact e
  dm := fun a e => by
    by_cases z : a = p
    · subst z; exact absurd hp e
    · rw [upd_ne z]; exact e
  fF := fun _ z => .inl z
  Fm := fun _ z => z
  pre := ⟨[], (List.append_nil m).symm, fun _ h => by cases h⟩
theorem RC.mono {c : Cell} {a : Addr} (s : Stp F m H F' m' H') (hm : ∀ a ∈ m, F a) (e : H' a = H a) (r : RC N K F m H c a) : RC N K F' m' H' c a := by
  cases c with
  | lst f xs =>
    obtain ⟨vs, h1, h2⟩ := r
    exact ⟨vs, e.trans h1, RVs.mono s hm xs vs h2⟩
  | ins f c ks xs =>
    obtain ⟨dx, vs, h1, h2, h3⟩ := r
    exact ⟨dx, vs, e.trans h1, RVs.mono s hm xs vs h2, h3⟩
theorem rel_new (R : Rel N K F m H h) {p : Addr} {o : HO} (hp : H p = none) : Rel N K F m (upd H p o) h where
  len := R.len
  nd := R.nd
  mem := R.mem
  dom := fun a z => (stp_new R hp).dm a (R.dom a z)
  cell := fun n c a h1 h2 => by
    have hne : a ≠ p := fun z => R.nF hp (by rw [← z]; exact R.mem a (List.mem_of_getElem? h2))
    exact RC.mono (stp_new R hp) R.mem (upd_ne hne) (R.cell n c a h1 h2)
/-- a cell's object is written -/
theorem stp_set (R : Rel N K F m H h) {n : Nat} {a : Addr} {o : HO} (ha : m[n]? = some a) : Stp F m H F m (upd H a o) where
  fr := fun b u e hb => by
    have : b ≠ a := fun z => hb (by rw [z]; exact List.mem_of_getElem? ha)
    rw [upd_ne this]; exact e
  dm := fun b e => by
    by_cases z : b = a
    · rw [z, upd_same]; intro q; cases q
    · rw [upd_ne z]; exact e
  fF := fun _ z => .inl z
  Fm := fun _ z => z
  pre := ⟨[], (List.append_nil m).symm, fun _ h => by cases h⟩
theorem nd_get {m : List Addr} (nd : m.Nodup) {i j : Nat} {a : Addr} (h1 : m[i]? = some a) (h2 : m[j]? = some a) : i = j := by
  obtain ⟨l1, e1⟩ := List.getElem?_eq_some_iff.mp h1
  obtain ⟨l2, e2⟩ := List.getElem?_eq_some_iff.mp h2
  induction m generalizing i j with
  | nil => simp at l1
  | cons x r ih =>
    rw [List.nodup_cons] at nd
    cases i with
    | zero =>
      cases j with
      | zero => rfl
      | succ j =>
        simp at h1 h2
        subst h1
        exact absurd (List.mem_of_getElem? h2) nd.1
    | succ i =>
      cases j with
      | zero =>
        simp at h1 h2
        subst h2
        exact absurd (List.mem_of_getElem? h1) nd.1
      | succ j =>
        simp at h1 h2 l1 l2 e1 e2
        exact congrArg _ (ih nd.2 h1 h2 l1 e1 l2 e2)
theorem rel_set (R : Rel N K F m H h) {n : Nat} {a : Addr} {o : HO} {c : Cell} (ha : m[n]? = some a) (hc : RC N K F m (upd H a o) c a) : Rel N K F m (upd H a o) (h.set n c) where
  len := by rw [List.length_set]; exact R.len
  nd := R.nd
  mem := R.mem
  dom := fun b z => (stp_set R ha).dm b (R.dom b z)
  cell := fun k d b h1 h2 => by
    by_cases z : k = n
    · subst z
      rw [ha] at h2
      cases h2
      have hl : k < h.length := by rw [← R.len]; exact (List.getElem?_eq_some_iff.mp ha).1
      rw [List.getElem?_set_self hl] at h1
      cases h1
      exact hc
    · rw [List.getElem?_set_ne (Ne.symm z)] at h1
      have hne : b ≠ a := fun q => z (nd_get R.nd (by rw [← q]; exact h2) ha)
      exact RC.mono (stp_set R ha) R.mem (upd_ne hne) (R.cell k d b h1 h2)
/-- a new cell -/
theorem stp_cell (R : Rel N K F m H h) {p : Addr} {o : HO} (hp : H p = none) : Stp F m H (fun a => F a ∨ a = p) (m ++ [p]) (upd H p o) where
  fr := (stp_new R hp).fr
  dm := (stp_new R hp).dm
  fF := fun a z => z.elim .inl (fun z => by subst z; exact .inr hp)
  Fm := fun _ z => .inl z
  pre := ⟨[p], rfl, fun a ha => by rw [List.mem_singleton] at ha; rw [ha]; exact hp⟩
theorem rel_cell (R : Rel N K F m H h) {p : Addr} {o : HO} {c : Cell} (hp : H p = none) (hc : RC N K (fun a => F a ∨ a = p) (m ++ [p]) (upd H p o) c p) : Rel N K (fun a => F a ∨ a = p) (m ++ [p]) (upd H p o) (h ++ [c]) where
  len := by rw [List.length_append, List.length_append, R.len]; rfl
  nd := by
    rw [List.nodup_append]
    refine ⟨R.nd, by simp, fun a ha b hb => ?_⟩
    rw [List.mem_singleton] at hb
    subst hb
    exact fun z => R.nF hp (by rw [← z]; exact R.mem a ha)
  mem := fun a ha => by
    rcases List.mem_append.mp ha with z | z
    · exact .inl (R.mem a z)
    · exact .inr (List.mem_singleton.mp z)
  dom := fun a z => by
    rcases z with z | z
    · exact (stp_new R hp).dm a (R.dom a z)
    · rw [z, upd_same]; intro q; cases q
  cell := fun n d b h1 h2 => by
    by_cases hn : n < h.length
    · rw [List.getElem?_append_left hn] at h1
      rw [List.getElem?_append_left (by rw [R.len]; exact hn)] at h2
      have hne : b ≠ p := fun z => R.nF hp (by rw [← z]; exact R.mem b (List.mem_of_getElem? h2))
      exact RC.mono (stp_cell R hp) R.mem (upd_ne hne) (R.cell n d b h1 h2)
    · have e1 : n = h.length := by
        have := (List.getElem?_eq_some_iff.mp h1).1
        rw [List.length_append] at this
        simp at this
        omega
      subst e1
      have e2 : (m ++ [p])[h.length]? = some p := by rw [← R.len, List.getElem?_append_right (Nat.le_refl _)]; simp
      rw [e2] at h2
      cases h2
      rw [List.getElem?_append_right (Nat.le_refl _)] at h1
      simp at h1
      subst h1
      exact hc
end

/-! ### what a run leaves -/
section
variable (N : Nm) (K : PySem.W.Frag)
def RX (F : Fr) (m : List Addr) (H : Hp) (c : Nat) (xs : List Val) (cls : Value) (d : Option Addr) : Prop :=
  cls = .ref (He.ga K (N.cls c)) ∧ ((xs = [] ∧ d = none) ∨ ∃ x f dd v, xs = [x] ∧ N.xf c = some f ∧ d = some dd ∧ ¬ F dd ∧ H dd = some (.xd [(N.fld f, v)]) ∧ RV N K F m H x v)
def PostG {α β : Type} (rel : Fr → List Addr → Hp → α → β → Prop) (F : Fr) (m : List Addr) (H : Hp) (r : Res α) (Q : β → Hp → Prop) (E : XK) : Prop := match r with
  | .ok x h' => ∀ F' m' H' v, Stp F m H F' m' H' → Rel N K F' m' H' h' → rel F' m' H' x v → Q v H'
  | .ex c xs h' => ∀ F' m' H' cls d, Stp F m H F' m' H' → Rel N K F' m' H' h' → RX N K F' m' H' c xs cls d → E cls d H'
  | .no => False
end
section
variable {N : Nm} {K : PySem.W.Frag} {F F' : Fr} {m m' : List Addr} {H H' : Hp} {h : Hv} {α β γ δ : Type} {rel : Fr → List Addr → Hp → α → β → Prop} {rel' : Fr → List Addr → Hp → γ → δ → Prop} {E : XK}
theorem PostG.step {r : Res α} {Q : β → Hp → Prop} (s : Stp F m H F' m' H') (p : PostG N K rel F m H r Q E) : PostG N K rel F' m' H' r Q E := by
  cases r with
  | ok x h' => exact fun F2 m2 H2 v t R q => p F2 m2 H2 v (s.trans t) R q
  | ex c xs h' => exact fun F2 m2 H2 cls d t R q => p F2 m2 H2 cls d (s.trans t) R q
  | no => exact p
theorem PostG.bind {r : Res α} {k : α → Hv → Res γ} {Q : δ → Hp → Prop} (p : PostG N K rel' F m H (r.bind k) Q E) :
    PostG N K rel F m H r (fun v H1 => ∃ F1 m1 h1 x, Rel N K F1 m1 H1 h1 ∧ Stp F m H F1 m1 H1 ∧ rel F1 m1 H1 x v ∧ PostG N K rel' F1 m1 H1 (k x h1) Q E) E := by
  cases r with
  | ok x h' => exact fun F1 m1 H1 v t R q => ⟨F1, m1, h', x, R, t, q, PostG.step t p⟩
  | ex c xs h' => exact p
  | no => exact p
theorem PostG.imp {r : Res α} {Q Q' : β → Hp → Prop} {E' : XK} (p : PostG N K rel F m H r Q E) (q : ∀ v H, Q v H → Q' v H) (e : ∀ c d H, E c d H → E' c d H) : PostG N K rel F m H r Q' E' := by
  cases r with
  | ok x h' => exact fun F1 m1 H1 v t R z => q _ _ (p F1 m1 H1 v t R z)
  | ex c xs h' => exact fun F1 m1 H1 c d t R z => e _ _ _ (p F1 m1 H1 c d t R z)
  | no => exact p
theorem PostG.ok {x : α} {v : β} {Q : β → Hp → Prop} (p : PostG N K rel F m H (.ok x h) Q E) (R : Rel N K F m H h) (r : rel F m H x v) : Q v H := p F m H v (Stp.refl F m H) R r
theorem PostG.ofO {o : Option α} {Q : β → Hp → Prop} {E' : XK} (p : PostG N K rel F m H (ofO o h) Q E) : PostG N K rel F m H (ofO o h) Q E' := by
  cases o with
  | some x => exact p
  | none => exact p
end
/-- the frame's names -/
structure REnv (N : Nm) (K : PySem.W.Frag) (F : Fr) (m : List Addr) (H : Hp) (e : Env) (σ : L2.St) : Prop where
  len : e.length = σ.length
  at_ : ∀ (i : Nat) (x : Val), e[i]? = some (some x) → ∃ v, σ[i]? = some (some v) ∧ RV N K F m H x v
section
variable {N : Nm} {K : PySem.W.Frag} {F F' : Fr} {m m' : List Addr} {H H' : Hp} {h : Hv} {e : Env} {σ : L2.St}
theorem REnv.mono (r : REnv N K F m H e σ) (s : Stp F m H F' m' H') (hm : ∀ a ∈ m, F a) : REnv N K F' m' H' e σ :=
  ⟨r.len, fun i x q => let ⟨v, h1, h2⟩ := r.at_ i x q; ⟨v, h1, RV.mono s hm x v h2⟩⟩
theorem REnv.set (r : REnv N K F m H e σ) {i : Nat} {x : Val} {v : V} (q : RV N K F m H x v) : REnv N K F m H (e.set i (some x)) (σ.set i (some v)) where
  len := by rw [List.length_set, List.length_set, r.len]
  at_ := fun j y hy => by
    by_cases z : j = i
    · subst z
      by_cases hl : j < e.length
      · rw [List.getElem?_set_self hl] at hy
        cases hy
        exact ⟨v, List.getElem?_set_self (by rw [← r.len]; exact hl), q⟩
      · rw [List.getElem?_eq_none (by rw [List.length_set]; omega)] at hy
        cases hy
    · rw [List.getElem?_set_ne (Ne.symm z)] at hy
      obtain ⟨w, h1, h2⟩ := r.at_ j y hy
      exact ⟨w, by rw [List.getElem?_set_ne (Ne.symm z)]; exact h1, h2⟩
theorem REnv.unset (r : REnv N K F m H e σ) {i : Nat} : REnv N K F m H (e.set i none) (σ.set i none) where
  len := by rw [List.length_set, List.length_set, r.len]
  at_ := fun j y hy => by
    by_cases z : j = i
    · subst z
      by_cases hl : j < e.length
      · rw [List.getElem?_set_self hl] at hy
        cases hy
      · rw [List.getElem?_eq_none (by rw [List.length_set]; omega)] at hy
        cases hy
    · rw [List.getElem?_set_ne (Ne.symm z)] at hy
      obtain ⟨w, h1, h2⟩ := r.at_ j y hy
      exact ⟨w, by rw [List.getElem?_set_ne (Ne.symm z)]; exact h1, h2⟩
theorem REnv.wipe (r : REnv N K F m H e σ) : ∀ vs : List Nat, REnv N K F m H (wipeE e vs) (L2.wipe σ vs)
  | [] => r
  | v :: vs => (REnv.wipe r vs).unset
end
/-- an expression's reading -/
def rdE (N : Nm) (K : PySem.W.Frag) (cf : CF) (a : E) (W : WX) : TE := fun σ H Q => ∃ F m h e, Rel N K F m H h ∧ REnv N K F m H e σ ∧ PostG N K (RV N K) F m H (evE cf a e h) Q (fun c d H' => W c d σ H')
def rdEs (N : Nm) (K : PySem.W.Frag) (cf : CF) (as : List E) (W : WX) : TA := fun σ H Q => ∃ F m h e, Rel N K F m H h ∧ REnv N K F m H e σ ∧ PostG N K (RVs N K) F m H (evEs cf as e h) Q (fun c d H' => W c d σ H')
/-- a test's -/
def rdT (N : Nm) (K : PySem.W.Frag) (cf : CF) (a : E) (W : WX) : TT := fun σ H Q => ∃ F m h e, Rel N K F m H h ∧ REnv N K F m H e σ ∧ PostG N K (RV N K) F m H (evE cf a e h) (fun v H' => ∃ b, v = .bl b ∧ Q b H') (fun c d H' => W c d σ H')
section
variable {X : Cx} {ex : Expr}
theorem PE.imp {t t' : TE} (p : PE X ex t) (h : ∀ σ H Q, t' σ H Q → t σ H Q) : PE X ex t' := ⟨fun pins s σ H Q I q => p.run pins s σ H Q I (h σ H Q q)⟩
theorem PT.imp {t t' : TT} (p : PT X ex t) (h : ∀ σ H Q, t' σ H Q → t σ H Q) : PT X ex t' := ⟨fun pins s σ H Q I q => p.run pins s σ H Q I (h σ H Q q)⟩
theorem PA.imp {es : List Expr} {t t' : TA} (p : PA X es t) (h : ∀ σ H Q, t' σ H Q → t σ H Q) : PA X es t' := ⟨fun pos pins s σ H Q I q => p.run pos pins s σ H Q I (h σ H Q q)⟩
theorem PS.imp {st : Stmt} {t t' : TS} (p : PS X st t) (h : ∀ D σ H, t' D σ H → t D σ H) : PS X st t' := ⟨fun pins s σ H D I q => p.run pins s σ H D I (h D σ H q)⟩
theorem PSs.imp {st : List Stmt} {t t' : TS} (p : PSs X st t) (h : ∀ D σ H, t' D σ H → t D σ H) : PSs X st t' := ⟨fun pins s σ H D I q => p.run pins s σ H D I (h D σ H q)⟩
end
end Pv

/-! Ev2: the operators, by values. -/
set_option linter.all false
set_option Elab.async false
set_option maxRecDepth 100000
set_option maxHeartbeats 1000000
namespace Pv
open PySem PySem.Spec PyProof.Rows L2
section
variable {N : Nm} {K : PySem.W.Frag} {F F' : Fr} {m m' : List Addr} {H H' : Hp} {h : Hv}
/-! ### lists of values -/
theorem RVs.length : ∀ {xs : List Val} {vs : List V}, RVs N K F m H xs vs → xs.length = vs.length
  | [], vs, e => by simp only [RVs] at e; rw [e]; rfl
  | x :: xs, vs, e => by
    simp only [RVs] at e
    obtain ⟨v, r, rfl, _, e⟩ := e
    rw [List.length_cons, List.length_cons, RVs.length e]
theorem RVs.get : ∀ {xs : List Val} {vs : List V} {i : Nat} {x : Val}, RVs N K F m H xs vs → xs[i]? = some x → ∃ v, vs[i]? = some v ∧ RV N K F m H x v
  | [], _, i, x, _, q => by simp at q
  | y :: ys, vs, i, x, e, q => by
    simp only [RVs] at e
    obtain ⟨v, r, rfl, e1, e2⟩ := e
    cases i with
    | zero => simp at q; subst q; exact ⟨v, rfl, e1⟩
    | succ i =>
      rw [List.getElem?_cons_succ] at q
      rw [List.getElem?_cons_succ]
      exact RVs.get e2 q
theorem RVs.nil : RVs N K F m H [] [] := by simp only [RVs]
theorem RVs.cons {x : Val} {v : V} {xs : List Val} {vs : List V} (a : RV N K F m H x v) (b : RVs N K F m H xs vs) : RVs N K F m H (x :: xs) (v :: vs) := by
  simp only [RVs]
  exact ⟨v, vs, rfl, a, b⟩
theorem RVs.append : ∀ {xs ys : List Val} {vs ws : List V}, RVs N K F m H xs vs → RVs N K F m H ys ws → RVs N K F m H (xs ++ ys) (vs ++ ws)
  | [], _, vs, _, e, q => by simp only [RVs] at e; rw [e]; exact q
  | x :: xs, _, vs, _, e, q => by
    simp only [RVs] at e
    obtain ⟨v, r, rfl, e1, e2⟩ := e
    exact .cons e1 (RVs.append e2 q)
theorem RVs.take : ∀ {xs : List Val} {vs : List V} (n : Nat), RVs N K F m H xs vs → RVs N K F m H (xs.take n) (vs.take n)
  | xs, vs, 0, _ => by rw [List.take_zero, List.take_zero]; exact .nil
  | [], vs, n + 1, e => by simp only [RVs] at e; rw [e]; exact .nil
  | x :: xs, vs, n + 1, e => by
    simp only [RVs] at e
    obtain ⟨v, r, rfl, e1, e2⟩ := e
    exact .cons e1 (RVs.take n e2)
theorem RVs.drop : ∀ {xs : List Val} {vs : List V} (n : Nat), RVs N K F m H xs vs → RVs N K F m H (xs.drop n) (vs.drop n)
  | xs, vs, 0, e => e
  | [], vs, n + 1, e => by simp only [RVs] at e; rw [e]; exact .nil
  | x :: xs, vs, n + 1, e => by
    simp only [RVs] at e
    obtain ⟨v, r, rfl, e1, e2⟩ := e
    exact RVs.drop n e2
theorem RVs.set : ∀ {xs : List Val} {vs : List V} {x : Val} {v : V} (i : Nat), RV N K F m H x v → RVs N K F m H xs vs → RVs N K F m H (xs.set i x) (vs.set i v)
  | [], vs, _, _, i, _, e => by simp only [RVs] at e; rw [e]; exact .nil
  | y :: ys, vs, x, v, i, q, e => by
    simp only [RVs] at e
    obtain ⟨w, r, rfl, e1, e2⟩ := e
    cases i with
    | zero => exact .cons q e2
    | succ i => exact .cons e1 (RVs.set i q e2)
theorem RVs.erase : ∀ {xs : List Val} {vs : List V} (i : Nat), RVs N K F m H xs vs → RVs N K F m H (xs.eraseIdx i) (vs.eraseIdx i)
  | [], vs, i, e => by simp only [RVs] at e; rw [e]; exact .nil
  | y :: ys, vs, i, e => by
    simp only [RVs] at e
    obtain ⟨w, r, rfl, e1, e2⟩ := e
    cases i with
    | zero => exact e2
    | succ i => exact .cons e1 (RVs.erase i e2)
theorem RVs.rep {xs : List Val} {vs : List V} (e : RVs N K F m H xs vs) : ∀ n : Nat, RVs N K F m H (List.replicate n xs).flatten (List.replicate n vs).flatten
  | 0 => .nil
  | n + 1 => by
    rw [List.replicate_succ, List.replicate_succ, List.flatten_cons, List.flatten_cons]
    exact .append e (RVs.rep e n)
theorem RVs.reverse : ∀ {xs : List Val} {vs : List V}, RVs N K F m H xs vs → RVs N K F m H xs.reverse vs.reverse
  | [], vs, e => by simp only [RVs] at e; rw [e]; exact .nil
  | y :: ys, vs, e => by
    simp only [RVs] at e
    obtain ⟨w, r, rfl, e1, e2⟩ := e
    rw [List.reverse_cons, List.reverse_cons]
    exact .append (RVs.reverse e2) (.cons e1 .nil)
theorem RVs.dropLast {xs : List Val} {vs : List V} (e : RVs N K F m H xs vs) : RVs N K F m H xs.dropLast vs.dropLast := by
  rw [List.dropLast_eq_take, List.dropLast_eq_take, e.length]
  exact RVs.take _ e
theorem RVs.cut {xs : List Val} {vs : List V} (e : RVs N K F m H xs vs) (lo hi : Option Int) : RVs N K F m H (cutL xs lo hi) (cutV vs lo hi) := by
  unfold cutL cutV
  rw [e.length]
  exact RVs.take _ (RVs.drop _ e)
theorem RVs.ints : ∀ {xs : List Val} {vs : List V} {ns : List Int}, RVs N K F m H xs vs → intsOf xs = some ns → vs = ns.map V.int
  | [], vs, ns, e, q => by simp only [RVs] at e; simp only [intsOf, Option.some.injEq] at q; rw [e, ← q]; rfl
  | x :: xs, vs, ns, e, q => by
    simp only [RVs] at e
    obtain ⟨v, r, rfl, e1, e2⟩ := e
    cases x with
    | int i =>
      simp only [RV] at e1
      simp only [intsOf] at q
      cases z : intsOf xs with
      | none => rw [z] at q; cases q
      | some l =>
        rw [z] at q
        cases q
        rw [e1, RVs.ints e2 z]
        rfl
    | _ => simp [intsOf] at q
theorem RVs.strs : ∀ {xs : List Val} {vs : List V} {ns : List Str}, RVs N K F m H xs vs → strsOf xs = some ns → vs = ns.map V.str
  | [], vs, ns, e, q => by simp only [RVs] at e; simp only [strsOf, Option.some.injEq] at q; rw [e, ← q]; rfl
  | x :: xs, vs, ns, e, q => by
    simp only [RVs] at e
    obtain ⟨v, r, rfl, e1, e2⟩ := e
    cases x with
    | str i =>
      simp only [RV] at e1
      simp only [strsOf] at q
      cases z : strsOf xs with
      | none => rw [z] at q; cases q
      | some l =>
        rw [z] at q
        cases q
        rw [e1, RVs.strs e2 z]
        rfl
    | _ => simp [strsOf] at q
theorem RVs.of_strs : ∀ (ns : List Str), RVs N K F m H (ns.map .str) (ns.map V.str)
  | [] => .nil
  | n :: ns => .cons (by simp only [RV]) (RVs.of_strs ns)
/-! ### what stands where -/
theorem kl_sql {a : Addr} {vs : List V} (k : KL K a vs) : SqL K H a vs := .inr k
theorem litems_at (R : Rel N K F m H h) {x : Val} {v : V} {xs : List Val} (r : RV N K F m H x v) (e : litems h x = some xs) : ∃ a vs, v = .ref a ∧ H a = some (.lst vs) ∧ RVs N K F m H xs vs := by
  cases x with
  | lst ys =>
    simp only [litems, Option.some.injEq] at e
    subst e
    simp only [RV] at r
    obtain ⟨a, vs, e1, _, e2, e3⟩ := r
    exact ⟨a, vs, e1, e2, e3⟩
  | cell n =>
    simp only [RV] at r
    obtain ⟨a, e1, e2⟩ := r
    simp only [litems] at e
    split at e
    · rename_i f ys hc
      cases e
      obtain ⟨vs, h1, h2⟩ := R.cell n _ a hc e1
      exact ⟨a, vs, e2, h1, h2⟩
    · cases e
  | _ => simp [litems] at e
theorem items_at (R : Rel N K F m H h) {x : Val} {v : V} {xs : List Val} (r : RV N K F m H x v) (e : items h x = some xs) : ∃ a vs, v = .ref a ∧ SqL K H a vs ∧ RVs N K F m H xs vs := by
  cases x with
  | frz ys =>
    simp only [items, Option.some.injEq] at e
    subst e
    simp only [RV] at r
    obtain ⟨a, vs, e1, e2, e3⟩ := r
    refine ⟨a, vs, e1, ?_, e3⟩
    rcases e2 with ⟨_, o, e2⟩ | e2
    · exact .inl (.inr ⟨o, e2⟩)
    · exact kl_sql e2
  | lst ys =>
    obtain ⟨a, vs, e1, e2, e3⟩ := litems_at R r (show litems h (.lst ys) = some xs from e)
    exact ⟨a, vs, e1, SqL.of e2, e3⟩
  | cell n =>
    obtain ⟨a, vs, e1, e2, e3⟩ := litems_at R r (show litems h (.cell n) = some xs from e)
    exact ⟨a, vs, e1, SqL.of e2, e3⟩
  | _ => simp [items] at e
theorem seqs_at (R : Rel N K F m H h) {x : Val} {v : V} {xs : List Val} (r : RV N K F m H x v) (e : seqs h x = some xs) : ∃ a vs, v = .ref a ∧ (SqL K H a vs ∨ SqT K H a vs) ∧ RVs N K F m H xs vs := by
  cases x with
  | tup ys =>
    simp only [seqs, Option.some.injEq] at e
    subst e
    simp only [RV] at r
    obtain ⟨a, vs, e1, _, e2, e3⟩ := r
    exact ⟨a, vs, e1, .inr (SqT.of e2), e3⟩
  | lst ys =>
    obtain ⟨a, vs, e1, e2, e3⟩ := items_at R r (show items h (.lst ys) = some xs from e)
    exact ⟨a, vs, e1, .inl e2, e3⟩
  | frz ys =>
    obtain ⟨a, vs, e1, e2, e3⟩ := items_at R r (show items h (.frz ys) = some xs from e)
    exact ⟨a, vs, e1, .inl e2, e3⟩
  | cell n =>
    obtain ⟨a, vs, e1, e2, e3⟩ := items_at R r (show items h (.cell n) = some xs from e)
    exact ⟨a, vs, e1, .inl e2, e3⟩
  | _ => simp [seqs, items] at e
theorem sizeLim {n : Nat} (h : n ≤ lim) : n ≤ sizeLine := Nat.le_trans h (by rw [sizeLine_eq]; decide)
theorem sizeLt {n : Nat} (h : n < lim) : n < sizeLine := Nat.lt_of_lt_of_le h (by rw [sizeLine_eq]; decide)
/-- a new list, a new tuple -/
theorem rv_newL (R : Rel N K F m H h) {p : Addr} {xs : List Val} {vs : List V} (hp : H p = none) (r : RVs N K F m H xs vs) : RV N K F m (upd H p (.lst vs)) (.lst xs) (.ref p) := by
  simp only [RV]
  exact ⟨p, vs, rfl, R.nF hp, upd_same, RVs.mono (stp_new R hp) R.mem xs vs r⟩
theorem rv_newT (R : Rel N K F m H h) {p : Addr} {xs : List Val} {vs : List V} (hp : H p = none) (r : RVs N K F m H xs vs) : RV N K F m (upd H p (.tup vs)) (.tup xs) (.ref p) := by
  simp only [RV]
  exact ⟨p, vs, rfl, R.nF hp, upd_same, RVs.mono (stp_new R hp) R.mem xs vs r⟩
abbrev E9 : XK := fun _ _ _ => False
/-- the answer is a new list -/
theorem ans_L (R : Rel N K F m H h) {xs : List Val} {vs : List V} {Q : VK} {E : XK} (q : PostG N K (RV N K) F m H (.ok (.lst xs) h) Q E) (r : RVs N K F m H xs vs) : ∀ p, H p = none → Q (.ref p) (upd H p (.lst vs)) :=
  fun p hp => q F m _ _ (stp_new R hp) (rel_new R hp) (rv_newL R hp r)
theorem ans_T (R : Rel N K F m H h) {xs : List Val} {vs : List V} {Q : VK} {E : XK} (q : PostG N K (RV N K) F m H (.ok (.tup xs) h) Q E) (r : RVs N K F m H xs vs) : ∀ p, H p = none → Q (.ref p) (upd H p (.tup vs)) :=
  fun p hp => q F m _ _ (stp_new R hp) (rel_new R hp) (rv_newT R hp r)
end

/-! ### a op b -/
def bopOf : Bop → Operator
  | .add => .Add | .sub => .Sub | .mul => .Mult | .fdiv => .FloorDiv | .mod => .Mod | .pow => .Pow
def rV2 (N : Nm) (K : PySem.W.Frag) (f : Hv → Val → Val → Option Val) : R2 := fun v u H Q => ∃ F m h x y, Rel N K F m H h ∧ RV N K F m H x v ∧ RV N K F m H y u ∧ PostG N K (RV N K) F m H (ofO (f h x y) h) Q E9
section
variable {X : Cx} {N : Nm}
def CMulA (i j : Int) : Prop := mulOk i j = true
theorem op_mulA : OpR X (binaryOp .Mult) (rI CMulA fun i j => .int (i * j)) := by
  intro pins s σ H x y v u Q I rx ry ⟨i, j, e1, e2, hc, q⟩
  have hc : mulOk i j = true := hc
  unfold mulOk at hc
  rw [Bool.or_eq_true, Bool.or_eq_true] at hc
  rcases hc with hc | hc | hc
  · have := of_decide_eq_true hc
    exact op_mul pins s σ H x y v u Q I rx ry ⟨i, j, e1, e2, .inl ⟨by omega, by omega⟩, q⟩
  · have := of_decide_eq_true hc
    exact op_mul pins s σ H x y v u Q I rx ry ⟨i, j, e1, e2, .inr ⟨by omega, by omega⟩, q⟩
  · have hc := of_decide_eq_true hc
    exact op_mulW pins s σ H x y v u Q I rx ry ⟨i, j, e1, e2, hc, q⟩
/-- t * 1 is t -/
theorem tuple_mul1 (l : Addr) (items : Array Value) (n : Nat) (dd : Option Addr) (sl : Array (Option Value)) (u : Tok) :
    Meets (Builtin.«tuple.__mul__» ⟨[.ref l, .int 1 u], []⟩) (fun _ R s => s.heap.get? l = some { cls := .type "tuple", dict := dd, data := .seq items n, slots := sl } ∧ R (.ok (.ret (Value.ref l))) s) :=
  .of_wp fun prog w A R s h => by
    obtain ⟨hp, g, d, tk, os⟩ := s
    obtain ⟨hl, h⟩ := h
    have f1 := PySem.AutoSeq1.idx_int
    wp_walk using PySem.AutoSeq1.wpAny_loadPart' hl
    repeat (first
      | (refine wpAny_ite_false (by decide) ?_; wp_walk using PySem.AutoSeq1.wpAny_loadPart' hl)
      | (refine wpAny_ite_true (by simp) ?_; wp_walk using PySem.AutoSeq1.wpAny_loadPart' hl))
    all_goals first | exact ⟨_, rfl, h⟩ | trace_state
theorem op_repT1 : OpR X (binaryOp .Mult) (fun x y H Q => ∃ l xs, x = .ref l ∧ y = .int 1 ∧ SqT X.K H l xs ∧ Q (.ref l) H) := by
  intro pins s σ H x y v u Q I rx ry h
  obtain ⟨l, xs, rfl, rfl, hT, q⟩ := h
  cases rx
  obtain ⟨t, rfl⟩ := ry
  obtain ⟨its, r, ⟨⟨cls, dd, data, sl⟩, ho, hc, n, hd⟩, hs⟩ := I.tuple hT
  simp only at hc hd
  subst hc hd
  refine wpAny_binaryOp_repeat_ref (T := "tuple") (U := "int") (by decide) ⟨_, ho, rfl⟩ (fun s' => typeIs_int s' 1 t) noFill_tuple_mul F.fills_int_mul F.slot_int_rmul repeat_tuple F.slot_int_index.lookup
    (call_meets F.slot_int_rmul (typeIs_int s 1 t) F.entry_int_rmul (F.args_int_rmul_2 _ _) (int_rmul_tuple 1 t l its.toArray n dd sl)
      ⟨ho, rfl, ⟨_, ho, rfl⟩, call_meets F.slot_tuple_mul ⟨_, ho, rfl⟩ F.entry_tuple_mul (F.args_tuple_mul_2 _ _) (tuple_mul1 l its.toArray n dd sl t) ⟨ho, ?_⟩⟩)
  exact ⟨.ref l, H, I, rfl, q⟩
/-- an operation of which the evaluator knows the answer -/
theorem op_bin (op : Bop) : OpR X (binaryOp (bopOf op)) (rV2 N X.K (fun h => binV h op)) := by
  intro pins s σ H v u vv uu Q I rv ru ⟨F, m, h, x, y, R, rx, ry, q⟩
  have q : PostG N X.K (RV N X.K) F m H (ofO (binV h op x y) h) Q E9 := q
  generalize hb : binV h op x y = o at q
  cases o with
  | none => exact False.elim q
  | some z =>
    have q : PostG N X.K (RV N X.K) F m H (.ok z h) Q E9 := q
    unfold binV at hb
    split at hb
    · cases hb
      simp only [RV] at rx ry
      exact op_add pins s σ H v u vv uu Q I rv ru ⟨_, _, rx, ry, q.ok R (by simp only [RV])⟩
    · split at hb
      · rename_i hl
        cases hb
        simp only [RV] at rx ry
        exact op_add_str pins s σ H v u vv uu Q I rv ru ⟨_, _, rx, ry, sizeLim hl, q.ok R (by simp only [RV])⟩
      · cases hb
    · split at hb
      · rename_i xs ys hl
        cases hb
        simp only [RV] at rx ry
        obtain ⟨a, vs, rfl, na, ha, ra⟩ := rx
        obtain ⟨b, ws, rfl, nb, hb', rb⟩ := ry
        rw [ra.length, rb.length] at hl
        refine op_catA pins s σ H _ _ vv uu Q I rv ru ⟨a, b, vs, ws, rfl, rfl, SqT.of ha, SqT.of hb', sizeLim hl, fun e => ?_, fun _ e => ?_, fun _ _ => ans_T R q (ra.append rb)⟩
        · refine q.ok R ?_
          have e' : xs = [] := List.eq_nil_of_length_eq_zero (by rw [ra.length, e]; rfl)
          rw [e', List.nil_append]
          simp only [RV]
          exact ⟨b, ws, rfl, nb, hb', rb⟩
        · refine q.ok R ?_
          have e' : ys = [] := List.eq_nil_of_length_eq_zero (by rw [rb.length, e]; rfl)
          rw [e', List.append_nil]
          simp only [RV]
          exact ⟨a, vs, rfl, na, ha, ra⟩
      · cases hb
    · unfold catL at hb
      split at hb
      · rename_i xs ys hx hy
        split at hb
        · rename_i hl
          cases hb
          obtain ⟨a, vs, rfl, ha, ra⟩ := litems_at R rx hx
          obtain ⟨b, ws, rfl, hb', rb⟩ := litems_at R ry hy
          rw [ra.length, rb.length] at hl
          exact op_cat pins s σ H _ _ vv uu Q I rv ru ⟨a, b, vs, ws, rfl, rfl, ha, hb', sizeLim hl, ans_L R q (ra.append rb)⟩
        · cases hb
      · cases hb
    · cases hb
      simp only [RV] at rx ry
      exact op_sub pins s σ H v u vv uu Q I rv ru ⟨_, _, rx, ry, q.ok R (by simp only [RV])⟩
    · split at hb
      · rename_i hl
        cases hb
        simp only [RV] at rx ry
        exact op_mulA pins s σ H v u vv uu Q I rv ru ⟨_, _, rx, ry, hl, q.ok R (by simp only [RV])⟩
      · cases hb
    · split at hb
      · rename_i xs k hl
        cases hb
        simp only [RV] at rx ry
        obtain ⟨a, vs, rfl, na, ha, ra⟩ := rx
        rw [ra.length] at hl
        obtain ⟨h1, h2, h3, h4⟩ := hl
        by_cases hk : k = 1
        · subst hk
          refine op_repT1 pins s σ H _ _ vv uu Q I rv ru ⟨a, vs, rfl, ry, SqT.of ha, q.ok R ?_⟩
          have e1 : (List.replicate (1 : Int).toNat xs).flatten = xs := by simp
          rw [e1]
          simp only [RV]
          exact ⟨a, vs, rfl, na, ha, ra⟩
        · exact op_repT pins s σ H _ _ vv uu Q I rv ru ⟨a, k, vs, rfl, ry, SqT.of ha, fun e => by rw [e] at h1; simp at h1, by omega, h3, h4, ans_T R q (ra.rep _)⟩
      · cases hb
    · rename_i xv k _ _
      simp only [RV] at ry
      split at hb
      · rename_i xs hx
        split at hb
        · rename_i hl
          cases hb
          obtain ⟨a, vs, rfl, ha, ra⟩ := litems_at R rx hx
          rw [ra.length] at hl
          exact op_rep pins s σ H _ _ vv uu Q I rv ru ⟨a, k, vs, rfl, ry, ha, by omega, by omega, sizeLim hl.2.2, ans_L R q (ra.rep _)⟩
        · cases hb
      · cases hb
    · split at hb
      · rename_i hl
        cases hb
        simp only [RV] at rx ry
        exact op_fdiv pins s σ H v u vv uu Q I rv ru ⟨_, _, rx, ry, hl, q.ok R (by simp only [RV])⟩
      · cases hb
    · split at hb
      · rename_i hl
        cases hb
        simp only [RV] at rx ry
        exact op_mod pins s σ H v u vv uu Q I rv ru ⟨_, _, rx, ry, hl, q.ok R (by simp only [RV])⟩
      · cases hb
    · split at hb
      · rename_i hl
        cases hb
        simp only [RV] at rx ry
        exact op_pow pins s σ H v u vv uu Q I rv ru ⟨_, _, rx, ry, ⟨hl.1, by omega, hl.2.2⟩, q.ok R (by simp only [RV])⟩
      · cases hb
    · cases hb
end

/-! ### comparisons -/
def copOf : Cop → CmpOp
  | .eq => .Eq | .ne => .NotEq | .lt => .Lt | .le => .LtE | .gt => .Gt | .ge => .GtE | .isN => .Is | .notN => .IsNot | .isIn => .In | .notIn => .NotIn
def rC2 (N : Nm) (K : PySem.W.Frag) (op : Cop) : R2 := rV2 N K (fun h x y => (cmpV h op x y).map Val.bl)
section
variable {N : Nm} {K : PySem.W.Frag} {F : Fr} {m : List Addr} {H : Hp} {h : Hv}
theorem sclPD_dp {x : Val} {v : V} {d : PyData} (r : RV N K F m H x v) (e : sclPD x = some d) : Dp K H v d ∧ d.canLay0 = true ∧ d.depth = 0 := by
  cases x with
  | non => simp only [RV] at r; simp only [sclPD, Option.some.injEq] at e; subst e r; exact ⟨.non, rfl, rfl⟩
  | bl b => simp only [RV] at r; simp only [sclPD, Option.some.injEq] at e; subst e r; exact ⟨.bl b, rfl, rfl⟩
  | int i => simp only [RV] at r; simp only [sclPD, Option.some.injEq] at e; subst e r; exact ⟨.int i, rfl, rfl⟩
  | str s =>
    simp only [RV] at r
    simp only [sclPD] at e
    split at e
    · rename_i hs
      cases e
      subst r
      exact ⟨.str s, hs, rfl⟩
    · cases e
  | _ => simp [sclPD] at e
theorem mapO_dp {k : Nat} (f : Val → Option PyData) (ih : ∀ x v d, RV N K F m H x v → f x = some d → Dp K H v d ∧ d.canLay0 = true ∧ d.depth ≤ k) : ∀ (xs : List Val) (vs : List V) (ds : List PyData), RVs N K F m H xs vs → mapO f xs = some ds →
    DpAll K H vs ds ∧ PyData.canLayAll0 ds = true ∧ PyData.depthAll ds ≤ k
  | [], vs, ds, r, e => by
    simp only [RVs] at r
    simp only [mapO, Option.some.injEq] at e
    subst r e
    exact ⟨.nil, rfl, Nat.zero_le _⟩
  | x :: xs, vs, ds, r, e => by
    simp only [RVs] at r
    obtain ⟨v, r', rfl, r1, r2⟩ := r
    simp only [mapO] at e
    cases h1 : f x with
    | none => rw [h1] at e; cases e
    | some d =>
      rw [h1] at e
      cases h2 : mapO f xs with
      | none => rw [h2] at e; cases e
      | some ds' =>
        rw [h2] at e
        cases e
        obtain ⟨a1, a2, a3⟩ := ih x v d r1 h1
        obtain ⟨b1, b2, b3⟩ := mapO_dp f ih xs r' ds' r2 h2
        refine ⟨.cons a1 b1, ?_, ?_⟩
        · show (d.canLay0 && PyData.canLayAll0 ds') = true
          rw [a2, b2]
          rfl
        · show max d.depth (PyData.depthAll ds') ≤ k
          omega
theorem toPD_dp (R : Rel N K F m H h) : ∀ (k : Nat) (x : Val) (v : V) (d : PyData), RV N K F m H x v → toPD h k x = some d → Dp K H v d ∧ d.canLay0 = true ∧ d.depth ≤ k
  | 0, x, v, d, r, e => by
    obtain ⟨a, b, c⟩ := sclPD_dp r (by simpa only [toPD] using e)
    exact ⟨a, b, by omega⟩
  | k + 1, x, v, d, r, e => by
    have lcase : ∀ xs, litems h x = some xs → (mapO (toPD h k) xs).map PyData.list = some d → Dp K H v d ∧ d.canLay0 = true ∧ d.depth ≤ k + 1 := fun xs hx e => by
      obtain ⟨a, vs, rfl, ha, ra⟩ := litems_at R r hx
      cases hm : mapO (toPD h k) xs with
      | none => rw [hm] at e; cases e
      | some ds =>
        rw [hm] at e
        cases e
        obtain ⟨b1, b2, b3⟩ := mapO_dp _ (toPD_dp R k) xs vs ds ra hm
        exact ⟨.lst (SqL.of ha) b1, b2, by show PyData.depthAll ds + 1 ≤ k + 1; omega⟩
    cases x with
    | lst xs => exact lcase xs rfl (by simpa only [toPD] using e)
    | cell n =>
      simp only [toPD] at e
      split at e
      · rename_i f xs hc
        exact lcase xs (by simp only [litems, hc]) e
      · cases e
    | tup xs =>
      simp only [toPD] at e
      simp only [RV] at r
      obtain ⟨a, vs, rfl, _, ha, ra⟩ := r
      cases hm : mapO (toPD h k) xs with
      | none => rw [hm] at e; cases e
      | some ds =>
        rw [hm] at e
        cases e
        obtain ⟨b1, b2, b3⟩ := mapO_dp _ (toPD_dp R k) xs vs ds ra hm
        exact ⟨.tup (SqT.of ha) b1, b2, by show PyData.depthAll ds + 1 ≤ k + 1; omega⟩
    | _ =>
      obtain ⟨a, b, c⟩ := sclPD_dp r (by simpa only [toPD] using e)
      exact ⟨a, b, by omega⟩
theorem shaped_of {d : PyData} (a : d.canLay0 = true) (b : d.depth ≤ 30) : SeqAt.shaped d = true := by
  unfold SeqAt.shaped
  rw [a, Bool.true_and]
  exact decide_eq_true (by omega)
theorem flat_V {x : Val} {v : V} (r : RV N K F m H x v) (f : flat x = true) : flatV v = true := by
  cases x <;> first | (simp only [RV] at r; subst r; rfl) | (simp [flat] at f)
theorem flats_V : ∀ {xs : List Val} {vs : List V}, RVs N K F m H xs vs → xs.all flat = true → vs.all flatV = true
  | [], vs, r, _ => by simp only [RVs] at r; rw [r]; rfl
  | x :: xs, vs, r, f => by
    simp only [RVs] at r
    obtain ⟨v, r', rfl, r1, r2⟩ := r
    rw [List.all_cons, Bool.and_eq_true] at f
    rw [List.all_cons, flat_V r1 f.1, flats_V r2 f.2]
    rfl
theorem eqF_V {x y : Val} {v w : V} (r : RV N K F m H x v) (q : RV N K F m H y w) (f : flat x = true) (g : flat y = true) : L2.eqV v w = eqF x y := by
  cases x <;> first | (simp [flat] at f; done) | skip
  all_goals (cases y <;> first | (simp [flat] at g; done) | skip)
  all_goals (simp only [RV] at r q; subst r q; rfl)
theorem inF_V {x : Val} {v : V} (r : RV N K F m H x v) (f : flat x = true) : ∀ {xs : List Val} {vs : List V}, RVs N K F m H xs vs → xs.all flat = true → inV v vs = xs.any fun z => eqF z x
  | [], vs, q, _ => by simp only [RVs] at q; rw [q]; rfl
  | y :: ys, vs, q, g => by
    simp only [RVs] at q
    obtain ⟨w, q', rfl, q1, q2⟩ := q
    rw [List.all_cons, Bool.and_eq_true] at g
    have e := inF_V r f q2 g.2
    unfold inV at e ⊢
    rw [List.any_cons, List.any_cons, e, eqF_V q1 r g.1 f]
end
section
variable {X : Cx} {N : Nm}
theorem memF_at {h : Hv} {x y : Val} {c : Bool} (e : memF h x y = some c) : ∃ ys, seqs h y = some ys ∧ (flat x = true ∧ ys.all flat = true) ∧ c = ys.any fun z => eqF z x := by
  unfold memF at e
  split at e
  · rename_i ys hy
    split at e
    · rename_i hf
      cases e
      rw [Bool.and_eq_true] at hf
      exact ⟨ys, hy, hf, rfl⟩
    · cases e
  · cases e
theorem op_cmp (op : Cop) (hu : X.A.units + 65 < cLine) : OpR X (compareOp (copOf op)) (rC2 N X.K op) := by
  intro pins s σ H v u vv uu Q I rv ru ⟨F, m, h, x, y, R, rx, ry, q⟩
  have q : PostG N X.K (RV N X.K) F m H (ofO ((cmpV h op x y).map Val.bl) h) Q E9 := q
  generalize hb : cmpV h op x y = o at q
  cases o with
  | none => exact False.elim q
  | some b =>
    have q' : Q (.bl b) H := PostG.ok (x := Val.bl b) q R (by simp only [RV])
    have EQ : ∀ c, eqD h x y = some c → ∃ d e, Dp X.K H v d ∧ Dp X.K H u e ∧ SeqAt.shaped d = true ∧ SeqAt.shaped e = true ∧ c = PyData.eqv d e := fun c hc => by
      unfold eqD at hc
      split at hc
      · rename_i d e hd he
        cases hc
        obtain ⟨a1, a2, a3⟩ := toPD_dp R 30 x v d rx hd
        obtain ⟨b1, b2, b3⟩ := toPD_dp R 30 y u e ry he
        exact ⟨d, e, a1, b1, shaped_of a2 a3, shaped_of b2 b3, rfl⟩
      · cases hc
    have MEM : ∀ c, memD h x y = some c → ∃ d ds, Dp X.K H v d ∧ Dp X.K H u (.list ds) ∧ SeqAt.shaped d = true ∧ SeqAt.shaped (.list ds) = true ∧ c = ds.any fun z => PyData.eqv z d := fun c hc => by
      unfold memD at hc
      split at hc
      · rename_i d ds hd he
        cases hc
        obtain ⟨a1, a2, a3⟩ := toPD_dp R 30 x v d rx hd
        obtain ⟨b1, b2, b3⟩ := toPD_dp R 30 y u _ ry he
        exact ⟨d, ds, a1, b1, shaped_of a2 a3, shaped_of b2 b3, rfl⟩
      · cases hc
    unfold cmpV at hb
    split at hb
    · obtain ⟨d, e, h1, h2, h3, h4, rfl⟩ := EQ b hb
      exact op_eqD (by omega) pins s σ H v u vv uu Q I rv ru ⟨d, e, h1, h2, h3, h4, q'⟩
    · cases hc : eqD h x y with
      | none => rw [hc] at hb; cases hb
      | some c =>
        rw [hc] at hb
        cases hb
        obtain ⟨d, e, h1, h2, h3, h4, rfl⟩ := EQ c hc
        exact op_neD (by omega) pins s σ H v u vv uu Q I rv ru ⟨d, e, h1, h2, h3, h4, q'⟩
    · cases hb
      simp only [RV] at rx ry
      exact op_lt pins s σ H v u vv uu Q I rv ru ⟨_, _, rx, ry, q'⟩
    · cases hb
      simp only [RV] at rx ry
      exact op_le pins s σ H v u vv uu Q I rv ru ⟨_, _, rx, ry, q'⟩
    · split at hb
      · rename_i ns ms h1 h2
        cases hb
        simp only [RV] at rx ry
        obtain ⟨a, vs, rfl, na, ha, ra⟩ := rx
        obtain ⟨b, ws, rfl, nb, hb', rb⟩ := ry
        rw [ra.ints h1] at ha
        rw [rb.ints h2] at hb'
        exact op_leT (by omega) pins s σ H _ _ vv uu Q I rv ru ⟨a, b, ns, ms, rfl, rfl, SqT.of ha, SqT.of hb', q'⟩
      · cases hb
    · cases hb
      simp only [RV] at rx ry
      exact op_gt pins s σ H v u vv uu Q I rv ru ⟨_, _, rx, ry, q'⟩
    · cases hb
      simp only [RV] at rx ry
      exact op_ge pins s σ H v u vv uu Q I rv ru ⟨_, _, rx, ry, q'⟩
    · cases hb
      simp only [RV] at ry
      refine op_isN pins s σ H v u vv uu Q I rv ru ⟨ry, ?_⟩
      cases x with
      | non => simp only [RV] at rx; rw [rx]; exact q'
      | lst xs => simp only [RV] at rx; obtain ⟨a, vs, rfl, _⟩ := rx; exact q'
      | tup xs => simp only [RV] at rx; obtain ⟨a, vs, rfl, _⟩ := rx; exact q'
      | frz xs => simp only [RV] at rx; obtain ⟨a, vs, rfl, _⟩ := rx; exact q'
      | ins c ks xs => simp only [RV] at rx; obtain ⟨a, dx, vs, rfl, _⟩ := rx; exact q'
      | dct0 => simp only [RV] at rx; obtain ⟨a, rfl, _⟩ := rx; exact q'
      | cell n => simp only [RV] at rx; obtain ⟨a, _, rfl⟩ := rx; exact q'
      | _ => simp only [RV] at rx; rw [rx]; exact q'
    · cases hb
      simp only [RV] at ry
      refine op_notN pins s σ H v u vv uu Q I rv ru ⟨ry, ?_⟩
      cases x with
      | non => simp only [RV] at rx; rw [rx]; exact q'
      | lst xs => simp only [RV] at rx; obtain ⟨a, vs, rfl, _⟩ := rx; exact q'
      | tup xs => simp only [RV] at rx; obtain ⟨a, vs, rfl, _⟩ := rx; exact q'
      | frz xs => simp only [RV] at rx; obtain ⟨a, vs, rfl, _⟩ := rx; exact q'
      | ins c ks xs => simp only [RV] at rx; obtain ⟨a, dx, vs, rfl, _⟩ := rx; exact q'
      | dct0 => simp only [RV] at rx; obtain ⟨a, rfl, _⟩ := rx; exact q'
      | cell n => simp only [RV] at rx; obtain ⟨a, _, rfl⟩ := rx; exact q'
      | _ => simp only [RV] at rx; rw [rx]; exact q'
    · split at hb
      · rename_i c hm
        cases hb
        obtain ⟨ys, hy, hf, rfl⟩ := memF_at hm
        obtain ⟨a, vs, rfl, ha, ra⟩ := seqs_at R ry hy
        refine op_in_seq pins s σ H _ _ vv uu Q I rv ru ⟨a, vs, rfl, ha, flat_V rx hf.1, flats_V ra hf.2, ?_⟩
        rw [inF_V rx hf.1 ra hf.2]
        exact q'
      · obtain ⟨d, ds, h1, h2, h3, h4, rfl⟩ := MEM b hb
        exact op_inD hu pins s σ H v u vv uu Q I rv ru ⟨d, ds, h1, h2, h3, h4, q'⟩
    · split at hb
      · rename_i c hm
        cases hb
        obtain ⟨ys, hy, hf, rfl⟩ := memF_at hm
        obtain ⟨a, vs, rfl, ha, ra⟩ := seqs_at R ry hy
        refine op_notIn_seq pins s σ H _ _ vv uu Q I rv ru ⟨a, vs, rfl, ha, flat_V rx hf.1, flats_V ra hf.2, ?_⟩
        rw [inF_V rx hf.1 ra hf.2]
        exact q'
      · simp only [Option.map_eq_some_iff] at hb
        obtain ⟨c, hb, rfl⟩ := hb
        obtain ⟨d, ds, h1, h2, h3, h4, rfl⟩ := MEM c hb
        exact op_notInD hu pins s σ H v u vv uu Q I rv ru ⟨d, ds, h1, h2, h3, h4, q'⟩
    · cases hb
end
end Pv

/-! Ev3: subscripts, slices, built-in functions and methods, isinstance, attributes, stores: by values. -/
set_option linter.all false
set_option Elab.async false
set_option maxRecDepth 100000
set_option maxHeartbeats 1000000
namespace Pv
open PySem PySem.Spec PyProof.Rows L2

/-- built-in types that isinstance asks for -/
def Tn.nm : Tn → String
  | .int => "int" | .bool => "bool" | .str => "str" | .list => "list" | .tuple => "tuple" | .dict => "dict" | .own _ => ""
def tyNames : List String := ["NoneType", "bool", "int", "str", "list", "tuple", "dict"]
def freeNames : List Str := ["len", "int", "list", "tuple", "sum", "abs", "min", "max", "str", "range", "enumerate", "zip", "isinstance", "bool", "dict"]
/-- what the written part says of the text's names -/
structure Tx (N : Nm) (K : PySem.W.Frag) (mg : Str → Option Value) : Prop where
  free : ∀ x ∈ freeNames, mg x = none
  cls : ∀ c, c < N.nC → Cls K (He.ga K (N.cls c))
  gl : ∀ c, c < N.nC → mg (N.cls c) = some (.ref (He.ga K (N.cls c)))
  noat : ∀ c f, c < N.nC → f < N.nF → NoAttr K (He.ga K (N.cls c)) (N.fld f)
  insT : ∀ c, c < N.nC → PySem.W.findIn K (.ref (He.ga K (N.cls c))) "__class__" = some (some (.builtin "object.__class__")) ∧ PySem.W.mroIn K (He.ga K (N.cls c)) (.type "object") = some true
  insG : PySem.W.specialIn K (.builtin "object.__class__") "__get__" = some (some (.builtin "getset_descriptor.__get__")) ∧ PySem.W.takesIn K (.builtin "object.__class__") = some true
  kit1 : ∀ c (t : Tn), c < N.nC → (∀ d, t ≠ .own d) → PySem.W.kitOne K (.ref (He.ga K (N.cls c))) (.type t.nm) = some false
  kit2 : ∀ c d, c < N.nC → d < N.nC → PySem.W.kitOne K (.ref (He.ga K (N.cls c))) (.ref (He.ga K (N.cls d))) = some (decide (c = d))
  kit3 : ∀ a ∈ tyNames, ∀ c, c < N.nC → PySem.W.kitOne K (.type a) (.ref (He.ga K (N.cls c))) = some false

def rVs (N : Nm) (K : PySem.W.Frag) (f : Hv → List Val → Option Val) : List V → Hp → VK → Prop := fun vs H Q => ∃ F m h xs, Rel N K F m H h ∧ RVs N K F m H xs vs ∧ PostG N K (RV N K) F m H (ofO (f h xs) h) Q E9
def rV1 (N : Nm) (K : PySem.W.Frag) (f : Hv → Val → Option Val) : V → Hp → VK → Prop := fun v H Q => ∃ F m h x, Rel N K F m H h ∧ RV N K F m H x v ∧ PostG N K (RV N K) F m H (ofO (f h x) h) Q E9
/-- a method's call: it may change cells -/
def rBm (N : Nm) (K : PySem.W.Frag) (b : Bm) : V → List V → Hp → VK → Prop := fun v vs H Q => ∃ F m h x xs, Rel N K F m H h ∧ RV N K F m H x v ∧ RVs N K F m H xs vs ∧ PostG N K (RV N K) F m H (bmV b x xs h) Q E9
section
variable {N : Nm} {K : PySem.W.Frag} {F : Fr} {m : List Addr} {H : Hp} {h : Hv}
theorem rvs1 {x : Val} {vs : List V} (r : RVs N K F m H [x] vs) : ∃ v, vs = [v] ∧ RV N K F m H x v := by
  simp only [RVs] at r
  obtain ⟨v, r', rfl, r1, rfl⟩ := r
  exact ⟨v, rfl, r1⟩
theorem rvs2 {x y : Val} {vs : List V} (r : RVs N K F m H [x, y] vs) : ∃ v w, vs = [v, w] ∧ RV N K F m H x v ∧ RV N K F m H y w := by
  simp only [RVs] at r
  obtain ⟨v, r', rfl, r1, w, r'', rfl, r2, rfl⟩ := r
  exact ⟨v, w, rfl, r1, r2⟩
end
/-! ### x[i] -/
section
variable {X : Cx} {N : Nm}
theorem ixN_at {α : Type} {xs : List α} {i : Int} {x : α} (e : atI xs i = some x) : ∃ j, ixN xs.length i = some j ∧ xs[j]? = some x := by
  unfold atI at e
  cases h : ixN xs.length i with
  | none => rw [h] at e; cases e
  | some j => rw [h] at e; exact ⟨j, rfl, e⟩
theorem ix_V : IxR X (rV2 N X.K atV) := by
  intro value slice pins s σ H v u vv uu Q I rv ru ⟨F, m, h, x, y, R, rx, ry, q⟩ hs
  generalize hb : atV h x y = o at q
  cases o with
  | none => exact False.elim q
  | some z =>
    unfold atV at hb
    split at hb
    · rename_i x i
      split at hb
      · rename_i xs hx
        simp only [RV] at ry
        obtain ⟨a, vs, rfl, ha, ra⟩ := seqs_at R rx hx
        obtain ⟨j, h1, h2⟩ := ixN_at hb
        obtain ⟨w, h3, h4⟩ := ra.get h2
        have h5 : atI vs i = some w := by unfold atI; rw [← ra.length, h1]; exact h3
        rcases ha with ha | ha
        · exact ix_list value slice pins s σ H _ _ vv uu Q I rv ru ⟨a, vs, i, w, rfl, ry, ha, h5, PostG.ok q R h4⟩ hs
        · exact ix_tup value slice pins s σ H _ _ vv uu Q I rv ru ⟨a, vs, i, w, rfl, ry, ha, h5, PostG.ok q R h4⟩ hs
      · cases hb
    · cases hb
/-! ### x[lo:hi] -/
def rSlV (N : Nm) (K : PySem.W.Frag) : V → Option Int → Option Int → Hp → VK → Prop := fun v lo hi H Q => ∃ F m h x, Rel N K F m H h ∧ RV N K F m H x v ∧ PostG N K (RV N K) F m H (ofO (slV h x lo hi) h) Q E9
theorem cut_whole {α : Type} {xs : List α} {lo hi : Option Int} (h : HT.sIx xs.length 0 lo = 0 ∧ HT.sIx xs.length xs.length hi = xs.length) : cutL xs lo hi = xs := by
  unfold cutL
  rw [h.1, h.2, List.drop_zero, Nat.sub_zero, List.take_length]
theorem sl_V : SlR X (rSlV N X.K) := by
  intro pins s σ H v vv vl vu lo hi sl Q I rv hsl pl pu ⟨F, m, h, x, R, rx, q⟩
  have LST : ∀ xs, items h x = some xs → PostG N X.K (RV N X.K) F m H (.ok (.lst (cutL xs lo hi)) h) Q E9 → ∃ T id, typeLookup (.type T) "__getitem__" = pure (some (.builtin id)) ∧ s.TypeIs vv T ∧ wpAny (model X.prog X.w) X.A (getItem vv (.ref sl)) (EP X pins σ Q) X.xe s := fun xs hx q => by
    obtain ⟨a, vs, rfl, ha, ra⟩ := items_at R rx hx
    exact sl_list pins s σ H _ vv vl vu lo hi sl Q I rv hsl pl pu ⟨a, vs, rfl, ha, ans_L R q (ra.cut lo hi)⟩
  unfold slV at q
  split at q
  · rename_i xs
    simp only [RV] at rx
    obtain ⟨a, vs, rfl, na, ha, ra⟩ := rx
    refine sl_tupA pins s σ H _ vv vl vu lo hi sl Q I rv hsl pl pu ⟨a, vs, rfl, SqT.of ha, fun e => ?_, fun _ => ans_T R q (ra.cut lo hi)⟩
    refine PostG.ok q R ?_
    rw [← ra.length] at e
    rw [cut_whole e]
    simp only [RV]
    exact ⟨a, vs, rfl, na, ha, ra⟩
  · split at q
    · rename_i xs hx
      exact LST xs hx q
    · exact False.elim q
/-! ### built-in functions -/
def bltOf : Blt → Value
  | .len => .builtin "len" | .int => .type "int" | .list => .type "list" | .tuple => .type "tuple" | .sum => .builtin "sum" | .abs => .builtin "abs" | .min2 => .builtin "min" | .max2 => .builtin "max" | .str => .type "str"
theorem call_blt (b : Blt) (hc : X.calm = true) : CallR X (bltOf b) (rVs N X.K (fun h xs => bltV h b xs)) := by
  intro pins s σ H vs us Q I rvs ⟨F, m, h, xs, R, rx, q⟩
  have q : PostG N X.K (RV N X.K) F m H (ofO (bltV h b xs) h) Q E9 := q
  generalize hb : bltV h b xs = o at q
  cases o with
  | none => exact False.elim q
  | some z =>
    have q : PostG N X.K (RV N X.K) F m H (.ok z h) Q E9 := q
    unfold bltV at hb
    split at hb
    · obtain ⟨v, rfl, r⟩ := rvs1 rx
      unfold lenV at hb
      split at hb
      · split at hb
        · rename_i hl
          cases hb
          simp only [RV] at r
          subst r
          exact call_len_str pins s σ H _ us Q I rvs ⟨_, rfl, sizeLim hl, q.ok R (by simp only [RV])⟩
        · cases hb
      · split at hb
        · rename_i ys hy
          cases hb
          obtain ⟨a, ws, rfl, ha, ra⟩ := seqs_at R r hy
          rw [ra.length] at q
          exact call_len_seq pins s σ H _ us Q I rvs ⟨a, ws, rfl, ha, q.ok R (by simp only [RV])⟩
        · cases hb
    · cases hb
      obtain ⟨v, rfl, r⟩ := rvs1 rx
      simp only [RV] at r
      subst r
      exact call_int1 pins s σ H _ us Q I rvs (.inl ⟨_, rfl, q.ok R (by simp only [RV])⟩)
    · cases hb
      obtain ⟨v, rfl, r⟩ := rvs1 rx
      simp only [RV] at r
      subst r
      exact call_int1 pins s σ H _ us Q I rvs (.inr ⟨_, rfl, q.ok R (by simp only [RV])⟩)
    · split at hb
      · rename_i ys hy
        cases hb
        obtain ⟨v, rfl, r⟩ := rvs1 rx
        obtain ⟨a, ws, rfl, ha, ra⟩ := seqs_at R r hy
        exact call_list_of pins s σ H _ us Q I rvs ⟨a, ws, rfl, ha, ans_L R q ra⟩
      · cases hb
    · cases hb
      obtain ⟨v, rfl, r⟩ := rvs1 rx
      have r0 := r
      simp only [RV] at r
      obtain ⟨a, ws, rfl, na, ha, ra⟩ := r
      exact call_tuple_of pins s σ H _ us Q I rvs ⟨a, ws, rfl, .inr ⟨SqT.of ha, q.ok R r0⟩⟩
    · split at hb
      · rename_i ys hy
        cases hb
        obtain ⟨v, rfl, r⟩ := rvs1 rx
        obtain ⟨a, ws, rfl, ha, ra⟩ := items_at R r hy
        exact call_tuple_of pins s σ H _ us Q I rvs ⟨a, ws, rfl, .inl ⟨ha, ans_T R q ra⟩⟩
      · cases hb
    · split at hb
      · rename_i ys hy
        split at hb
        · rename_i ns hn
          cases hb
          obtain ⟨v, rfl, r⟩ := rvs1 rx
          obtain ⟨a, ws, rfl, ha, ra⟩ := items_at R r hy
          rw [ra.ints hn] at ha
          exact cr_sum hc pins s σ H _ us Q I rvs ⟨a, ns, rfl, ha, q.ok R (by simp only [RV])⟩
        · cases hb
      · cases hb
    · cases hb
      obtain ⟨v, rfl, r⟩ := rvs1 rx
      simp only [RV] at r
      subst r
      exact call_abs pins s σ H _ us Q I rvs ⟨_, rfl, q.ok R (by simp only [RV])⟩
    · cases hb
      obtain ⟨v, w, rfl, r1, r2⟩ := rvs2 rx
      simp only [RV] at r1 r2
      subst r1 r2
      exact call_min2 hc pins s σ H _ us Q I rvs ⟨_, _, rfl, q.ok R (by simp only [RV])⟩
    · cases hb
      obtain ⟨v, w, rfl, r1, r2⟩ := rvs2 rx
      simp only [RV] at r1 r2
      subst r1 r2
      exact call_max2 hc pins s σ H _ us Q I rvs ⟨_, _, rfl, q.ok R (by simp only [RV])⟩
    · split at hb
      · rename_i hl
        cases hb
        obtain ⟨v, rfl, r⟩ := rvs1 rx
        simp only [RV] at r
        subst r
        exact call_str_int pins s σ H _ us Q I rvs ⟨_, rfl, hl, q.ok R (by simp only [RV])⟩
      · cases hb
    · cases hb
      obtain ⟨v, rfl, r⟩ := rvs1 rx
      simp only [RV] at r
      subst r
      exact SkE.call_str_str pins s σ H _ us Q I rvs ⟨_, rfl, q.ok R (by simp only [RV])⟩
    · cases hb

/-! ### methods of built-in types -/
def bmOf : Bm → String × String
  | .append => ("list", "list.append") | .popAt => ("list", "list.pop") | .pop => ("list", "list.pop") | .reverse => ("list", "list.reverse") | .clear => ("list", "list.clear") | .extend => ("list", "list.extend")
  | .join => ("str", "str.join") | .split => ("str", "str.split")
theorem cell_at {F : Fr} {m : List Addr} {H : Hp} {h : Hv} {N : Nm} {K : PySem.W.Frag} (R : Rel N K F m H h) {n : Nat} {v : V} {f : Bool} {xs : List Val} (r : RV N K F m H (.cell n) v) (e : h[n]? = some (.lst f xs)) :
    ∃ a vs, v = .ref a ∧ m[n]? = some a ∧ H a = some (.lst vs) ∧ RVs N K F m H xs vs := by
  simp only [RV] at r
  obtain ⟨a, e1, e2⟩ := r
  obtain ⟨vs, h1, h2⟩ := R.cell n _ a e e1
  exact ⟨a, vs, e2, e1, h1, h2⟩
theorem bm_ok (b : Bm) : MtR X (bmOf b).2 (rBm N X.K b) := by
  intro pins s σ H v vs vv us Q I rv rvs ⟨F, m, h, x, xs, R, rx, rxs, q⟩
  have SET : ∀ (n : Nat) (a : Addr) (f : Bool) (zs : List Val) (ws : List V), m[n]? = some a → RVs N X.K F m H zs ws → ∀ (z : Val) (w : V), RV N X.K F m H z w → PostG N X.K (RV N X.K) F m H (.ok z (h.set n (.lst f zs))) Q E9 → Q w (upd H a (.lst ws)) := fun n a f zs ws ha rz z w rw_ q =>
    q F m _ _ (stp_set R ha) (rel_set R ha ⟨ws, upd_same, RVs.mono (stp_set R ha) R.mem zs ws rz⟩) (RV.mono (stp_set R ha) R.mem z w rw_)
  have NON : RV N X.K F m H .non .non := by simp only [RV]
  unfold bmV at q
  cases x with
  | str z =>
    dsimp only at q
    simp only [RV] at rx
    subst rx
    split at q
    · split at q
      · rename_i ys hy
        split at q
        · rename_i zs hz
          split at q
          · rename_i hl
            obtain ⟨w, rfl, r⟩ := rvs1 rxs
            obtain ⟨a, ws, rfl, ha, ra⟩ := seqs_at R r hy
            rw [ra.strs hz] at ha
            exact mt_join pins s σ H _ _ vv us Q I rv rvs ⟨_, a, zs, rfl, rfl, ha, Nat.le_trans hl (by decide), q.ok R (by simp only [RV])⟩
          · exact False.elim q
        · exact False.elim q
      · exact False.elim q
    · split at q
      · rename_i hl
        obtain ⟨w, rfl, r⟩ := rvs1 rxs
        simp only [RV] at r
        subst r
        refine mt_split pins s σ H _ _ vv us Q I rv rvs ⟨_, _, rfl, rfl, hl.1, sizeLim hl.2, fun p hp => ?_⟩
        exact ans_L R q (RVs.of_strs _) p hp
      · exact False.elim q
    · exact False.elim q
  | cell n =>
    dsimp only at q
    cases hc : h[n]? with
    | none => rw [hc] at q; exact False.elim q
    | some cc =>
      rw [hc] at q
      cases cc with
      | ins => exact False.elim q
      | lst f zs =>
        dsimp only at q
        obtain ⟨a, ws, rfl, hm, ha, ra⟩ := cell_at R rx hc
        unfold bmL at q
        split at q
        · split at q
          · rename_i hl
            obtain ⟨w, rfl, r⟩ := rvs1 rxs
            rw [ra.length] at hl
            exact mt_append pins s σ H _ _ vv us Q I rv rvs ⟨a, ws, w, rfl, rfl, ha, sizeLt hl, SET n a f _ _ hm (ra.append (.cons r .nil)) _ _ NON q⟩
          · exact False.elim q
        · split at q
          · rename_i y hy
            simp only [RVs] at rxs
            subst rxs
            obtain ⟨w, h1, h2⟩ := ra.get hy
            rw [ra.length] at h1
            exact mt_pop pins s σ H _ _ vv us Q I rv rvs ⟨a, ws, w, rfl, rfl, ha, h1, SET n a f _ _ hm ra.dropLast _ _ h2 q⟩
          · exact False.elim q
        · split at q
          · rename_i k hk
            split at q
            · rename_i y hy
              obtain ⟨w, rfl, r⟩ := rvs1 rxs
              simp only [RV] at r
              subst r
              obtain ⟨w, h1, h2⟩ := ra.get hy
              obtain ⟨h3, h4, h5, h6⟩ := ixN_seq hk
              have hz : zs.length ≤ sizeLine := by rw [ra.length]; exact (I.lstM ha).1
              rw [sizeLine_eq] at hz
              rw [ra.length] at h3
              exact mt_popAt pins s σ H _ _ vv us Q I rv rvs ⟨a, ws, _, k, w, rfl, rfl, ha, by omega, by omega, h3, h1, SET n a f _ _ hm (ra.erase k) _ _ h2 q⟩
            · exact False.elim q
          · exact False.elim q
        · simp only [RVs] at rxs
          subst rxs
          exact mt_reverse pins s σ H _ _ vv us Q I rv rvs ⟨a, ws, rfl, rfl, ha, SET n a f _ _ hm ra.reverse _ _ NON q⟩
        · simp only [RVs] at rxs
          subst rxs
          exact mt_clear pins s σ H _ _ vv us Q I rv rvs ⟨a, ws, rfl, rfl, ha, SET n a f _ _ hm .nil _ _ NON q⟩
        · split at q
          · rename_i ys hy
            split at q
            · rename_i hl
              obtain ⟨w, rfl, r⟩ := rvs1 rxs
              obtain ⟨b, us', rfl, hb, rb⟩ := litems_at R r hy
              rw [ra.length, rb.length] at hl
              exact mt_extend pins s σ H _ _ vv us Q I rv rvs ⟨a, b, ws, us', rfl, rfl, ha, hb, sizeLim hl, SET n a f _ _ hm (ra.append rb) _ _ NON q⟩
            · exact False.elim q
          · exact False.elim q
        · exact False.elim q
  | _ => exact False.elim q
/-- the receiver is of that type -/
theorem bm_ty {F : Fr} {m : List Addr} {H : Hp} {h : Hv} {K : PySem.W.Frag} {b : Bm} {x : Val} {v : V} (R : Rel N K F m H h) (r : RV N K F m H x v) (q : bmTy b h x = true) : tyV K (bmOf b).1 v H := by
  unfold bmTy at q
  cases x with
  | str z =>
    simp only [RV] at r
    subst r
    cases b <;> first | rfl | cases q
  | cell n =>
    dsimp only at q
    cases hc : h[n]? with
    | none => rw [hc] at q; cases q
    | some cc =>
      rw [hc] at q
      cases cc with
      | ins => cases q
      | lst f zs =>
        dsimp only at q
        obtain ⟨a, ws, rfl, hm, ha, ra⟩ := cell_at R r hc
        refine .inl ⟨?_, ws, SqL.of ha⟩
        cases b <;> first | rfl | cases q
  | _ => cases q
/-! ### isinstance -/
def tnV (N : Nm) (K : PySem.W.Frag) : Tn → V
  | .own c => .ref (He.ga K (N.cls c))
  | t => .ty t.nm
def tnOk (N : Nm) : Tn → Bool
  | .own c => decide (c < N.nC)
  | _ => true
theorem kit_b (a : String) (t : Tn) (b : Bool) (ha : a ∈ tyNames) (ht : ∀ d, t ≠ .own d) (hb : b = decide (a = t.nm ∨ (a = "bool" ∧ t = .int))) : kitB a t.nm = some b := by
  subst hb
  simp only [tyNames, List.mem_cons, List.not_mem_nil, or_false] at ha
  cases t with
  | own d => exact absurd rfl (ht d)
  | _ => rcases ha with rfl | rfl | rfl | rfl | rfl | rfl | rfl <;> decide +kernel
theorem isi_ok {mg : Str → Option Value} (T : Tx N X.K mg) (t : Tn) (ht : tnOk N t = true) {F : Fr} {m : List Addr} {H : Hp} {h : Hv} {x : Val} {v : V} {Q : VK} (R : Rel N X.K F m H h) (r : RV N X.K F m H x v)
    (q : PostG N X.K (RV N X.K) F m H (ofO ((isiV h x t).map Val.bl) h) Q E9) : rIsi X.K [v, tnV N X.K t] H Q := by
  have BASE : ∀ (a : String) (b : Bool), a ∈ tyNames → TyX X.K H v (.type a) → isiV h x t = some b → ((∀ d, t ≠ .own d) → b = decide (a = t.nm ∨ (a = "bool" ∧ t = .int))) → (∀ d, t = .own d → b = false) → rIsi X.K [v, tnV N X.K t] H Q := fun a b ha ty e h1 h2 => by
    rw [e] at q
    have q' : Q (.bl b) H := PostG.ok (x := Val.bl b) q R (by simp only [RV])
    cases t with
    | own d =>
      have e := h2 d rfl
      subst e
      exact ⟨v, _, _, _, false, rfl, .own _, ty, T.kit3 a ha d (of_decide_eq_true ht), q'⟩
    | _ => exact ⟨v, _, _, _, b, rfl, .ty _, ty, kit_ty (kit_b a _ b ha (fun d z => by cases z) (h1 (fun d z => by cases z))), q'⟩
  have INS : ∀ (a c dx : _) (fs : List (Str × V)), v = .ref a → c < N.nC → H a = some (.ins (He.ga X.K (N.cls c)) dx fs) → isiV h x t = some (decide (t = .own c)) → rIsi X.K [v, tnV N X.K t] H Q := fun a c dx fs ev hc ha e => by
    rw [e] at q
    have q' : Q (.bl (decide (t = .own c))) H := PostG.ok (x := Val.bl (decide (t = .own c))) q R (by simp only [RV])
    subst ev
    have ty : TyX X.K H (.ref a) (.ref (He.ga X.K (N.cls c))) := .base (.ins ha (T.cls c hc) (T.insT c hc).1 T.insG.1 T.insG.2 (T.insT c hc).2)
    cases t with
    | own d =>
      refine ⟨.ref a, _, _, _, _, rfl, .own _, ty, T.kit2 c d hc (of_decide_eq_true ht), ?_⟩
      have e2 : decide (c = d) = decide (Tn.own d = Tn.own c) := by
        by_cases z : c = d
        · subst z; simp
        · rw [decide_eq_false z, decide_eq_false (fun y => z (by cases y; rfl))]
      rw [e2]
      exact q'
    | _ =>
      refine ⟨.ref a, _, _, _, false, rfl, .ty _, ty, T.kit1 c _ hc (fun d z => by cases z), ?_⟩
      simpa using q'
  cases x with
  | non => simp only [RV] at r; subst r; exact BASE "NoneType" false (by decide) (.base .non) rfl (fun hd => by cases t <;> first | exact absurd rfl (hd _) | decide) (fun d hd => rfl)
  | bl b => simp only [RV] at r; subst r; exact BASE "bool" _ (by decide) (.base (.bl b)) rfl (fun hd => by cases t <;> first | exact absurd rfl (hd _) | decide) (fun d hd => by subst hd; rfl)
  | int i => simp only [RV] at r; subst r; exact BASE "int" _ (by decide) (.base (.int i)) rfl (fun hd => by cases t <;> first | exact absurd rfl (hd _) | decide) (fun d hd => by subst hd; rfl)
  | str z => simp only [RV] at r; subst r; exact BASE "str" _ (by decide) (.base (.str z)) rfl (fun hd => by cases t <;> first | exact absurd rfl (hd _) | decide) (fun d hd => by subst hd; rfl)
  | lst xs => simp only [RV] at r; obtain ⟨a, vs, rfl, na, ha, _⟩ := r; exact BASE "list" _ (by decide) (.base (.lst ha)) rfl (fun hd => by cases t <;> first | exact absurd rfl (hd _) | decide) (fun d hd => by subst hd; rfl)
  | tup xs => simp only [RV] at r; obtain ⟨a, vs, rfl, na, ha, _⟩ := r; exact BASE "tuple" _ (by decide) (.base (.tup ha)) rfl (fun hd => by cases t <;> first | exact absurd rfl (hd _) | decide) (fun d hd => by subst hd; rfl)
  | dct0 => simp only [RV] at r; obtain ⟨a, rfl, na, ha⟩ := r; exact BASE "dict" _ (by decide) (.base (.dT ha)) rfl (fun hd => by cases t <;> first | exact absurd rfl (hd _) | decide) (fun d hd => by subst hd; rfl)
  | frz xs =>
    simp only [RV] at r
    obtain ⟨a, vs, rfl, ha, _⟩ := r
    have ty : TyX X.K H (.ref a) (.type "list") := by
      rcases ha with ⟨_, o, ha⟩ | ⟨o, its, n, l, c, _⟩
      · exact .base (.frz ha)
      · exact .kList l c
    exact BASE "list" _ (by decide) ty rfl (fun hd => by cases t <;> first | exact absurd rfl (hd _) | decide) (fun d hd => by subst hd; rfl)
  | ins c ks xs =>
    simp only [RV] at r
    obtain ⟨a, dx, vs, rfl, na, ha, _, _, hc⟩ := r
    exact INS a c dx _ rfl hc ha rfl
  | cell n =>
    simp only [RV] at r
    obtain ⟨a, e1, e2⟩ := r
    unfold isiV at BASE INS
    dsimp only at BASE INS
    have hl : n < h.length := by rw [← R.len]; exact (List.getElem?_eq_some_iff.mp e1).1
    obtain ⟨c, hc⟩ : ∃ c, h[n]? = some c := ⟨_, List.getElem?_eq_getElem hl⟩
    rw [hc] at BASE INS
    cases c with
    | lst f xs =>
      obtain ⟨vs, h1, h2⟩ := R.cell n _ a hc e1
      subst e2
      exact BASE "list" _ (by decide) (.base (.lst h1)) rfl (fun hd => by cases t <;> first | exact absurd rfl (hd _) | decide) (fun d hd => by subst hd; rfl)
    | ins f c ks xs =>
      obtain ⟨dx, vs, h1, h2, h3, h4⟩ := R.cell n _ a hc e1
      exact INS a c dx _ e2 h4 h1 rfl
/-! ### x.f -/
theorem look_V {F : Fr} {m : List Addr} {H : Hp} {K : PySem.W.Frag} {f : Nat} : ∀ {ks : List Nat} {xs : List Val} {vs : List V} {x : Val}, RVs N K F m H xs vs → lookK ks xs f = some x → ∃ v, (zipF N ks vs).lookup (N.fld f) = some v ∧ RV N K F m H x v
  | [], _, _, _, _, e => by simp [lookK] at e
  | k :: ks, [], _, _, _, e => by simp [lookK] at e
  | k :: ks, y :: ys, vs, x, r, e => by
    simp only [RVs] at r
    obtain ⟨v, r', rfl, r1, r2⟩ := r
    simp only [lookK] at e
    show ∃ w, ((N.fld k, v) :: (ks.map N.fld).zip r').lookup (N.fld f) = some w ∧ _
    split at e
    · rename_i hk
      subst hk
      cases e
      exact ⟨v, by rw [List.lookup_cons, beq_self_eq_true], r1⟩
    · rename_i hk
      obtain ⟨w, h1, h2⟩ := look_V r2 e
      have : (N.fld f == N.fld k) = false := beq_eq_false_iff_ne.mpr fun z => hk (N.finj _ _ z.symm)
      exact ⟨w, by rw [List.lookup_cons, this]; exact h1, h2⟩
/-- what tFld asks -/
theorem fld_ok {mg : Str → Option Value} (T : Tx N X.K mg) {F : Fr} {m : List Addr} {H : Hp} {h : Hv} {x z : Val} {v : V} {f : Nat} (hf : f < N.nF) (R : Rel N X.K F m H h) (r : RV N X.K F m H x v) (e : fldV h x f = some z) :
    ∃ a C dx fs w, v = .ref a ∧ H a = some (.ins C dx fs) ∧ Cls X.K C ∧ NoAttr X.K C (N.fld f) ∧ fs.lookup (N.fld f) = some w ∧ RV N X.K F m H z w := by
  unfold fldV at e
  split at e
  · rename_i c ks xs
    simp only [RV] at r
    obtain ⟨a, dx, vs, rfl, na, ha, rv, _, hc⟩ := r
    obtain ⟨w, h1, h2⟩ := look_V rv e
    exact ⟨a, _, dx, _, w, rfl, ha, T.cls c hc, T.noat c f hc hf, h1, h2⟩
  · rename_i n
    split at e
    · rename_i g c ks xs hcell
      simp only [RV] at r
      obtain ⟨a, e1, e2⟩ := r
      obtain ⟨dx, vs, h1, h2, h3, h4⟩ := R.cell n _ a hcell e1
      obtain ⟨w, h5, h6⟩ := look_V h2 e
      exact ⟨a, _, dx, _, w, e2, h1, T.cls c h4, T.noat c f h4 hf, h5, h6⟩
    · cases e
  · cases e
/-! ### stores -/
def rSetV (N : Nm) (K : PySem.W.Frag) : TSet := fun o i v H Q => ∃ F m h x k y, Rel N K F m H h ∧ RV N K F m H x o ∧ RV N K F m H k i ∧ RV N K F m H y v ∧ ∃ h', setV h x k y = some h' ∧ ∀ F' m' H', Stp F m H F' m' H' → Rel N K F' m' H' h' → Q H'
end
end Pv

/-! Ev4: a call in a heap of its own. -/
set_option linter.all false
set_option Elab.async false
set_option maxRecDepth 100000
set_option maxHeartbeats 1000000
namespace Pv
open PySem PySem.Spec PyProof.Rows L2
section
variable {N : Nm} {K : PySem.W.Frag} {F F' F2 : Fr} {m m' m2 : List Addr} {H H' : Hp} {h h' : Hv}
/-! ### data lean on no cell -/
mutual
theorem rv_data (hF : ∀ a, F2 a → F a) : ∀ (x : Val) (v : V), isData x = true → RV N K F m H x v → RV N K F2 m2 H x v
  | .non, _, _, e => by simpa only [RV] using e
  | .bl _, _, _, e => by simpa only [RV] using e
  | .int _, _, _, e => by simpa only [RV] using e
  | .str _, _, _, e => by simpa only [RV] using e
  | .lst xs, v, d, e => by
    simp only [RV] at e ⊢
    simp only [isData] at d
    obtain ⟨a, vs, e1, e2, e3, e4⟩ := e
    exact ⟨a, vs, e1, fun z => e2 (hF a z), e3, rvs_data hF xs vs d e4⟩
  | .tup xs, v, d, e => by
    simp only [RV] at e ⊢
    simp only [isData] at d
    obtain ⟨a, vs, e1, e2, e3, e4⟩ := e
    exact ⟨a, vs, e1, fun z => e2 (hF a z), e3, rvs_data hF xs vs d e4⟩
  | .ins c ks xs, v, d, e => by
    simp only [RV] at e ⊢
    simp only [isData] at d
    obtain ⟨a, dx, vs, e1, e2, e3, e4, e5⟩ := e
    exact ⟨a, dx, vs, e1, fun z => e2 (hF a z), e3, rvs_data hF xs vs d e4, e5⟩
  | .dct0, v, _, e => by
    simp only [RV] at e ⊢
    obtain ⟨a, e1, e2, e3⟩ := e
    exact ⟨a, e1, fun z => e2 (hF a z), e3⟩
  | .frz xs, v, d, e => by
    simp only [RV] at e ⊢
    simp only [isData] at d
    obtain ⟨a, vs, e1, e2, e4⟩ := e
    refine ⟨a, vs, e1, ?_, rvs_data hF xs vs d e4⟩
    rcases e2 with ⟨e2, o, e3⟩ | e2
    · exact .inl ⟨fun z => e2 (hF a z), o, e3⟩
    · exact .inr e2
  | .cell n, _, d, _ => by simp [isData] at d
theorem rvs_data (hF : ∀ a, F2 a → F a) : ∀ (xs : List Val) (vs : List V), allData xs = true → RVs N K F m H xs vs → RVs N K F2 m2 H xs vs
  | [], _, _, e => by simpa only [RVs] using e
  | x :: xs, vs, d, e => by
    simp only [RVs] at e ⊢
    simp only [allData, Bool.and_eq_true] at d
    obtain ⟨v, r, e1, e2, e3⟩ := e
    exact ⟨v, r, e1, rv_data hF x v d.1 e2, rvs_data hF xs r d.2 e3⟩
end
/-! ### into the callee -/
/-- the addresses of the cells that are handed in -/
def subM (m : List Addr) (ids : List Nat) : List Addr := ids.map fun n => m.getD n 0
theorem subM_at {ids : List Nat} (hin : ∀ n ∈ ids, n < m.length) {j n : Nat} (e : ids[j]? = some n) : ∃ a, (subM m ids)[j]? = some a ∧ m[n]? = some a := by
  have hn := hin n (List.mem_of_getElem? e)
  refine ⟨m[n], ?_, List.getElem?_eq_getElem hn⟩
  unfold subM
  rw [List.getElem?_map, e]
  show some (m.getD n 0) = _
  rw [List.getD_eq_getElem?_getD, List.getElem?_eq_getElem hn]
  rfl
theorem subM_mem {ids : List Nat} (hin : ∀ n ∈ ids, n < m.length) {a : Addr} (e : a ∈ subM m ids) : ∃ n ∈ ids, m[n]? = some a := by
  obtain ⟨j, hj⟩ := List.mem_iff_getElem?.mp e
  cases q : ids[j]? with
  | none => unfold subM at hj; rw [List.getElem?_map, q] at hj; cases hj
  | some n =>
    obtain ⟨b, h1, h2⟩ := subM_at hin q
    rw [h1] at hj
    cases hj
    exact ⟨n, List.mem_of_getElem? q, h2⟩
theorem subM_nd (nd : m.Nodup) : ∀ {ids : List Nat}, (∀ n ∈ ids, n < m.length) → ids.Nodup → (subM m ids).Nodup
  | [], _, _ => List.nodup_nil
  | i :: ids, hin, hd => by
    rw [List.nodup_cons] at hd
    show (m.getD i 0 :: subM m ids).Nodup
    rw [List.nodup_cons]
    refine ⟨fun z => ?_, subM_nd nd (fun n hn => hin n (List.mem_cons_of_mem _ hn)) hd.2⟩
    obtain ⟨n, h1, h2⟩ := subM_mem (fun n hn => hin n (List.mem_cons_of_mem _ hn)) z
    have hi := hin i (List.mem_cons_self ..)
    rw [List.getD_eq_getElem?_getD, List.getElem?_eq_getElem hi] at h2
    have := nd_get nd h2 (List.getElem?_eq_getElem hi)
    subst this
    exact hd.1 h1
theorem mapO_len {α β : Type} {f : α → Option β} : ∀ {xs : List α} {ys : List β}, mapO f xs = some ys → xs.length = ys.length
  | [], ys, e => by simp only [mapO, Option.some.injEq] at e; rw [← e]; rfl
  | x :: xs, ys, e => by
    simp only [mapO] at e
    cases h1 : f x with
    | none => rw [h1] at e; cases e
    | some y =>
      rw [h1] at e
      cases h2 : mapO f xs with
      | none => rw [h2] at e; cases e
      | some ys' => rw [h2] at e; cases e; rw [List.length_cons, List.length_cons, mapO_len h2]
theorem mapO_at {α β : Type} {f : α → Option β} : ∀ {xs : List α} {ys : List β} {j : Nat} {y : β}, mapO f xs = some ys → ys[j]? = some y → ∃ x, xs[j]? = some x ∧ f x = some y
  | [], ys, j, y, e, q => by simp only [mapO, Option.some.injEq] at e; subst e; simp at q
  | x :: xs, ys, j, y, e, q => by
    simp only [mapO] at e
    cases h1 : f x with
    | none => rw [h1] at e; cases e
    | some z =>
      rw [h1] at e
      cases h2 : mapO f xs with
      | none => rw [h2] at e; cases e
      | some ys' =>
        rw [h2] at e
        cases e
        cases j with
        | zero => simp at q; subst q; exact ⟨x, rfl, h1⟩
        | succ j =>
          rw [List.getElem?_cons_succ] at q
          obtain ⟨x', h3, h4⟩ := mapO_at h2 q
          exact ⟨x', by rw [List.getElem?_cons_succ]; exact h3, h4⟩
theorem posOf_at {n : Nat} : ∀ {l : List Nat} {i q : Nat}, posOf n l i = some q → ∃ j, q = i + j ∧ l[j]? = some n
  | [], _, _, e => by simp [posOf] at e
  | a :: l, i, q, e => by
    simp only [posOf] at e
    split at e
    · rename_i hn
      cases e
      subst hn
      exact ⟨0, rfl, rfl⟩
    · obtain ⟨j, h1, h2⟩ := posOf_at e
      exact ⟨j + 1, by omega, by rw [List.getElem?_cons_succ]; exact h2⟩
mutual
theorem rn_ok {f : Nat → Option Nat} (hf : ∀ n q a, f n = some q → m[n]? = some a → m2[q]? = some a) : ∀ (x : Val) (v : V) (y : Val), rnV f x = some y → RV N K F m H x v → RV N K F m2 H y v
  | .non, v, y, q, e => by simp only [rnV, Option.some.injEq] at q; subst q; simpa only [RV] using e
  | .bl _, v, y, q, e => by simp only [rnV, Option.some.injEq] at q; subst q; simpa only [RV] using e
  | .int _, v, y, q, e => by simp only [rnV, Option.some.injEq] at q; subst q; simpa only [RV] using e
  | .str _, v, y, q, e => by simp only [rnV, Option.some.injEq] at q; subst q; simpa only [RV] using e
  | .dct0, v, y, q, e => by simp only [rnV, Option.some.injEq] at q; subst q; simpa only [RV] using e
  | .lst xs, v, y, q, e => by
    simp only [rnV, Option.map_eq_some_iff] at q
    obtain ⟨ys, q, rfl⟩ := q
    simp only [RV] at e ⊢
    obtain ⟨a, vs, e1, e2, e3, e4⟩ := e
    exact ⟨a, vs, e1, e2, e3, rns_ok hf xs vs ys q e4⟩
  | .tup xs, v, y, q, e => by
    simp only [rnV, Option.map_eq_some_iff] at q
    obtain ⟨ys, q, rfl⟩ := q
    simp only [RV] at e ⊢
    obtain ⟨a, vs, e1, e2, e3, e4⟩ := e
    exact ⟨a, vs, e1, e2, e3, rns_ok hf xs vs ys q e4⟩
  | .ins c ks xs, v, y, q, e => by
    simp only [rnV, Option.map_eq_some_iff] at q
    obtain ⟨ys, q, rfl⟩ := q
    simp only [RV] at e ⊢
    obtain ⟨a, dx, vs, e1, e2, e3, e4, e5, e6⟩ := e
    have r := rns_ok hf xs vs ys q e4
    exact ⟨a, dx, vs, e1, e2, e3, r, by rw [e5, e4.length, r.length], e6⟩
  | .frz xs, v, y, q, e => by
    simp only [rnV, Option.map_eq_some_iff] at q
    obtain ⟨ys, q, rfl⟩ := q
    simp only [RV] at e ⊢
    obtain ⟨a, vs, e1, e2, e4⟩ := e
    exact ⟨a, vs, e1, e2, rns_ok hf xs vs ys q e4⟩
  | .cell n, v, y, q, e => by
    simp only [rnV, Option.map_eq_some_iff] at q
    obtain ⟨p, q, rfl⟩ := q
    simp only [RV] at e ⊢
    obtain ⟨a, e1, e2⟩ := e
    exact ⟨a, hf n p a q e1, e2⟩
theorem rns_ok {f : Nat → Option Nat} (hf : ∀ n q a, f n = some q → m[n]? = some a → m2[q]? = some a) : ∀ (xs : List Val) (vs : List V) (ys : List Val), rnL f xs = some ys → RVs N K F m H xs vs → RVs N K F m2 H ys vs
  | [], vs, ys, q, e => by simp only [rnL, Option.some.injEq] at q; subst q; simpa only [RVs] using e
  | x :: xs, vs, ys, q, e => by
    simp only [rnL] at q
    split at q
    · rename_i y ys' h1 h2
      cases q
      simp only [RVs] at e
      obtain ⟨v, r, rfl, e2, e3⟩ := e
      exact .cons (rn_ok hf x v y h1 e2) (rns_ok hf xs r ys' h2 e3)
    · cases q
end
theorem rnC_ok {f : Nat → Option Nat} (hf : ∀ n q a, f n = some q → m[n]? = some a → m2[q]? = some a) {c d : Cell} {a : Addr} (q : rnC f c = some d) (r : RC N K F m H c a) : RC N K F m2 H d a := by
  cases c with
  | lst g xs =>
    simp only [rnC, Option.map_eq_some_iff] at q
    obtain ⟨ys, q, rfl⟩ := q
    obtain ⟨vs, h1, h2⟩ := r
    exact ⟨vs, h1, rns_ok hf xs vs ys q h2⟩
  | ins g c ks xs =>
    simp only [rnC, Option.map_eq_some_iff] at q
    obtain ⟨ys, q, rfl⟩ := q
    obtain ⟨dx, vs, h1, h2, h3, h4⟩ := r
    have r2 := rns_ok hf xs vs ys q h2
    exact ⟨dx, vs, h1, r2, by rw [h3, h2.length, r2.length], h4⟩
theorem mapO_mem {α β : Type} {f : α → Option β} : ∀ {xs : List α} {ys : List β} {x : α}, mapO f xs = some ys → x ∈ xs → ∃ y, f x = some y
  | [], _, x, _, h => by cases h
  | z :: xs, ys, x, e, h => by
    simp only [mapO] at e
    split at e
    · rename_i y hy
      split at e
      · rename_i zs hz
        rcases List.mem_cons.mp h with h | h
        · subst h; exact ⟨y, hy⟩
        · exact mapO_mem hz h
      · cases e
    · cases e
theorem pos_sub {ids : List Nat} (hin : ∀ n ∈ ids, n < m.length) : ∀ n q a, posOf n ids 0 = some q → m[n]? = some a → (subM m ids)[q]? = some a := fun n q a e h => by
  obtain ⟨j, rfl, hj⟩ := posOf_at e
  obtain ⟨b, h1, h2⟩ := subM_at hin hj
  rw [h] at h2
  cases h2
  rw [Nat.zero_add]
  exact h1
theorem rel_in (R : Rel N K F m H h) {ids : List Nat} {cs : List Cell} (nd : ids.Nodup) (e : getCs h (fun n => posOf n ids 0) ids = some cs) : (∀ n ∈ ids, n < m.length) ∧ Rel N K F (subM m ids) H cs := by
  unfold getCs at e
  have hin : ∀ n ∈ ids, n < m.length := fun n hn => by
    obtain ⟨y, hy⟩ := mapO_mem e hn
    rw [R.len]
    cases hc : h[n]? with
    | none => rw [hc] at hy; cases hy
    | some c => exact (List.getElem?_eq_some_iff.mp hc).1
  refine ⟨hin, ?_, subM_nd R.nd hin nd, fun a ha => ?_, R.dom, fun j c a h1 h2 => ?_⟩
  · unfold subM
    rw [List.length_map, mapO_len e]
  · obtain ⟨n, h1, h2⟩ := subM_mem hin ha
    exact R.mem a (List.mem_of_getElem? h2)
  · obtain ⟨n, q, hq⟩ := mapO_at e h1
    obtain ⟨b, h3, h4⟩ := subM_at hin q
    rw [h3] at h2
    cases h2
    cases hc : h[n]? with
    | none => rw [hc] at hq; cases hq
    | some c' =>
      rw [hc] at hq
      exact rnC_ok (pos_sub hin) hq (R.cell n _ _ hc h4)
/-! ### out of the callee -/
theorem mapO_rv (f : Val → Option Val) {F : Fr} {m : List Addr} (ih : ∀ x v y, RV N K F' m' H' x v → f x = some y → RV N K F m H' y v) : ∀ {xs ys : List Val} {vs : List V}, RVs N K F' m' H' xs vs → mapO f xs = some ys → RVs N K F m H' ys vs
  | [], ys, vs, r, e => by
    simp only [mapO, Option.some.injEq] at e
    subst e
    simpa only [RVs] using r
  | x :: xs, ys, vs, r, e => by
    simp only [RVs] at r
    obtain ⟨v, r', rfl, r1, r2⟩ := r
    simp only [mapO] at e
    cases h1 : f x with
    | none => rw [h1] at e; cases e
    | some y =>
      rw [h1] at e
      cases h2 : mapO f xs with
      | none => rw [h2] at e; cases e
      | some ys' =>
        rw [h2] at e
        cases e
        exact .cons (ih x v y r1 h1) (mapO_rv f ih r2 h2)
theorem outV_ok (R' : Rel N K F' m' H' h') {s : Nat → Option Nat} (hF : ∀ a, F2 a → F' a) (hs1 : ∀ n q a, s n = some q → m'[n]? = some a → m2[q]? = some a) (hs2 : ∀ (n : Nat) a, s n = none → m'[n]? = some a → ¬ F2 a) :
    ∀ (k : Nat) (x : Val) (v : V) (y : Val), RV N K F' m' H' x v → outV s h' k x = some y → RV N K F2 m2 H' y v
  | 0, x, v, y, r, e => by
    simp only [outV] at e
    split at e
    · rename_i hd
      cases e
      exact rv_data hF x v hd r
    · cases e
  | k + 1, x, v, y, r, e => by
    have ih := outV_ok R' hF hs1 hs2 k
    simp only [outV] at e
    split at e
    · rename_i hd
      cases e
      exact rv_data hF x v hd r
    · cases x with
      | cell n =>
        simp only [RV] at r
        obtain ⟨a, r1, r2⟩ := r
        dsimp only at e
        cases hs : s n with
        | some q =>
          rw [hs] at e
          cases e
          simp only [RV]
          exact ⟨a, hs1 n q a hs r1, r2⟩
        | none =>
          rw [hs] at e
          dsimp only at e
          have nF := hs2 n a hs r1
          cases hc : h'[n]? with
          | none => rw [hc] at e; cases e
          | some c =>
            rw [hc] at e
            have rc := R'.cell n c a hc r1
            cases c with
            | lst f xs =>
              dsimp only at e
              obtain ⟨vs, h1, h2⟩ := rc
              cases hm : mapO (outV s h' k) xs with
              | none => rw [hm] at e; cases e
              | some ys =>
                rw [hm] at e
                cases e
                simp only [RV]
                exact ⟨a, vs, r2, nF, h1, mapO_rv _ ih h2 hm⟩
            | ins f c ks xs =>
              dsimp only at e
              obtain ⟨dx, vs, h1, h2, h3, h4⟩ := rc
              cases hm : mapO (outV s h' k) xs with
              | none => rw [hm] at e; cases e
              | some ys =>
                rw [hm] at e
                cases e
                simp only [RV]
                exact ⟨a, dx, vs, r2, nF, h1, mapO_rv _ ih h2 hm, by rw [← mapO_len hm]; exact h3, h4⟩
      | lst xs =>
        dsimp only at e
        simp only [RV] at r
        obtain ⟨a, vs, r1, r2, r3, r4⟩ := r
        cases hm : mapO (outV s h' k) xs with
        | none => rw [hm] at e; cases e
        | some ys =>
          rw [hm] at e
          cases e
          simp only [RV]
          exact ⟨a, vs, r1, fun z => r2 (hF a z), r3, mapO_rv _ ih r4 hm⟩
      | tup xs =>
        dsimp only at e
        simp only [RV] at r
        obtain ⟨a, vs, r1, r2, r3, r4⟩ := r
        cases hm : mapO (outV s h' k) xs with
        | none => rw [hm] at e; cases e
        | some ys =>
          rw [hm] at e
          cases e
          simp only [RV]
          exact ⟨a, vs, r1, fun z => r2 (hF a z), r3, mapO_rv _ ih r4 hm⟩
      | ins c ks xs =>
        dsimp only at e
        simp only [RV] at r
        obtain ⟨a, dx, vs, r1, r2, r3, r4, r5, r6⟩ := r
        cases hm : mapO (outV s h' k) xs with
        | none => rw [hm] at e; cases e
        | some ys =>
          rw [hm] at e
          cases e
          simp only [RV]
          exact ⟨a, dx, vs, r1, fun z => r2 (hF a z), r3, mapO_rv _ ih r4 hm, by rw [← mapO_len hm]; exact r5, r6⟩
      | _ => cases e
theorem outC_ok (R' : Rel N K F' m' H' h') {s : Nat → Option Nat} (hF : ∀ a, F2 a → F' a) (hs1 : ∀ n q a, s n = some q → m'[n]? = some a → m2[q]? = some a) (hs2 : ∀ (n : Nat) a, s n = none → m'[n]? = some a → ¬ F2 a)
    {k : Bool} {c d : Cell} {a : Addr} (r : RC N K F' m' H' c a) (e : outC k s h' c = some d) : RC N K F2 m2 H' d a := by
  cases c with
  | lst f xs =>
    simp only [outC] at e
    obtain ⟨vs, h1, h2⟩ := r
    cases hm : mapO (outV s h' 8) xs with
    | none => rw [hm] at e; cases e
    | some ys =>
      rw [hm] at e
      cases e
      exact ⟨vs, h1, mapO_rv _ (outV_ok R' hF hs1 hs2 8) h2 hm⟩
  | ins f c ks xs =>
    simp only [outC] at e
    obtain ⟨dx, vs, h1, h2, h3, h4⟩ := r
    cases hm : mapO (outV s h' 8) xs with
    | none => rw [hm] at e; cases e
    | some ys =>
      rw [hm] at e
      cases e
      exact ⟨dx, vs, h1, mapO_rv _ (outV_ok R' hF hs1 hs2 8) h2 hm, by rw [← mapO_len hm]; exact h3, h4⟩
theorem putCs_len : ∀ {ids : List Nat} {cs : List Cell} {h : Hv}, (putCs h ids cs).length = h.length
  | [], _, _ => by simp only [putCs]
  | _ :: _, [], _ => by simp only [putCs]
  | i :: ids, c :: cs, h => by
    show (putCs (h.set i c) ids cs).length = _
    rw [putCs_len, List.length_set]
theorem putCs_out : ∀ {ids : List Nat} {cs : List Cell} {h : Hv} {n : Nat}, n ∉ ids → (putCs h ids cs)[n]? = h[n]?
  | [], _, _, _, _ => by simp only [putCs]
  | _ :: _, [], _, _, _ => by simp only [putCs]
  | i :: ids, c :: cs, h, n, hn => by
    show (putCs (h.set i c) ids cs)[n]? = _
    rw [putCs_out (fun z => hn (List.mem_cons_of_mem _ z)), List.getElem?_set_ne (fun z => hn (by rw [z]; exact List.mem_cons_self ..))]
theorem putCs_in : ∀ {ids : List Nat} {cs : List Cell} {h : Hv} {j n : Nat} {c : Cell}, ids.Nodup → ids.length = cs.length → ids[j]? = some n → n < h.length → cs[j]? = some c → (putCs h ids cs)[n]? = some c
  | [], _, _, j, _, _, _, _, e, _, _ => by simp at e
  | _ :: _, [], _, _, _, _, _, l, _, _, _ => by simp at l
  | i :: ids, d :: cs, h, j, n, c, nd, l, e, hn, ec => by
    rw [List.nodup_cons] at nd
    show (putCs (h.set i d) ids cs)[n]? = _
    cases j with
    | zero =>
      simp at e ec
      subst e ec
      rw [putCs_out nd.1, List.getElem?_set_self hn]
    | succ j =>
      rw [List.getElem?_cons_succ] at e ec
      exact putCs_in nd.2 (by simpa using l) e (by rw [List.length_set]; exact hn) ec
theorem stays_ge : ∀ {l : Hv} {i n : Nat}, n ∈ stays l i → i ≤ n ∧ n < i + l.length
  | [], _, _, e => by simp [stays] at e
  | c :: r, i, n, e => by
    simp only [stays] at e
    rw [List.length_cons]
    split at e
    · rcases List.mem_cons.mp e with z | z
      · omega
      · have := stays_ge z; omega
    · have := stays_ge e; omega
theorem stays_nd : ∀ {l : Hv} {i : Nat}, (stays l i).Nodup
  | [], _ => List.nodup_nil
  | c :: r, i => by
    simp only [stays]
    split
    · rw [List.nodup_cons]
      exact ⟨fun z => by have := stays_ge z; omega, stays_nd⟩
    · exact stays_nd
theorem posOf_none {n : Nat} : ∀ {l : List Nat} {i : Nat}, posOf n l i = none → n ∉ l
  | [], _, _ => by simp
  | a :: l, i, e => by
    simp only [posOf] at e
    split at e
    · cases e
    · rename_i hn
      intro z
      rcases List.mem_cons.mp z with z | z
      · exact hn z
      · exact posOf_none e z
/-- the callee's end, seen by the caller -/
theorem leave_ok (R : Rel N K F m H h) {ids : List Nat} (nd : ids.Nodup) (hin : ∀ n ∈ ids, n < m.length) (s : Stp F (subM m ids) H F' m' H') (R' : Rel N K F' m' H' h') {xs ys : List Val} {h2 : Hv}
    (e : leave ids h h' xs = some (ys, h2)) : ∃ F2 m2, Stp F m H F2 m2 H' ∧ Rel N K F2 m2 H' h2 ∧ (∀ vs, RVs N K F' m' H' xs vs → RVs N K F2 m2 H' ys vs) ∧ ∀ a, F2 a → F' a := by
  unfold leave at e
  generalize hst : stays (h'.drop ids.length) ids.length = st at e
  dsimp only at e
  split at e
  · rename_i ys' cs ds e1 e2 e3
    cases e
    obtain ⟨t, ht, hn⟩ := s.pre
    have lsub : (subM m ids).length = ids.length := by unfold subM; rw [List.length_map]
    have hk : ids.length ≤ m'.length := by rw [ht, List.length_append, lsub]; omega
    have st_lt : ∀ n ∈ st, ids.length ≤ n ∧ n < m'.length := fun n z => by
      rw [← hst] at z
      have := stays_ge z
      rw [List.length_drop, ← R'.len] at this
      omega
    have st_nd : st.Nodup := by rw [← hst]; exact stays_nd
    -- an address of a local cell is new
    have loc : ∀ (n : Nat) a, ids.length ≤ n → m'[n]? = some a → H a = none := fun n a h1 h2 => by
      refine hn a ?_
      rw [ht, List.getElem?_append_right (by rw [lsub]; exact h1)] at h2
      exact List.mem_of_getElem? h2
    have inn : ∀ (j n : Nat), ids[j]? = some n → m'[j]? = m[n]? := fun j n hj => by
      obtain ⟨a, h1, h2⟩ := subM_at hin hj
      rw [ht, List.getElem?_append_left (List.getElem?_eq_some_iff.mp h1).1, h1, h2]
    let E : List Addr := st.map fun n => m'.getD n 0
    have E_at : ∀ (i n : Nat), st[i]? = some n → ∃ a, E[i]? = some a ∧ m'[n]? = some a := fun i n hi => subM_at (m := m') (ids := st) (fun n z => (st_lt n z).2) hi
    have E_mem : ∀ a ∈ E, ∃ n ∈ st, m'[n]? = some a := fun a ha => subM_mem (m := m') (ids := st) (fun n z => (st_lt n z).2) ha
    have E_nd : E.Nodup := subM_nd R'.nd (fun n z => (st_lt n z).2) st_nd
    have E_new : ∀ a ∈ E, H a = none := fun a ha => by
      obtain ⟨n, h1, h2⟩ := E_mem a ha
      exact loc n a (st_lt n h1).1 h2
    let F2 : Fr := fun a => F' a ∧ ∀ n, ids.length ≤ n → m'[n]? = some a → a ∈ E
    have hF : ∀ a, F2 a → F' a := fun a z => z.1
    have FF2 : ∀ a, F a → F2 a := fun a z => ⟨s.Fm a z, fun n h1 h2 => absurd (loc n a h1 h2) (R.dom a z)⟩
    have S2 : Stp F m H F2 (m ++ E) H' := {
      fr := fun a o ha hm => s.fr a o ha fun z => by
        obtain ⟨n, h1, h2⟩ := subM_mem hin z
        exact hm (List.mem_of_getElem? h2)
      dm := s.dm
      fF := fun a z => s.fF a z.1
      Fm := FF2
      pre := ⟨E, rfl, E_new⟩ }
    have hs1 : ∀ n q a, nameOf ids st h.length n = some q → m'[n]? = some a → (m ++ E)[q]? = some a := fun n q a hq ha => by
      unfold nameOf at hq
      split at hq
      · rename_i hlt
        have hq' := hin q (List.mem_of_getElem? hq)
        rw [List.getElem?_append_left hq', ← inn n q hq]
        exact ha
      · obtain ⟨j, h1, h2⟩ := posOf_at hq
        obtain ⟨b, h3, h4⟩ := E_at j n h2
        rw [h4] at ha
        cases ha
        rw [h1, ← R.len, List.getElem?_append_right (Nat.le_add_right _ _), Nat.add_sub_cancel_left]
        exact h3
    have hs2 : ∀ (n : Nat) a, nameOf ids st h.length n = none → m'[n]? = some a → ¬ F2 a := fun n a hq ha z => by
      unfold nameOf at hq
      split at hq
      · rename_i hlt
        rw [List.getElem?_eq_getElem hlt] at hq
        cases hq
      · rename_i hge
        obtain ⟨n', h1, h2⟩ := E_mem a (z.2 n (by omega) ha)
        have := nd_get R'.nd h2 ha
        subst this
        exact posOf_none hq h1
    have lcs : ids.length = cs.length := by
      rw [← mapO_len e2, List.length_take, ← R'.len]
      omega
    have lds : st.length = ds.length := mapO_len e3
    refine ⟨F2, m ++ E, S2, ⟨?_, ?_, ?_, ?_, ?_⟩, ?_, hF⟩
    · rw [List.length_append, List.length_append, putCs_len, R.len, ← lds]
      show _ + (st.map _).length = _
      rw [List.length_map]
    · rw [List.nodup_append]
      refine ⟨R.nd, E_nd, fun a ha b hb z => ?_⟩
      subst z
      exact R.dom a (R.mem a ha) (E_new a hb)
    · intro a ha
      rcases List.mem_append.mp ha with z | z
      · exact FF2 a (R.mem a z)
      · obtain ⟨n, h1, h2⟩ := E_mem a z
        exact ⟨R'.mem a (List.mem_of_getElem? h2), fun _ _ _ => z⟩
    · intro a z
      exact R'.dom a z.1
    · intro n c a h1 h3
      by_cases hl : n < h.length
      · rw [List.getElem?_append_left (by rw [putCs_len]; exact hl)] at h1
        rw [List.getElem?_append_left (by rw [R.len]; exact hl)] at h3
        by_cases hi : n ∈ ids
        · obtain ⟨j, hj⟩ := List.mem_iff_getElem?.mp hi
          have hjl : j < cs.length := by rw [← lcs]; exact (List.getElem?_eq_some_iff.mp hj).1
          have hcj := List.getElem?_eq_getElem hjl
          rw [putCs_in nd lcs hj hl hcj] at h1
          cases h1
          obtain ⟨c0, h4, h5⟩ := mapO_at e2 hcj
          have hjk : j < ids.length := by rw [lcs]; exact hjl
          rw [List.getElem?_take_of_lt hjk] at h4
          refine outC_ok R' hF hs1 hs2 (R'.cell j c0 a h4 ?_) h5
          rw [inn j n hj]
          exact h3
        · rw [putCs_out hi] at h1
          have hne : a ∉ subM m ids := fun z => by
            obtain ⟨n', h4, h5⟩ := subM_mem hin z
            have := nd_get R.nd h5 h3
            subst this
            exact hi h4
          have hH : H' a = H a := by
            rcases none_or (o := H a) with z | z
            · exact absurd z (R.dom a (R.mem a (List.mem_of_getElem? h3)))
            · cases q : H a with
              | none => exact absurd q z
              | some o => exact s.fr a o q hne
          exact RC.mono S2 R.mem hH (R.cell n c a h1 h3)
      · have hl : h.length ≤ n := by omega
        rw [List.getElem?_append_right (by rw [putCs_len]; exact hl), putCs_len] at h1
        rw [List.getElem?_append_right (by rw [R.len]; exact hl), R.len] at h3
        obtain ⟨i, h4, h5⟩ := mapO_at e3 h1
        cases hc0 : h'[i]? with
        | none => rw [hc0] at h5; cases h5
        | some c0 =>
          rw [hc0] at h5
          obtain ⟨b, h6, h7⟩ := E_at (n - h.length) i h4
          rw [h6] at h3
          cases h3
          exact outC_ok R' hF hs1 hs2 (R'.cell i c0 _ hc0 h7) h5
    · exact fun vs r => mapO_rv _ (outV_ok R' hF hs1 hs2 8) r e1
  · cases e
end
end Pv

/-! Ev5: where one stands; calls. -/
set_option linter.all false
set_option Elab.async false
set_option maxRecDepth 100000
set_option maxHeartbeats 1000000
namespace Pv
open PySem PySem.Spec PyProof.Rows L2

def visB (sc : Scope) (x : Str) : Bool := match sc.names.lookup x with
  | some .local => true | some .cell => true | some .free => true
  | _ => false
def glB (sc : Scope) (x : Str) : Bool := match sc.names.lookup x with
  | some .globalImplicit => true
  | _ => false
def locB (sc : Scope) (x : Str) : Bool := match sc.names.lookup x with
  | some .local => true | some .cell => true
  | _ => false
theorem visB_iff {sc : Scope} {x : Str} (h : visB sc x = true) : sc.names.lookup x = some .local ∨ sc.names.lookup x = some .cell ∨ sc.names.lookup x = some .free := by
  unfold visB at h
  split at h <;> simp_all
theorem glB_iff {sc : Scope} {x : Str} (h : glB sc x = true) : sc.names.lookup x = some .globalImplicit := by
  unfold glB at h
  split at h <;> simp_all
theorem locB_iff {sc : Scope} {x : Str} (h : locB sc x = true) : sc.names.lookup x = some .local ∨ sc.names.lookup x = some .cell := by
  unfold locB at h
  split at h <;> simp_all
abbrev At := Str × Option Str
/-- a def's promise: what the evaluator says of it -/
def spC (N : Nm) (K : PySem.W.Frag) (cf : CF) (f : Nat) : Sp := fun vs H Q E => ∃ F m h args, Rel N K F m H h ∧ RVs N K F m H args vs ∧ PostG N K (RV N K) F m H (cf f args h) Q E
/-- where one stands -/
structure Kx (N : Nm) (ats : List At) (cf : CF) (X : Cx) (sc : Scope) : Prop where
  nd : X.N.Nodup
  calm : X.calm = true
  vis : ∀ x, visB sc x = true → Vis X.env.scope x
  gl : ∀ x, glB sc x = true → Gl X x
  loc : ∀ x, locB sc x = true → Loc X.env.scope x ∧ (X.fn x = true ∨ X.env.scope.names.lookup x = some .local)
  lcl : ∀ x, sc.names.lookup x = some .local → X.env.scope.names.lookup x = some .local
  fre : ∀ x, sc.names.lookup x = some .cell ∨ sc.names.lookup x = some .free → X.env.scope.names.lookup x = some .cell ∨ X.env.scope.names.lookup x = some .free
  tx : Tx N X.K X.mg
  fnok : ∀ (f : Nat) (p : At), ats[f]? = some p → ∃ k fd ps, Room (k + 1) X.A ∧ FnOk X.prog X.w X.K X.mg X.base (L2.CX X.prog X.w) k (He.fAd X.K p) fd ps (spC N X.K cf f) ∧ Binds X.K fd ps [] ∧ PySem.W.keepIn X.K (.ref (He.fAd X.K p)) = true
  glf : ∀ (f : Nat) (x : Str), ats[f]? = some ((x, none) : At) → X.mg x = some (.ref (He.ga X.K x))
  mt : ∀ (f : Nat) (x m : Str), ats[f]? = some ((x, some m) : At) → Meth X.K (He.ga X.K x) m (He.ma X.K (He.ga X.K x) m)
  mkr : ∀ (f c : Nat), c < N.nC → ats[f]? = some ((N.cls c, some "__init__") : At) → Mk X.K (He.ga X.K (N.cls c)) (He.ma X.K (He.ga X.K (N.cls c)) "__init__")
  units : X.A.units + 65 < cLine
theorem lookup_rel {sc : Scope} {x : Str} : ∀ {names : List (Str × NameKind)} {k : NameKind}, names.lookup x = some k →
    (names.map fun (n, k) => if (k == NameKind.free && sc.kind == .function && sc.names.lookup n == some .cell) then (n, NameKind.cell) else (n, k)).lookup x = some (if (k == NameKind.free && sc.kind == .function && sc.names.lookup x == some .cell) then .cell else k)
  | [], _, h => by simp at h
  | (n, k') :: r, k, h => by
    rw [List.map_cons]
    rw [List.lookup_cons] at h
    cases hx : x == n with
    | true =>
      rw [hx] at h
      cases h
      have e : x = n := by simpa using hx
      subst e
      dsimp only
      split
      · rw [List.lookup_cons, beq_self_eq_true]
      · rw [List.lookup_cons, beq_self_eq_true]
    | false =>
      rw [hx] at h
      dsimp only
      split
      · rw [List.lookup_cons, hx]; exact lookup_rel h
      · rw [List.lookup_cons, hx]; exact lookup_rel h
section
variable {N : Nm} {ats : List At} {cf : CF} {X : Cx} {sc : Scope}
theorem Kx.blk (k : Kx N ats cf X sc) (s : Shared) (H : Hp) (scope : Scope) (cl : List (Str × Addr)) (C : Addr) (fp : List Addr) : Kx N ats cf (X.blk s H scope (compEnvC scope cl C X.env) fp) scope where
  nd := k.nd
  calm := k.calm
  vis := fun x h => by
    show (relS scope X.env.scope).names.lookup x = some .local ∨ (relS scope X.env.scope).names.lookup x = some .cell ∨ (relS scope X.env.scope).names.lookup x = some .free
    rcases visB_iff h with h | h | h
    · exact .inl (lookup_relS_keep (by decide) h)
    · exact .inr (.inl (lookup_relS_keep (by decide) h))
    · have := lookup_rel (sc := X.env.scope) h
      split at this
      · exact .inr (.inl this)
      · exact .inr (.inr this)
  gl := fun x h => lookup_relS_keep (by decide) (glB_iff h)
  loc := fun x h => by
    rcases locB_iff h with h | h
    · have := lookup_relS_keep (sc := X.env.scope) (by decide) h
      exact ⟨.inl this, .inr this⟩
    · have := lookup_relS_keep (sc := X.env.scope) (by decide) h
      refine ⟨.inr this, .inl ?_⟩
      show (scope.names.lookup x == some .cell) = true
      rw [h]
      rfl
  lcl := fun x h => lookup_relS_keep (by decide) h
  fre := fun x h => by
    show (relS scope X.env.scope).names.lookup x = some .cell ∨ (relS scope X.env.scope).names.lookup x = some .free
    rcases h with h | h
    · exact .inl (lookup_relS_keep (by decide) h)
    · have := lookup_rel (sc := X.env.scope) h
      split at this
      · exact .inl this
      · exact .inr this
  tx := k.tx
  fnok := k.fnok
  glf := k.glf
  mt := k.mt
  mkr := k.mkr
  units := k.units
end
/-! ### the callee's promise from the evaluator's call -/
section
variable {N : Nm} {K : PySem.W.Frag} {F : Fr} {m : List Addr} {H : Hp} {h : Hv} {cf : CF} {f : Nat}
theorem rx_leave {F' F2 : Fr} {m' m2 : List Addr} {H' : Hp} {c : Nat} {xs ys : List Val} {cls : Value} {d : Option Addr} (hF : ∀ a, F2 a → F' a) (tr : ∀ vs, RVs N K F' m' H' xs vs → RVs N K F2 m2 H' ys vs) (r : RX N K F' m' H' c xs cls d) : RX N K F2 m2 H' c ys cls d := by
  obtain ⟨h1, h2⟩ := r
  refine ⟨h1, ?_⟩
  rcases h2 with ⟨rfl, h2⟩ | ⟨x, g, dd, v, rfl, h3, h4, h5, h6, h7⟩
  · have := tr [] .nil
    have : ys = [] := List.eq_nil_of_length_eq_zero (by rw [this.length]; rfl)
    exact .inl ⟨this, h2⟩
  · have := tr [v] (.cons h7 .nil)
    cases ys with
    | nil => simp only [RVs] at this; cases this
    | cons y ys =>
      simp only [RVs] at this
      obtain ⟨w, r, e, r1, r2⟩ := this
      cases e
      have : ys = [] := by
        cases ys with
        | nil => rfl
        | cons z zs => simp only [RVs] at r2; obtain ⟨_, _, e, _⟩ := r2; cases e
      subst this
      exact .inr ⟨y, g, dd, v, rfl, h3, h4, fun z => h5 (hF _ z), h6, r1⟩
/-- what the callee gives, as the caller takes it -/
theorem leave_post (R : Rel N K F m H h) {ids : List Nat} (nd : ids.Nodup) (hin : ∀ n ∈ ids, n < m.length) {F1 : Fr} {m1 : List Addr} {H1 : Hp} (S1 : Stp F (subM m ids) H F1 m1 H1) {r : Res Val} {Q : VK} {E : XK}
    (q : PostG N K (RV N K) F m H (match r with
      | .ok x h' => (match leave ids h h' [x] with
        | some ([y], h2) => .ok y h2
        | _ => .no)
      | .ex c xs h' => (match leave ids h h' xs with
        | some (ys, h2) => .ex c ys h2
        | _ => .no)
      | .no => .no) Q E) : PostG N K (RV N K) F1 m1 H1 r Q E := by
  cases r with
  | no => exact q
  | ok x h' =>
    dsimp only at q
    intro F' m' H' v s R' rv
    cases hl : leave ids h h' [x] with
    | none => rw [hl] at q; exact False.elim q
    | some p =>
      obtain ⟨ys, h2⟩ := p
      rw [hl] at q
      obtain ⟨F2, m2, S2, R2, r2, hF⟩ := leave_ok R nd hin (S1.trans s) R' hl
      have r2 := r2 [v] (.cons rv .nil)
      have hy := r2.length
      cases ys with
      | nil => cases hy
      | cons y ys =>
        cases ys with
        | cons z zs => simp at hy
        | nil =>
          simp only [RVs] at r2
          obtain ⟨w, r', e, r3, _⟩ := r2
          cases e
          exact q F2 m2 H' _ S2 R2 r3
  | ex c xs h' =>
    dsimp only at q
    intro F' m' H' cls d s R' rx
    cases hl : leave ids h h' xs with
    | none => rw [hl] at q; exact False.elim q
    | some p =>
      obtain ⟨ys, h2⟩ := p
      rw [hl] at q
      obtain ⟨F2, m2, S2, R2, r2, hF⟩ := leave_ok R nd hin (S1.trans s) R' hl
      exact q F2 m2 H' cls d S2 R2 (rx_leave hF r2 rx)
theorem region_call (R : Rel N K F m H h) {args : List Val} {vs : List V} (r : RVs N K F m H args vs) {Q : VK} {E : XK} (q : PostG N K (RV N K) F m H (region cf f none args h) Q E) : spC N K cf f vs H Q E := by
  unfold region at q
  dsimp only at q
  split at q
  · rename_i hnd
    have nd := of_decide_eq_true hnd
    split at q
    · rename_i cs as hc ha
      obtain ⟨hin, R0⟩ := rel_in R nd hc
      refine ⟨F, subM m (reach h 4 (dedup [] (cellsL args))), cs, as, R0, rns_ok (pos_sub hin) _ _ _ ha r, leave_post R nd hin (Stp.refl _ _ _) q⟩
    · exact False.elim q
  · exact False.elim q
/-- an instance that is being made -/
theorem upd_two {x dx : Addr} {o u : HO} (hx : H x = none) (hd : H dx = none) (ne : dx ≠ x) (R : Rel N K F m H h) : (upd H dx o) x = none ∧ Rel N K F m (upd H dx o) h ∧ Stp F m H F m (upd H dx o) :=
  ⟨by rw [upd_ne (Ne.symm ne)]; exact hx, rel_new R hd, stp_new R hd⟩
theorem region_new (R : Rel N K F m H h) {args : List Val} {vs : List V} (r : RVs N K F m H args vs) {c : Nat} {mu : Bool} (hcN : c < N.nC) {Q : VK} {E : XK} (q : PostG N K (RV N K) F m H (region cf f (some (c, mu)) args h) Q E) :
    ∀ x dx, H x = none → H dx = none → dx ≠ x → spC N K cf f (.ref x :: vs) (upd (upd H dx (.own x)) x (.ins (He.ga K (N.cls c)) dx [])) (fun v H2 => v = .non ∧ Q (.ref x) H2) E := by
  intro x dx hx hd ne
  unfold region at q
  dsimp only at q
  split at q
  · rename_i hnd
    have nd := of_decide_eq_true hnd
    split at q
    · rename_i cs as hc ha
      obtain ⟨hin, R0⟩ := rel_in R nd hc
      obtain ⟨hx1, R1, S1⟩ := upd_two (o := .own x) (u := .own x) hx hd ne R0
      have S2 := stp_cell (o := .ins (He.ga K (N.cls c)) dx []) R1 hx1
      have R2 : Rel N K (fun a => F a ∨ a = x) (subM m (reach h 4 (dedup [] (cellsL args))) ++ [x]) (upd (upd H dx (.own x)) x (.ins (He.ga K (N.cls c)) dx [])) (cs ++ [.ins mu c [] []]) :=
        rel_cell R1 hx1 ⟨dx, [], by rw [upd_same]; rfl, .nil, rfl, hcN⟩
      have lcs : cs.length = (subM m (reach h 4 (dedup [] (cellsL args)))).length := R0.len.symm
      have hself : (subM m (reach h 4 (dedup [] (cellsL args))) ++ [x])[cs.length]? = some x := by rw [lcs, List.getElem?_append_right (Nat.le_refl _)]; simp
      refine ⟨_, _, _, .cell cs.length :: as, R2, .cons (by simp only [RV]; exact ⟨x, hself, rfl⟩) ?_, ?_⟩
      · exact RVs.mono (S1.trans S2) R0.mem as vs (rns_ok (pos_sub hin) _ _ _ ha r)
      · have q2 := leave_post R nd hin (S1.trans S2) q
        cases hr : cf f (.cell cs.length :: as) (cs ++ [.ins mu c [] []]) with
        | no => rw [hr] at q2; exact q2
        | ex c xs h' => rw [hr] at q2; exact q2
        | ok y h' =>
          rw [hr] at q2
          cases y with
          | non =>
            intro F' m' H' v s R' rv
            simp only [RV] at rv
            subst rv
            refine ⟨rfl, q2 F' m' H' (.ref x) s R' ?_⟩
            obtain ⟨t, ht, _⟩ := s.pre
            simp only [RV]
            refine ⟨x, ?_, rfl⟩
            rw [ht, List.getElem?_append_left (List.getElem?_eq_some_iff.mp hself).1]
            exact hself
          | _ => exact False.elim q2
    · exact False.elim q
  · exact False.elim q
end
end Pv

/-! Ev6: a rule for each form of expression. -/
set_option linter.all false
set_option Elab.async false
set_option maxRecDepth 100000
set_option maxHeartbeats 1000000
namespace Pv
open PySem PySem.Spec PyProof.Rows L2

/-! ### forms of the text -/
def isStar : Expr → Bool
  | .Starred _ _ => true
  | _ => false
def isSlice : Expr → Bool
  | .Slice _ _ _ _ => true
  | _ => false
def isSet : Expr → Bool
  | .Set _ _ _ => true
  | _ => false
def isComp : Expr → Bool
  | .ListComp _ _ _ _ => true | .SetComp _ _ _ _ => true | .DictComp _ _ _ _ _ => true
  | _ => false
def isCall0 : Expr → Bool
  | .Call (.Name _ _) [] [] _ => true
  | _ => false
/-- an expression whose test is its value's truth -/
def isPlain : Expr → Bool
  | .UnaryOp .Not _ _ => false | .BoolOp _ _ _ => false | .IfExp _ _ _ _ => false | .Compare _ _ _ _ => false
  | _ => true
theorem star_cons {e : Expr} {es : List Expr} {env : PySem.Env} (h : isStar e = false) : starEach (e :: es) env = (false, eval e env) :: starEach es env := by
  cases e <;> first | rfl | (simp [isStar] at h)
theorem star_none {es : List Expr} {env : PySem.Env} {pos : Pos} (h : es.all (fun e => !isStar e) = true) : (backTo pos (starEach es env)).any (·.1) = false := by
  induction es with
  | nil => rfl
  | cons e es ih =>
    rw [List.all_cons, Bool.and_eq_true] at h
    have : isStar e = false := by simpa using h.1
    rw [star_cons this]
    show (false || _) = false
    rw [Bool.false_or]
    exact ih h.2
theorem star_all {es : List Expr} {env : PySem.Env} {pos : Pos} (h : es.all (fun e => !isStar e) = true) : (backTo pos (starEach es env)).all (fun x => !x.1) = true := by
  induction es with
  | nil => rfl
  | cons e es ih =>
    rw [List.all_cons, Bool.and_eq_true] at h
    have : isStar e = false := by simpa using h.1
    rw [star_cons this]
    show (true && _) = true
    rw [Bool.true_and]
    exact ih h.2
theorem plain_ix {b : Expr} (h : isSlice b = false) : PlainIx b := by
  intro o i
  cases b <;> first | rfl | (simp [isSlice] at h)
theorem base_of {o : Expr} {attr : Str} {env : PySem.Env} {whole : Sem Value} (h : isCall0 o = false) : attributeBase o attr env whole = whole := by
  unfold attributeBase
  split
  · simp [isCall0] at h
  · rfl
theorem mark_of {op : CmpOp} {b : Expr} (h : isSet b = false) : behindInMarks op b = false := by
  cases b <;> first | rfl | (simp [isSet] at h)
theorem fold_of {b : Expr} {env : PySem.Env} (h : isSet b = false) (x : Value) : foldedSetIterable b env x = pure x := by
  unfold foldedSetIterable
  cases b <;> first | rfl | (simp [isSet] at h)
theorem swap_of {e : Expr} {t : Option Expr} {l : Nat} {env : PySem.Env} (h : isComp e = false) : swapsWith e t l env = pure false := by
  unfold swapsWith
  cases e <;> first | rfl | (simp [isComp] at h)
theorem true_of {e : Expr} {env : PySem.Env} (h : isPlain e = true) (whole : Sem Value) : isTrue e env whole = (do let v ← whole; standAt e.pos; holding [v] (truthy v)) := by
  cases e <;> first | rfl | (simp [isPlain] at h; done) | skip
  rename_i op x p
  cases op <;> first | rfl | (simp [isPlain] at h)

section
variable {N : Nm} {K : PySem.W.Frag} {F : Fr} {m : List Addr} {H : Hp} {h : Hv} {cf : CF} {e : Env} {σ : L2.St} {W : WX} {a : E}
theorem rdE.imp {Q Q' : VK} (p : rdE N K cf a W σ H Q) (q : ∀ v H, Q v H → Q' v H) : rdE N K cf a W σ H Q' :=
  let ⟨F, m, h, e, R, re, z⟩ := p; ⟨F, m, h, e, R, re, z.imp q fun _ _ _ z => z⟩
theorem rdEs.imp {as : List E} {Q Q' : List V → Hp → Prop} (p : rdEs N K cf as W σ H Q) (q : ∀ v H, Q v H → Q' v H) : rdEs N K cf as W σ H Q' :=
  let ⟨F, m, h, e, R, re, z⟩ := p; ⟨F, m, h, e, R, re, z.imp q fun _ _ _ z => z⟩
theorem rdT.imp {Q Q' : Bool → Hp → Prop} (p : rdT N K cf a W σ H Q) (q : ∀ v H, Q v H → Q' v H) : rdT N K cf a W σ H Q' :=
  let ⟨F, m, h, e, R, re, z⟩ := p; ⟨F, m, h, e, R, re, z.imp (fun v H ⟨b, h1, h2⟩ => ⟨b, h1, q b H h2⟩) fun _ _ _ z => z⟩
/-- behind the first expression -/
abbrev Aft {γ δ : Type} (N : Nm) (K : PySem.W.Frag) (rel' : Fr → List Addr → Hp → γ → δ → Prop) {α β : Type} (rel : Fr → List Addr → Hp → α → β → Prop) (F : Fr) (m : List Addr) (H : Hp) (e : Env) (σ : L2.St) (k : α → Hv → Res γ) (Q : δ → Hp → Prop) (E : XK) : β → Hp → Prop :=
  fun v H1 => ∃ F1 m1 h1 x, Rel N K F1 m1 H1 h1 ∧ Stp F m H F1 m1 H1 ∧ REnv N K F1 m1 H1 e σ ∧ rel F1 m1 H1 x v ∧ PostG N K rel' F1 m1 H1 (k x h1) Q E
theorem rd_bind {γ δ : Type} {rel' : Fr → List Addr → Hp → γ → δ → Prop} {k : Val → Hv → Res γ} {Q : δ → Hp → Prop} (R : Rel N K F m H h) (re : REnv N K F m H e σ) (q : PostG N K rel' F m H ((evE cf a e h).bind k) Q (fun c d H' => W c d σ H')) :
    rdE N K cf a W σ H (Aft N K rel' (RV N K) F m H e σ k Q (fun c d H' => W c d σ H')) :=
  ⟨F, m, h, e, R, re, q.bind.imp (fun v H1 ⟨F1, m1, h1, x, R1, S, r, q1⟩ => ⟨F1, m1, h1, x, R1, S, re.mono S R.mem, r, q1⟩) fun _ _ _ z => z⟩
theorem rds_bind {γ δ : Type} {rel' : Fr → List Addr → Hp → γ → δ → Prop} {as : List E} {k : List Val → Hv → Res γ} {Q : δ → Hp → Prop} (R : Rel N K F m H h) (re : REnv N K F m H e σ) (q : PostG N K rel' F m H ((evEs cf as e h).bind k) Q (fun c d H' => W c d σ H')) :
    rdEs N K cf as W σ H (Aft N K rel' (RVs N K) F m H e σ k Q (fun c d H' => W c d σ H')) :=
  ⟨F, m, h, e, R, re, q.bind.imp (fun v H1 ⟨F1, m1, h1, x, R1, S, r, q1⟩ => ⟨F1, m1, h1, x, R1, S, re.mono S R.mem, r, q1⟩) fun _ _ _ z => z⟩
/-- a test's: the value is a bool -/
theorem rdT_of (R : Rel N K F m H h) (re : REnv N K F m H e σ) {γ δ : Type} {rel' : Fr → List Addr → Hp → γ → δ → Prop} {k : Val → Hv → Res γ} {Q : δ → Hp → Prop} (q : PostG N K rel' F m H ((evE cf a e h).bind k) Q (fun c d H' => W c d σ H'))
    (hb : ∀ x h1, (∀ b, x ≠ .bl b) → k x h1 = .no) : rdT N K cf a W σ H (fun b H1 => Aft N K rel' (RV N K) F m H e σ k Q (fun c d H' => W c d σ H') (.bl b) H1) :=
  ⟨F, m, h, e, R, re, q.bind.imp (fun v H1 ⟨F1, m1, h1, x, R1, S, r, q1⟩ => by
    cases x with
    | bl b => exact ⟨b, by simpa only [RV] using r, F1, m1, h1, .bl b, R1, S, re.mono S R.mem, by simp only [RV], q1⟩
    | _ => rw [hb _ h1 (fun b z => by cases z)] at q1; exact False.elim q1) fun _ _ _ z => z⟩
end

section
variable {N : Nm} {ats : List At} {cf : CF} {X : Cx} {sc : Scope} {W : WX} {a b c o : Expr} {pos : Pos}
/-! ### names, constants -/
theorem s_var {i : Nat} {x : Str} (k : Kx N ats cf X sc) (hi : X.N[i]? = some x) (hv : visB sc x = true) (hd : (x == ("__debug__" : Str)) = false) (hcd : (x == ("__classdict__" : Str)) = false) : PE X (.Name x pos) (rdE N X.K cf (.var i) W) :=
  PE.imp (pe_var hi (k.vis x hv) hd hcd) fun σ H Q ⟨F, m, h, e, R, re, q⟩ => by
    simp only [evE] at q
    split at q
    · rename_i v hv
      obtain ⟨w, h1, h2⟩ := re.at_ i v hv
      exact ⟨w, h1, q.ok R h2⟩
    · exact False.elim q
def cstOf : Cst → Const
  | .non => .none | .bl b => .bool b | .int i => .int i | .str s => .str s
theorem s_con {k : Cst} {j : Nat} : PE X (.Constant (cstOf k) j pos) (rdE N X.K cf (.con k) W) := by
  have : ∀ v, PE X (.Constant (cstOf k) j pos) (tC v) → (∀ F m H, RV N X.K F m H k.val v) → PE X (.Constant (cstOf k) j pos) (rdE N X.K cf (.con k) W) := fun v p r =>
    PE.imp p fun σ H Q ⟨F, m, h, e, R, re, q⟩ => by
      simp only [evE] at q
      exact q.ok R (r F m H)
  cases k with
  | non => exact this .non pe_non fun _ _ _ => by simp only [Cst.val, RV]
  | bl b => exact this (.bl b) pe_bl fun _ _ _ => by simp only [Cst.val, RV]
  | int i => exact this (.int i) pe_int fun _ _ _ => by simp only [Cst.val, RV]
  | str s => exact this (.str s) pe_str fun _ _ _ => by simp only [Cst.val, RV]
/-! ### operators -/
variable {ea eb ec : E}
theorem s_bin {op : Bop} (ha : PE X a (rdE N X.K cf ea W)) (hb : PE X b (rdE N X.K cf eb W)) : PE X (.BinOp a (bopOf op) b pos) (rdE N X.K cf (.bin op ea eb) W) :=
  PE.imp (pe_op (op_bin op) ha hb) fun σ H Q ⟨F, m, h, e, R, re, q⟩ => by
    simp only [evE] at q
    exact (rd_bind R re q).imp fun v H1 ⟨F1, m1, h1, x, R1, S1, re1, r1, q1⟩ => (rd_bind R1 re1 q1).imp fun u H2 ⟨F2, m2, h2, y, R2, S2, re2, r2, q2⟩ =>
      ⟨F2, m2, h2, x, y, R2, RV.mono S2 R1.mem x v r1, r2, q2.ofO⟩
theorem s_cmp0 {op : Cop} : ∀ {σ H} {Q : VK}, rdE N X.K cf (.cmp op ea eb) W σ H Q → tOp (rC2 N X.K op) (rdE N X.K cf ea W) (rdE N X.K cf eb W) σ H Q := fun {σ H Q} ⟨F, m, h, e, R, re, q⟩ => by
    simp only [evE] at q
    exact (rd_bind R re q).imp fun v H1 ⟨F1, m1, h1, x, R1, S1, re1, r1, q1⟩ => (rd_bind R1 re1 q1).imp fun u H2 ⟨F2, m2, h2, y, R2, S2, re2, r2, q2⟩ =>
      ⟨F2, m2, h2, x, y, R2, RV.mono S2 R1.mem x v r1, r2, q2.ofO⟩
theorem s_cmp {op : Cop} (k : Kx N ats cf X sc) (ha : PE X a (rdE N X.K cf ea W)) (hb : PE X b (rdE N X.K cf eb W)) (hs : isSet b = false) : PE X (.Compare a [copOf op] [b] pos) (rdE N X.K cf (.cmp op ea eb) W) :=
  PE.imp (pe_cmpR (op_cmp op k.units) ha hb (mark_of hs)) fun σ H Q q => s_cmp0 q
theorem rdT_rdE {σ : L2.St} {H : Hp} {Q : Bool → Hp → Prop} (q : rdT N X.K cf ea W σ H Q) : rdE N X.K cf ea W σ H (fun v H' => ∃ b, v = .bl b ∧ Q b H') := q
theorem s_cmpT {op : Cop} (k : Kx N ats cf X sc) (ha : PE X a (rdE N X.K cf ea W)) (hb : PE X b (rdE N X.K cf eb W)) (hs : isSet b = false) : PT X (.Compare a [copOf op] [b] pos) (rdT N X.K cf (.cmp op ea eb) W) :=
  PT.imp (pt_cmpR (op_cmp op k.units) ha hb (mark_of hs)) fun σ H Q q => s_cmp0 (rdT_rdE q)
theorem s_chain0 {op op' : Cop} : ∀ {σ H} {Q : VK}, rdE N X.K cf (.chain op op' ea eb ec) W σ H Q → tChain (rC2 N X.K op) (rC2 N X.K op') (rdE N X.K cf ea W) (rdE N X.K cf eb W) (rdE N X.K cf ec W) σ H Q := fun {σ H Q} ⟨F, m, h, e, R, re, q⟩ => by
    simp only [evE] at q
    refine (rd_bind R re q).imp fun v H1 ⟨F1, m1, h1, x, R1, S1, re1, r1, q1⟩ => (rd_bind R1 re1 q1).imp fun u H2 ⟨F2, m2, h2, y, R2, S2, re2, r2, q2⟩ => ?_
    have r1 := RV.mono S2 R1.mem x v r1
    dsimp only at q2
    cases hc : cmpV h2 op x y with
    | none => rw [hc] at q2; exact False.elim q2
    | some t =>
      rw [hc] at q2
      refine ⟨F2, m2, h2, x, y, R2, r1, r2, ?_⟩
      show PostG N X.K (RV N X.K) F2 m2 H2 (ofO ((cmpV h2 op x y).map Val.bl) h2) _ E9
      rw [hc]
      intro F3 m3 H3 w S3 R3 r3
      have r3 : w = V.bl t := by simpa only [RV] using r3
      subst r3
      refine ⟨t, rfl, ?_⟩
      cases t with
      | false =>
        rw [if_neg (by decide)]
        exact q2 F3 m3 H3 _ S3 R3 (by simp only [RV])
      | true =>
        rw [if_pos rfl]
        exact (rd_bind R3 (re2.mono S3 R2.mem) (PostG.step S3 q2)).imp fun w H4 ⟨F4, m4, h4, z, R4, S4, re4, r4, q4⟩ =>
          ⟨F4, m4, h4, y, z, R4, RV.mono S4 R3.mem y u (RV.mono S3 R2.mem y u r2), r4, q4.ofO⟩
theorem s_chain {op op' : Cop} (k : Kx N ats cf X sc) (ha : PE X a (rdE N X.K cf ea W)) (hb : PE X b (rdE N X.K cf eb W)) (hc : PE X c (rdE N X.K cf ec W)) (hs : isSet c = false) : PE X (.Compare a [copOf op, copOf op'] [b, c] pos) (rdE N X.K cf (.chain op op' ea eb ec) W) :=
  PE.imp (pe_chain (op_cmp op k.units) (op_cmp op' k.units) ha hb hc (mark_of hs)) fun σ H Q q => s_chain0 q
theorem s_chainT {op op' : Cop} (k : Kx N ats cf X sc) (ha : PE X a (rdE N X.K cf ea W)) (hb : PE X b (rdE N X.K cf eb W)) (hc : PE X c (rdE N X.K cf ec W)) (hs : isSet c = false) : PT X (.Compare a [copOf op, copOf op'] [b, c] pos) (rdT N X.K cf (.chain op op' ea eb ec) W) :=
  PT.imp (pt_chain (op_cmp op k.units) (op_cmp op' k.units) ha hb hc (mark_of hs)) fun σ H Q q => s_chain0 (rdT_rdE q)
/-! ### and, or, not -/
theorem s_not (ha : PE X a (rdE N X.K cf ea W)) : PE X (.UnaryOp .Not a pos) (rdE N X.K cf (.not ea) W) :=
  PE.imp (pe_not ha) fun σ H Q ⟨F, m, h, e, R, re, q⟩ => by
    simp only [evE] at q
    exact rdT_rdE (rdT.imp (rdT_of R re q fun x h1 hb => by cases x <;> first | rfl | exact absurd rfl (hb _)) fun b H1 ⟨F1, m1, h1, x, R1, S1, re1, r1, q1⟩ => by
      cases x with
      | bl b' =>
        simp only [RV] at r1
        cases r1
        exact q1.ok R1 (by simp only [RV])
      | _ => exact False.elim q1)
theorem s_notT (ha : PT X a (rdT N X.K cf ea W)) : PT X (.UnaryOp .Not a pos) (rdT N X.K cf (.not ea) W) :=
  PT.imp (pt_not ha) fun σ H Q ⟨F, m, h, e, R, re, q⟩ => by
    simp only [evE] at q
    exact rdT.imp (rdT_of R re q fun x h1 hb => by cases x <;> first | rfl | exact absurd rfl (hb _)) fun b H1 ⟨F1, m1, h1, x, R1, S1, re1, r1, q1⟩ => by
      cases x with
      | bl b' =>
        simp only [RV] at r1
        cases r1
        obtain ⟨b', e1, e2⟩ := q1.ok R1 (show RV N X.K F1 m1 H1 (.bl (!b)) (.bl (!b)) by simp only [RV])
        cases e1
        exact e2
      | _ => exact False.elim q1
theorem s_neg (ha : PE X a (rdE N X.K cf ea W)) : PE X (.UnaryOp .USub a pos) (rdE N X.K cf (.neg ea) W) :=
  PE.imp (pe_un un_neg ha) fun σ H Q ⟨F, m, h, e, R, re, q⟩ => by
    simp only [evE] at q
    exact (rd_bind R re q).imp fun v H1 ⟨F1, m1, h1, x, R1, S1, re1, r1, q1⟩ => by
      cases x with
      | int i =>
        simp only [RV] at r1
        exact ⟨i, r1, q1.ok R1 (by simp only [RV])⟩
      | _ => exact False.elim q1
theorem s_ite (hc : PT X c (rdT N X.K cf ec W)) (ha : PE X a (rdE N X.K cf ea W)) (hb : PE X b (rdE N X.K cf eb W)) : PE X (.IfExp c a b pos) (rdE N X.K cf (.ite ec ea eb) W) :=
  PE.imp (pe_ifExp hc ha hb) fun σ H Q ⟨F, m, h, e, R, re, q⟩ => by
    simp only [evE] at q
    exact rdT.imp (rdT_of R re q fun x h1 hb => by cases x <;> first | rfl | exact absurd rfl (hb _)) fun t H1 ⟨F1, m1, h1, x, R1, S1, re1, r1, q1⟩ => by
      cases x with
      | bl b' =>
        simp only [RV] at r1
        cases r1
        cases t with
        | true => rw [if_pos rfl]; exact ⟨F1, m1, h1, e, R1, re1, q1⟩
        | false => rw [if_neg (by decide)]; exact ⟨F1, m1, h1, e, R1, re1, q1⟩
      | _ => exact False.elim q1

/-- a test that is a value's truth -/
theorem s_test (ha : PE X a (rdE N X.K cf ea W)) (hp : isPlain a = true) : PT X a (rdT N X.K cf ea W) :=
  PT.imp (pt_val ha fun whole => true_of hp whole) fun σ H Q q => q
theorem evB_two {cf : CF} {f : Bool} {ea eb : E} {es : List E} {e : Env} {h : Hv} : evB cf f (ea :: eb :: es) e h = (evE cf ea e h).bind fun x h1 => match x with
    | .bl c => if c = f then evB cf f (eb :: es) e h1 else .ok (.bl c) h1
    | _ => .no := by
  rw [evB] <;> first | rfl | (intro z; cases z)
/-- and, or: values -/
theorem s_bop1 {op : PySem.BoolOp} {f : Bool} (ha : PE X a (rdE N X.K cf ea W)) : PE X (.BoolOp op [a] pos) (rdE N X.K cf (.bop f [ea]) W) :=
  PE.imp (pe_one ha) fun σ H Q ⟨F, m, h, e, R, re, q⟩ => by
    simp only [evE, evB] at q
    exact ⟨F, m, h, e, R, re, q⟩
theorem s_and {es : List E} {xs : List Expr} (ha : PE X a (rdE N X.K cf ea W)) (hb : PE X (.BoolOp .And (b :: xs) pos) (rdE N X.K cf (.bop true (eb :: es)) W)) : PE X (.BoolOp .And (a :: b :: xs) pos) (rdE N X.K cf (.bop true (ea :: eb :: es)) W) :=
  PE.imp (pe_and ha hb) fun σ H Q ⟨F, m, h, e, R, re, q⟩ => by
    simp only [evE] at q
    rw [evB_two] at q
    exact rdT_rdE (rdT.imp (rdT_of R re q fun x h1 hb => by cases x <;> first | rfl | exact absurd rfl (hb _)) fun t H1 ⟨F1, m1, h1, x, R1, S1, re1, r1, q1⟩ => by
      cases x with
      | bl b' =>
        simp only [RV] at r1
        cases r1
        cases t with
        | true => rw [if_pos rfl]; exact ⟨F1, m1, h1, e, R1, re1, by simp only [evE]; exact q1⟩
        | false => rw [if_neg (by decide)]; exact q1.ok R1 (by simp only [RV])
      | _ => exact False.elim q1)
theorem s_or {es : List E} {xs : List Expr} (ha : PE X a (rdE N X.K cf ea W)) (hb : PE X (.BoolOp .Or (b :: xs) pos) (rdE N X.K cf (.bop false (eb :: es)) W)) : PE X (.BoolOp .Or (a :: b :: xs) pos) (rdE N X.K cf (.bop false (ea :: eb :: es)) W) :=
  PE.imp (pe_or ha hb) fun σ H Q ⟨F, m, h, e, R, re, q⟩ => by
    simp only [evE] at q
    rw [evB_two] at q
    exact rdT_rdE (rdT.imp (rdT_of R re q fun x h1 hb => by cases x <;> first | rfl | exact absurd rfl (hb _)) fun t H1 ⟨F1, m1, h1, x, R1, S1, re1, r1, q1⟩ => by
      cases x with
      | bl b' =>
        simp only [RV] at r1
        cases r1
        cases t with
        | false => rw [if_neg (by decide)]; exact ⟨F1, m1, h1, e, R1, re1, by simp only [evE]; exact q1⟩
        | true => rw [if_pos rfl]; exact q1.ok R1 (by simp only [RV])
      | _ => exact False.elim q1)
/-- .. tests -/
theorem s_bop1T {op : PySem.BoolOp} (hop : op = .And ∨ op = .Or) {f : Bool} (ha : PT X a (rdT N X.K cf ea W)) : PW X (.BoolOp op [a] pos) (rdT N X.K cf (.bop f [ea]) W) := by
  have g : ∀ σ H Q, rdT N X.K cf (.bop f [ea]) W σ H Q → rdT N X.K cf ea W σ H Q := fun σ H Q ⟨F, m, h, e, R, re, q⟩ => by
    simp only [evE, evB] at q
    exact ⟨F, m, h, e, R, re, q⟩
  rcases hop with rfl | rfl
  · exact ⟨fun whole pins s σ H Q I q => (pw_and1 ha).run whole pins s σ H Q I (g σ H Q q)⟩
  · exact ⟨fun whole pins s σ H Q I q => (pw_or1 ha).run whole pins s σ H Q I (g σ H Q q)⟩
theorem s_andT {es : List E} {xs : List Expr} (ha : PT X a (rdT N X.K cf ea W)) (hb : PW X (.BoolOp .And (b :: xs) pos) (rdT N X.K cf (.bop true (eb :: es)) W)) : PW X (.BoolOp .And (a :: b :: xs) pos) (rdT N X.K cf (.bop true (ea :: eb :: es)) W) :=
  ⟨fun whole pins s σ H Q I q => (pw_and ha hb).run whole pins s σ H Q I (by
    obtain ⟨F, m, h, e, R, re, q⟩ := q
    simp only [evE] at q
    rw [evB_two] at q
    exact rdT.imp (rdT_of R re q fun x h1 hb => by cases x <;> first | rfl | exact absurd rfl (hb _)) fun t H1 ⟨F1, m1, h1, x, R1, S1, re1, r1, q1⟩ => by
      cases x with
      | bl b' =>
        simp only [RV] at r1
        cases r1
        cases t with
        | true => rw [if_pos rfl]; exact ⟨F1, m1, h1, e, R1, re1, by simp only [evE]; exact q1⟩
        | false =>
          rw [if_neg (by decide)]
          obtain ⟨b', e1, e2⟩ := q1.ok R1 (show RV N X.K F1 m1 H1 (.bl false) (.bl false) by simp only [RV])
          cases e1
          exact e2
      | _ => exact False.elim q1)⟩
theorem s_orT {es : List E} {xs : List Expr} (ha : PT X a (rdT N X.K cf ea W)) (hb : PW X (.BoolOp .Or (b :: xs) pos) (rdT N X.K cf (.bop false (eb :: es)) W)) : PW X (.BoolOp .Or (a :: b :: xs) pos) (rdT N X.K cf (.bop false (ea :: eb :: es)) W) :=
  ⟨fun whole pins s σ H Q I q => (pw_or ha hb).run whole pins s σ H Q I (by
    obtain ⟨F, m, h, e, R, re, q⟩ := q
    simp only [evE] at q
    rw [evB_two] at q
    exact rdT.imp (rdT_of R re q fun x h1 hb => by cases x <;> first | rfl | exact absurd rfl (hb _)) fun t H1 ⟨F1, m1, h1, x, R1, S1, re1, r1, q1⟩ => by
      cases x with
      | bl b' =>
        simp only [RV] at r1
        cases r1
        cases t with
        | false => rw [if_neg (by decide)]; exact ⟨F1, m1, h1, e, R1, re1, by simp only [evE]; exact q1⟩
        | true =>
          rw [if_pos rfl]
          obtain ⟨b', e1, e2⟩ := q1.ok R1 (show RV N X.K F1 m1 H1 (.bl true) (.bl true) by simp only [RV])
          cases e1
          exact e2
      | _ => exact False.elim q1)⟩
/-! ### lists of expressions -/
theorem s_nil : PA X [] (rdEs N X.K cf [] W) :=
  PA.imp pa_nil fun σ H Q ⟨F, m, h, e, R, re, q⟩ => by
    simp only [evEs] at q
    exact q.ok R .nil
@[simp] def isStarE : E → Bool
  | .star _ => true
  | _ => false
theorem evEs_cons {cf : CF} {ea : E} {es : List E} {e : Env} {h : Hv} (hs : isStarE ea = false) : evEs cf (ea :: es) e h = (evE cf ea e h).bind fun x h1 => (evEs cf es e h1).bind fun ys h2 => .ok (x :: ys) h2 := by
  cases ea <;> first | (simp only [evEs]; done) | (simp [isStarE] at hs)
theorem s_cons {es : List E} {xs : List Expr} (ha : PE X a (rdE N X.K cf ea W)) (hr : PA X xs (rdEs N X.K cf es W)) (h1 : isStar a = false) (h2 : isStarE ea = false) : PA X (a :: xs) (rdEs N X.K cf (ea :: es) W) :=
  PA.imp (pa_cons ha hr (star_cons h1)) fun σ H Q ⟨F, m, h, e, R, re, q⟩ => by
    rw [evEs_cons h2] at q
    exact (rd_bind R re q).imp fun v H1 ⟨F1, m1, h1, x, R1, S1, re1, r1, q1⟩ => (rds_bind R1 re1 q1).imp fun vs H2 ⟨F2, m2, h2, ys, R2, S2, re2, r2, q2⟩ =>
      q2.ok R2 (.cons (RV.mono S2 R1.mem x v r1) r2)
theorem s_star {es : List E} {xs : List Expr} {p : Pos} (ha : PE X a (rdE N X.K cf ea W)) (hr : PA X xs (rdEs N X.K cf es W)) : PA X (.Starred a p :: xs) (rdEs N X.K cf (.star ea :: es) W) :=
  PA.imp (StX.pa_star ha hr) fun σ H Q ⟨F, m, h, e, R, re, q⟩ => by
    simp only [evEs] at q
    refine (rd_bind R re q).imp fun v H1 ⟨F1, m1, h1, x, R1, S1, re1, r1, q1⟩ => ?_
    dsimp only at q1
    cases hx : seqs h1 x with
    | none => rw [hx] at q1; exact False.elim q1
    | some ys =>
      rw [hx] at q1
      obtain ⟨a, vs, rfl, ha, ra⟩ := seqs_at R1 r1 hx
      exact ⟨a, vs, rfl, ha.symm, (rds_bind R1 re1 q1).imp fun ws H2 ⟨F2, m2, h2, zs, R2, S2, re2, r2, q2⟩ => q2.ok R2 (.append (RVs.mono S2 R1.mem ys vs ra) r2)⟩
/-! ### displays -/
theorem s_tup {es : List E} {xs : List Expr} {k : Nat} (ha : PA X xs (rdEs N X.K cf es W)) : PE X (.Tuple xs k pos) (rdE N X.K cf (.tup es) W) :=
  PE.imp (pe_tup ha) fun σ H Q ⟨F, m, h, e, R, re, q⟩ => by
    simp only [evE] at q
    refine (rds_bind R re q).imp fun vs H1 ⟨F1, m1, h1, ys, R1, S1, re1, r1, q1⟩ => ?_
    dsimp only at q1
    split at q1
    · rename_i hl
      exact ⟨sizeLim (by rw [← r1.length]; exact hl), ans_T R1 q1 r1⟩
    · exact False.elim q1
theorem s_lst {es : List E} {xs : List Expr} (ha : PA X xs (rdEs N X.K cf es W)) : PE X (.List xs pos) (rdE N X.K cf (.lst es) W) :=
  PE.imp (pe_lst ha) fun σ H Q ⟨F, m, h, e, R, re, q⟩ => by
    simp only [evE] at q
    refine (rds_bind R re q).imp fun vs H1 ⟨F1, m1, h1, ys, R1, S1, re1, r1, q1⟩ => ?_
    dsimp only at q1
    split at q1
    · rename_i hl
      exact ⟨sizeLim (by rw [← r1.length]; exact hl), ans_L R1 q1 r1⟩
    · exact False.elim q1
/-- a new list becomes a cell -/
theorem ans_C {K : PySem.W.Frag} {F : Fr} {m : List Addr} {H : Hp} {h : Hv} (R : Rel N K F m H h) {f : Bool} {xs : List Val} {vs : List V} {Q : VK} {E : XK} (q : PostG N K (RV N K) F m H (.ok (.cell h.length) (h ++ [.lst f xs])) Q E) (r : RVs N K F m H xs vs) : ∀ p, H p = none → Q (.ref p) (upd H p (.lst vs)) := fun p hp => by
  have S := stp_cell (o := .lst vs) R hp
  have R2 : Rel N K (fun a => F a ∨ a = p) (m ++ [p]) (upd H p (.lst vs)) (h ++ [.lst f xs]) := rel_cell R hp ⟨vs, upd_same, RVs.mono S R.mem xs vs r⟩
  refine q _ _ _ _ S R2 ?_
  simp only [RV]
  exact ⟨p, by rw [← R.len, List.getElem?_append_right (Nat.le_refl _)]; simp, rfl⟩
theorem s_keepL {es : List E} {xs : List Expr} {f : Bool} (ha : PA X xs (rdEs N X.K cf es W)) : PE X (.List xs pos) (rdE N X.K cf (.keep f (.lst es)) W) :=
  PE.imp (pe_lst ha) fun σ H Q ⟨F, m, h, e, R, re, q⟩ => by
    simp only [evE, keepR] at q
    have q : PostG N X.K (RV N X.K) F m H ((evEs cf es e h).bind fun xs h1 => if xs.length ≤ lim then .ok (.cell h1.length) (h1 ++ [.lst f xs]) else .no) Q (fun c d H' => W c d σ H') := by
      cases hr : evEs cf es e h with
      | no => rw [hr] at q; exact q
      | ex c a h' => rw [hr] at q; exact q
      | ok ys h1 =>
        rw [hr] at q
        simp only [Res.bind_ok] at q ⊢
        split at q
        · rename_i hl; rw [if_pos hl]; exact q
        · exact False.elim q
    refine (rds_bind R re q).imp fun vs H1 ⟨F1, m1, h1, ys, R1, S1, re1, r1, q1⟩ => ?_
    dsimp only at q1
    split at q1
    · rename_i hl
      exact ⟨sizeLim (by rw [← r1.length]; exact hl), ans_C R1 q1 r1⟩
    · exact False.elim q1
theorem s_dct0 : PE X (.Dict [] [] pos) (rdE N X.K cf .dct0 W) :=
  PE.imp pe_dnewT fun σ H Q ⟨F, m, h, e, R, re, q⟩ => by
    simp only [evE] at q
    intro d hd
    exact q F m _ _ (stp_new R hd) (rel_new R hd) (by simp only [RV]; exact ⟨d, rfl, R.nF hd, upd_same⟩)
/-! ### subscripts, slices, attributes -/
theorem s_ix (ha : PE X a (rdE N X.K cf ea W)) (hb : PE X b (rdE N X.K cf eb W)) (hs : isSlice b = false) : PE X (.Subscript a b pos) (rdE N X.K cf (.ix ea eb) W) :=
  PE.imp (pe_ix ix_V ha hb (plain_ix hs)) fun σ H Q ⟨F, m, h, e, R, re, q⟩ => by
    simp only [evE] at q
    exact (rd_bind R re q).imp fun v H1 ⟨F1, m1, h1, x, R1, S1, re1, r1, q1⟩ => (rd_bind R1 re1 q1).imp fun u H2 ⟨F2, m2, h2, y, R2, S2, re2, r2, q2⟩ =>
      ⟨F2, m2, h2, x, y, R2, RV.mono S2 R1.mem x v r1, r2, q2.ofO⟩
/-- a slice's part -/
def PartOk (a : E) (v : V) (o : Option Int) : Prop := (a = .con .non ∧ o = none) ∨ (a ≠ .con .non ∧ ∃ i, v = .int i ∧ o = some i)
def rdO (N : Nm) (K : PySem.W.Frag) (cf : CF) (a : E) (W : WX) : TO := fun σ H Q => rdE N K cf a W σ H fun v H1 => ∃ o, PartOk a v o ∧ Q o H1
theorem s_po0 : PO X none (rdO N X.K cf (.con .non) W) := ⟨fun pins s σ H Q I q => (po_none (X := X)).run pins s σ H Q I (by
  obtain ⟨F, m, h, e, R, re, q⟩ := q
  simp only [evE] at q
  obtain ⟨o, h1, h2⟩ := q.ok R (show RV N X.K F m H (Cst.non).val .non by simp only [Cst.val, RV])
  rcases h1 with ⟨_, rfl⟩ | ⟨n, _⟩
  · exact h2
  · exact absurd rfl n)⟩
theorem s_po1 (ha : PE X a (rdE N X.K cf ea W)) (hn : ea ≠ .con .non) : PO X (some a) (rdO N X.K cf ea W) := ⟨fun pins s σ H Q I q => (po_some ha).run pins s σ H Q I (by
  refine rdE.imp q fun v H1 ⟨o, h1, h2⟩ => ?_
  rcases h1 with ⟨z, _⟩ | ⟨_, i, e1, e2⟩
  · exact absurd z hn
  · subst e2; exact ⟨i, e1, h2⟩)⟩
theorem part_ok {F : Fr} {m : List Addr} {H : Hp} {x : Val} {v : V} {o : Option Int} (r : RV N X.K F m H x v) (e : partE ea x = some o) : PartOk ea v o := by
  unfold partE at e
  split at e
  · cases e
    exact .inl ⟨rfl, rfl⟩
  · rename_i hn
    cases x with
    | int i =>
      cases e
      simp only [RV] at r
      exact .inr ⟨fun z => hn z, i, r, rfl⟩
    | _ => cases e
theorem s_sl {lo hi : Option Expr} {el eh : E} {p2 : Pos} (ha : PE X a (rdE N X.K cf ea W)) (hl : PO X lo (rdO N X.K cf el W)) (hh : PO X hi (rdO N X.K cf eh W)) : PE X (.Subscript a (.Slice lo hi none p2) pos) (rdE N X.K cf (.sl ea el eh) W) :=
  PE.imp (pe_slice sl_V ha hl hh) fun σ H Q ⟨F, m, h, e, R, re, q⟩ => by
    simp only [evE] at q
    refine (rd_bind R re q).imp fun v H1 ⟨F1, m1, h1, x, R1, S1, re1, r1, q1⟩ => (rd_bind R1 re1 q1).imp fun u H2 ⟨F2, m2, h2, y, R2, S2, re2, r2, q2⟩ => ?_
    dsimp only at q2
    cases hy : partE el y with
    | none => rw [hy] at q2; exact False.elim q2
    | some l =>
      rw [hy] at q2
      refine ⟨l, part_ok r2 hy, (rd_bind R2 re2 q2).imp fun w H3 ⟨F3, m3, h3, z, R3, S3, re3, r3, q3⟩ => ?_⟩
      dsimp only at q3
      cases hz : partE eh z with
      | none => rw [hz] at q3; exact False.elim q3
      | some u =>
        rw [hz] at q3
        exact ⟨u, part_ok r3 hz, F3, m3, h3, x, R3, RV.mono S3 R2.mem x v (RV.mono S2 R1.mem x v r1), q3.ofO⟩
theorem s_fld {f : Nat} (k : Kx N ats cf X sc) (ha : PE X a (rdE N X.K cf ea W)) (hf : f < N.nF) (hc : isCall0 a = false) : PE X (.Attribute a (N.fld f) pos) (rdE N X.K cf (.fld ea f) W) :=
  PE.imp (pe_fld ha (base_of hc)) fun σ H Q ⟨F, m, h, e, R, re, q⟩ => by
    simp only [evE] at q
    refine (rd_bind R re q).imp fun v H1 ⟨F1, m1, h1, x, R1, S1, re1, r1, q1⟩ => ?_
    dsimp only at q1
    cases hx : fldV h1 x f with
    | none => rw [hx] at q1; exact False.elim q1
    | some z =>
      rw [hx] at q1
      obtain ⟨a, C, dx, fs, w, h2, h3, h4, h5, h6, h7⟩ := fld_ok k.tx hf R1 r1 hx
      exact ⟨a, C, dx, fs, w, h2, h3, h4, h5, h6, PostG.ok q1 R1 h7⟩
end
end Pv

/-! Ev7: calls as expressions. -/
set_option linter.all false
set_option Elab.async false
set_option maxRecDepth 100000
set_option maxHeartbeats 1000000
namespace Pv
open PySem PySem.Spec PyProof.Rows L2
def noStar (xs : List Expr) : Bool := xs.all (fun e => !isStar e)
section
variable {N : Nm} {ats : List At} {cf : CF} {X : Cx} {sc : Scope} {W : WX} {a b c o : Expr} {pos p apos : Pos} {ea eb ec eo : E} {es : List E} {xs : List Expr} {x : Str}
theorem rds_nil {K : PySem.W.Frag} {σ : L2.St} {H : Hp} {R : List V → Hp → Prop} (h : rdEs N K cf [] W σ H R) : R [] H := by
  obtain ⟨F, m, h, e, R, re, q⟩ := h
  simp only [evEs] at q
  exact q.ok R .nil
/-- a known callee, its arguments -/
theorem callK {v : Value} {first : List Value} {E : Value → Shared → Prop} {pins : List (Addr × Obj)} {σ : L2.St} {H : Hp} {s : Shared} {Q : Value → Shared → Prop} (I : L2.Inv X pins σ H s) (hk : PySem.W.keepIn X.K v = true) (ha : PA X xs (rdEs N X.K cf es W)) (hn : noStar xs = true) (h0 : xs = [] → es = [])
    {R : List V → Hp → Prop} (h : rdEs N X.K cf es W σ H R) (hq : ∀ us vs s' H', L2.Inv X pins σ H' s' → Vals vs us → R vs H' → wpAny (model X.prog X.w) X.A (call v (first ++ us)) Q X.xe s') :
    wpAny (model X.prog X.w) X.A (callWith pos v first (backTo pos (starEach xs X.env)) []) Q X.xe s := by
  cases xs with
  | nil =>
    have e := h0 rfl
    subst e
    exact PySem.W.callWith_K0 I.kIn hk (hq [] [] s H I .nil (rds_nil h))
  | cons e xs =>
    unfold noStar at hn
    rw [List.all_cons, Bool.and_eq_true] at hn
    refine PySem.W.callWith_K (h₀ := X.base) I.ok.mod.kin hk (thn (ha.run pos pins s σ H R I h) fun us s1 ⟨vs, H1, I1, r, q⟩ => ⟨I1.kIn, ?_⟩) (star_cons (by simpa using hn.1)) (star_none hn.2)
    exact hq us vs s1 H1 I1 r q
/-- f(..), a def of the module -/
theorem s_call {f : Nat} (k : Kx N ats cf X sc) (tk : Takes X W) (hat : ats[f]? = some ((x, none) : At)) (hg : glB sc x = true) (hd : (x == ("__debug__" : Str)) = false) (ha : PA X xs (rdEs N X.K cf es W)) (hn : noStar xs = true) (h0 : xs = [] → es = []) :
    PE X (.Call (.Name x p) xs [] pos) (rdE N X.K cf (.call f es) W) := by
  refine ⟨fun pins s σ H Q I ⟨F, m, h, e, R, re, q⟩ => ?_⟩
  simp only [evE] at q
  obtain ⟨lev, fd, ps, hr, FO, bi, kp⟩ := k.fnok f _ hat
  refine wpAny_Call_Name_kw (ld_glob I (k.gl x hg) (k.glf f x hat) ?_ hd)
  refine callK (E := X.xe) I kp ha hn h0 (rds_bind R re q) fun us vs s1 H1 I1 r ⟨F1, m1, h1, ys, R1, S1, re1, r1, q1⟩ => ?_
  exact run_fnS FO (hr.mono (Nat.le_succ _)) bi (passAt tk σ) I1 r (region_call R1 r1 q1)
/-- C(..), a class of the module -/
theorem s_new {cN f : Nat} {mu : Bool} (k : Kx N ats cf X sc) (tk : Takes X W) (hc : cN < N.nC) (hat : ats[f]? = some ((N.cls cN, some "__init__") : At)) (hg : glB sc (N.cls cN) = true) (hd : (N.cls cN == ("__debug__" : Str)) = false) (ha : PA X xs (rdEs N X.K cf es W)) (hn : noStar xs = true) (h0 : xs = [] → es = []) :
    PE X (.Call (.Name (N.cls cN) p) xs [] pos) (rdE N X.K cf (.new cN f mu es) W) := by
  refine ⟨fun pins s σ H Q I ⟨F, m, h, e, R, re, q⟩ => ?_⟩
  simp only [evE] at q
  obtain ⟨lev, fd, ps, hr, FO, bi, kp⟩ := k.fnok f _ hat
  have M := k.mkr f cN hc hat
  refine wpAny_Call_Name_kw (ld_glob I (k.gl _ hg) (k.tx.gl cN hc) ?_ hd)
  refine callK (E := X.xe) I M.kp ha hn h0 (rds_bind R re q) fun us vs s1 H1 I1 r ⟨F1, m1, h1, ys, R1, S1, re1, r1, q1⟩ => ?_
  have hsp := region_new R1 r1 hc q1
  -- as run_make, what is raised wished for at the caller's slots
  have hq := hsp (s1.heap.objs.size + 1) s1.heap.objs.size (I1.hok.fresh (Nat.le_succ _)) (I1.hok.fresh (Nat.le_refl _)) (Nat.ne_of_lt (Nat.lt_succ_self _))
  have I2 := Inv.made (C := He.ga X.K (N.cls cN)) I1
  have r2 : Vals (V.ref (s1.heap.objs.size + 1) :: vs) (Value.ref (s1.heap.objs.size + 1) :: us) := .cons rfl r
  have hl : (Value.ref (s1.heap.objs.size + 1) :: us).length = ps.length := by
    rw [← r2.length]
    exact FO.len _ _ _ _ hq
  have bb := bi _ (Value.ref (s1.heap.objs.size + 1) :: us) I2.kIn (by rw [List.append_nil]; exact hl)
  rw [List.append_nil] at bb
  refine wpAny_call (make_map (f := He.ma X.K (He.ga X.K (N.cls cN)) "__init__") I1.kIn M.makes M.init (beq_iff_eq.mp M.fn) (codeAny_mono (FO.run _ X.stack _ _ ⟨Value.ref (s1.heap.objs.size + 1) :: us, []⟩ (Value.ref (s1.heap.objs.size + 1) :: us) _ _ _ (hr.make _ us [])
    (I2.env0.make _ us []) bb r2 hq) fun rr s' hq' => ?_))
  cases rr with
  | error e => exact passAt tk σ pins _ _ e s' I2 hq'
  | ok fl =>
    cases fl with
    | ret u =>
      obtain ⟨v, H', I3, rv, ev, q3⟩ := I2.after hq'
      subst ev
      exact ⟨rv, ⟨V.ref (s1.heap.objs.size + 1), H', I3, rfl, q3⟩⟩
    | next => exact False.elim hq'
    | brk => exact False.elim hq'
    | cont => exact False.elim hq'
/-- o.m(..) of an own class -/
theorem cls_at {F : Fr} {m : List Addr} {H : Hp} {h : Hv} {K : PySem.W.Frag} {x : Val} {v : V} {cN : Nat} (R : Rel N K F m H h) (r : RV N K F m H x v) (e : clsV h x = some cN) : ∃ a dx ks vs, v = .ref a ∧ cN < N.nC ∧ H a = some (.ins (He.ga K (N.cls cN)) dx (zipF N ks vs)) := by
  cases x with
  | ins c ks xs =>
    simp only [clsV, Option.some.injEq] at e
    subst e
    simp only [RV] at r
    obtain ⟨a, dx, vs, rfl, _, ha, _, _, hc⟩ := r
    exact ⟨a, dx, ks, vs, rfl, hc, ha⟩
  | cell n =>
    simp only [clsV] at e
    simp only [RV] at r
    obtain ⟨a, e1, e2⟩ := r
    split at e
    · rename_i f c ks xs hcell
      cases e
      obtain ⟨dx, vs, h1, h2, h3, h4⟩ := R.cell n _ a hcell e1
      exact ⟨a, dx, ks, vs, e2, h4, h1⟩
    · cases e
  | _ => simp [clsV] at e
theorem zipF_none {f : Str} : ∀ {ks : List Nat} {vs : List V}, (∀ i, N.fld i ≠ f) → (zipF N ks vs).lookup f = none
  | [], _, _ => rfl
  | k :: ks, [], _ => rfl
  | k :: ks, v :: vs, h => by
    show ((N.fld k, v) :: (ks.map N.fld).zip vs).lookup f = none
    have : (f == N.fld k) = false := beq_eq_false_iff_ne.mpr fun z => h k z.symm
    rw [List.lookup_cons, this]
    exact zipF_none h
theorem s_meth {cN f : Nat} {mn : Str} (k : Kx N ats cf X sc) (tk : Takes X W) (hat : ats[f]? = some ((N.cls cN, some mn) : At)) (hm : ∀ i, N.fld i ≠ mn) (ho : PE X o (rdE N X.K cf eo W)) (hco : isCall0 o = false) (hline : (apos.endLine == pos.line) = true) (hfew : xs.length < 30)
    (ha : PA X xs (rdEs N X.K cf es W)) (hn : noStar xs = true) (h0 : xs = [] → es = []) : PE X (.Call (.Attribute o mn apos) xs [] pos) (rdE N X.K cf (.meth cN f eo es) W) := by
  refine ⟨fun pins s σ H Q I ⟨F, m, h, e, R, re, q⟩ => ?_⟩
  simp only [evE] at q
  obtain ⟨lev, fd, ps, hr, FO, bi, kp⟩ := k.fnok f _ hat
  have MT := k.mt f _ mn hat
  have ht : eval (.Call (.Attribute o mn apos) xs [] pos) X.env = (do
      let ov ← eval o X.env
      standAt apos.atName
      let (f, first) ← holding [ov] (getMethod ov mn (plainOf o X.env))
      callWith pos f first (backTo pos (starEach xs X.env)) (backToKw pos (keywordEach [] X.env))) := by
    rw [arm_eval_Call, base_of hco]
    congr 1
    funext ov
    congr 1
    funext _
    refine mcall_line ?_ hline
    unfold methodCallForm
    rw [star_all hn]
    simp only [keywordEach, backToKw, List.map_nil, List.all_nil, Bool.true_and, List.length_nil, List.isEmpty_nil, if_true, Nat.add_zero]
    exact decide_eq_true hfew
  refine PySem.W.methodCall_KW (pl := plainOf o X.env) (thn (ho.run pins s σ H _ I (rd_bind R re q)) fun u s1 ⟨xv, H1, I1, rx, F1, m1, h1, x, R1, S1, re1, r1, q1⟩ => ?_) ht
  dsimp only at q1
  split at q1
  · rename_i hcls
    obtain ⟨a, dx, ks, vs, rfl, hcN, haH⟩ := cls_at R1 r1 hcls
    obtain rfl : u = Value.ref a := rx
    refine getmeth_ok I1 haH (k.tx.cls cN hcN) MT (zipF_none hm) ?_
    refine callK (E := X.xe) (first := [.ref a]) I1 MT.kp ha hn h0 (rds_bind R1 re1 q1) fun us vs s2 H2 I2 r ⟨F2, m2, h2, ys, R2, S2, re2, r2, q2⟩ => ?_
    exact run_fnS (us := .ref a :: us) (vs := .ref a :: vs) FO (hr.mono (Nat.le_succ _)) bi (passAt tk σ) I2 (.cons rfl r) (region_call R2 (.cons (RV.mono S2 R1.mem x _ r1) r2) q2)
  · exact False.elim q1
/-! ### built-in functions -/
def bltNm : Blt → Str
  | .len => "len" | .int => "int" | .list => "list" | .tuple => "tuple" | .sum => "sum" | .abs => "abs" | .min2 => "min" | .max2 => "max" | .str => "str"
theorem blt_boot (b : Blt) : bootBuiltins (bltNm b) = some (bltOf b) := by cases b <;> decide +kernel
theorem blt_free (b : Blt) : bltNm b ∈ freeNames := by cases b <;> decide +kernel
theorem blt_name (b : Blt) : bltNm b ≠ "__name__" ∧ (bltNm b == ("__debug__" : Str)) = false := by cases b <;> decide +kernel
theorem s_blt {bb : Blt} (k : Kx N ats cf X sc) (hg : glB sc (bltNm bb) = true) (ha : PA X (a :: xs) (rdEs N X.K cf es W)) (hn : noStar (a :: xs) = true) : PE X (.Call (.Name (bltNm bb) p) (a :: xs) [] pos) (rdE N X.K cf (.blt bb es) W) := by
  unfold noStar at hn
  rw [List.all_cons, Bool.and_eq_true] at hn
  have key : ∀ v, bltOf bb = v → PE X (.Call (.Name (bltNm bb) p) (a :: xs) [] pos) (tCB (rVs N X.K (fun h xs => bltV h bb xs)) (rdEs N X.K cf es W)) := fun v hv => by
    have hc := call_blt (X := X) (N := N) bb k.calm
    have hb := blt_boot bb
    cases bb <;> first
      | exact pe_callB hc (k.gl _ hg) (k.tx.free _ (blt_free _)) hb ha (blt_name _).1 (blt_name _).2 (star_cons (by simpa using hn.1)) (star_none hn.2)
      | exact pe_callTy hc (k.gl _ hg) (k.tx.free _ (blt_free _)) hb ha (blt_name _).1 (blt_name _).2 (star_cons (by simpa using hn.1)) (star_none hn.2)
  refine PE.imp (key _ rfl) fun σ H Q ⟨F, m, h, e, R, re, q⟩ => ?_
  simp only [evE] at q
  exact (rds_bind R re q).imp fun vs H1 ⟨F1, m1, h1, ys, R1, S1, re1, r1, q1⟩ => ⟨F1, m1, h1, ys, R1, r1, q1.ofO⟩
/-! ### methods of built-in types -/
def bmNm : Bm → Str
  | .append => "append" | .popAt => "pop" | .pop => "pop" | .reverse => "reverse" | .clear => "clear" | .extend => "extend" | .join => "join" | .split => "split"
theorem E9_imp {r : Res Val} {F : Fr} {m : List Addr} {H : Hp} {K : PySem.W.Frag} {Q : VK} {E : XK} (hx : ∀ c a h, r ≠ .ex c a h) (q : PostG N K (RV N K) F m H r Q E) : PostG N K (RV N K) F m H r Q E9 := by
  cases r with
  | ok x h => exact q
  | no => exact q
  | ex c a h => exact absurd rfl (hx c a h)
theorem bm_noex {b : Bm} {x : Val} {ys : List Val} {h : Hv} : ∀ c a h', bmV b x ys h ≠ .ex c a h' := by
  intro c a h' z
  unfold bmV at z
  cases x with
  | str s => dsimp only at z; repeat' split at z <;> first | cases z | skip
  | cell n => dsimp only at z; unfold bmL at z; repeat' split at z <;> first | cases z | skip
  | _ => cases z
theorem s_bm0 {b : Bm} (ho : PE X o (rdE N X.K cf eo W)) (hco : isCall0 o = false) (hline : (apos.endLine == pos.line) = true) (hb : b = .pop ∨ b = .reverse ∨ b = .clear) : PE X (.Call (.Attribute o (bmNm b) apos) [] [] pos) (rdE N X.K cf (.bm b eo []) W) := by
  have key : PE X (.Call (.Attribute o (bmNm b) apos) [] [] pos) (tBM0 X.K (bmOf b).1 (rBm N X.K b) (rdE N X.K cf eo W)) := by
    rcases hb with rfl | rfl | rfl
    · exact pe_bm0 PySem.F.plainAttrs_list PySem.F.slot_list_pop PySem.F.type_list_pop (bm_ok .pop) ho (base_of hco) hline
    · exact pe_bm0 PySem.F.plainAttrs_list PySem.F.slot_list_reverse PySem.F.type_list_reverse (bm_ok .reverse) ho (base_of hco) hline
    · exact pe_bm0 PySem.F.plainAttrs_list PySem.F.slot_list_clear PySem.F.type_list_clear (bm_ok .clear) ho (base_of hco) hline
  refine PE.imp key fun σ H Q ⟨F, m, h, e, R, re, q⟩ => ?_
  simp only [evE, evEs, Res.bind_ok] at q
  refine (rd_bind R re q).imp fun v H1 ⟨F1, m1, h1, x, R1, S1, re1, r1, q1⟩ => ?_
  dsimp only at q1
  split at q1
  · rename_i hty
    exact ⟨bm_ty R1 r1 hty, F1, m1, h1, x, [], R1, r1, .nil, E9_imp bm_noex q1⟩
  · exact False.elim q1
theorem s_bm {b : Bm} (ho : PE X o (rdE N X.K cf eo W)) (hco : isCall0 o = false) (hline : (apos.endLine == pos.line) = true) (hfew : (a :: xs).length < 30) (ha : PA X (a :: xs) (rdEs N X.K cf es W)) (hn : noStar (a :: xs) = true) (hb : b = .append ∨ b = .popAt ∨ b = .extend ∨ b = .join ∨ b = .split) :
    PE X (.Call (.Attribute o (bmNm b) apos) (a :: xs) [] pos) (rdE N X.K cf (.bm b eo es) W) := by
  have hfew' : ((backTo pos (starEach (a :: xs) X.env)).all (fun x => !x.1) && (backToKw pos (keywordEach [] X.env)).all (fun x => x.1.isSome) && decide ((a :: xs).length + ([] : List Keyword).length + (if ([] : List Keyword).isEmpty then 0 else 1) < 30)) = true := by
    rw [star_all hn]
    simp only [keywordEach, backToKw, List.map_nil, List.all_nil, Bool.true_and, List.length_nil, List.isEmpty_nil, if_true, Nat.add_zero]
    exact decide_eq_true hfew
  unfold noStar at hn
  rw [List.all_cons, Bool.and_eq_true] at hn
  have h1 := star_cons (es := xs) (env := X.env) (show isStar a = false by simpa using hn.1)
  have h2 := star_none (env := X.env) (pos := pos) hn.2
  have key : PE X (.Call (.Attribute o (bmNm b) apos) (a :: xs) [] pos) (tBM X.K (bmOf b).1 (rBm N X.K b) (rdE N X.K cf eo W) (rdEs N X.K cf es W)) := by
    rcases hb with rfl | rfl | rfl | rfl | rfl
    · exact pe_bm PySem.F.plainAttrs_list PySem.F.slot_list_append PySem.F.type_list_append (bm_ok .append) ho ha (base_of hco) hfew' hline h1 h2
    · exact pe_bm PySem.F.plainAttrs_list PySem.F.slot_list_pop PySem.F.type_list_pop (bm_ok .popAt) ho ha (base_of hco) hfew' hline h1 h2
    · exact pe_bm PySem.F.plainAttrs_list PySem.F.slot_list_extend PySem.F.type_list_extend (bm_ok .extend) ho ha (base_of hco) hfew' hline h1 h2
    · exact pe_bm PySem.F.plainAttrs_str PySem.F.slot_str_join PySem.F.type_str_join (bm_ok .join) ho ha (base_of hco) hfew' hline h1 h2
    · exact pe_bm PySem.F.plainAttrs_str PySem.F.slot_str_split PySem.F.type_str_split (bm_ok .split) ho ha (base_of hco) hfew' hline h1 h2
  refine PE.imp key fun σ H Q ⟨F, m, h, e, R, re, q⟩ => ?_
  simp only [evE] at q
  refine (rd_bind R re q).imp fun v H1 ⟨F1, m1, h1, x, R1, S1, re1, r1, q1⟩ => ?_
  dsimp only at q1
  split at q1
  · rename_i hty
    exact ⟨bm_ty R1 r1 hty, (rds_bind R1 re1 q1).imp fun vs H2 ⟨F2, m2, h2, ys, R2, S2, re2, r2, q2⟩ => ⟨F2, m2, h2, x, ys, R2, RV.mono S2 R1.mem x v r1, r2, E9_imp bm_noex q2⟩⟩
  · exact False.elim q1
/-! ### isinstance -/
theorem s_isiT {t : Tn} {y : Str} {py : Pos} (k : Kx N ats cf X sc) (hg : glB sc "isinstance" = true) (ha : PE X a (rdE N X.K cf ea W)) (hst : isStar a = false) (ht : tnOk N t = true) (hc : PE X (.Name y py) (tC (tnV N X.K t))) :
    PE X (.Call (.Name "isinstance" p) [a, .Name y py] [] pos) (rdE N X.K cf (.isi ea t) W) := by
  have hA : PA X [a, .Name y py] (tCons (rdE N X.K cf ea W) (tCons (tC (tnV N X.K t)) tNil)) := pa_cons ha (pa_cons hc pa_nil rfl) (star_cons hst)
  have key := pe_callB (pos := pos) (p := p) (call_isi (X := X)) (k.gl _ hg) (k.tx.free "isinstance" (by decide +kernel)) PyProof.Rows.boot_isinstance hA (by decide) (by decide) (star_cons hst) (by rfl)
  refine PE.imp key fun σ H Q ⟨F, m, h, e, R, re, q⟩ => ?_
  simp only [evE] at q
  exact (rd_bind R re q).imp fun v H1 ⟨F1, m1, h1, x, R1, S1, re1, r1, q1⟩ => isi_ok k.tx t ht R1 r1 q1.ofO
theorem tn_boot (t : Tn) (ht : ∀ d, t ≠ .own d) : bootBuiltins (Str.ofString t.nm) = some (.type t.nm) := by
  cases t <;> first | exact absurd rfl (ht _) | decide +kernel
end
end Pv

/-! Ev8: what is walked; comprehensions. -/
set_option linter.all false
set_option Elab.async false
set_option maxRecDepth 100000
set_option maxHeartbeats 1000000
namespace Pv
open PySem PySem.Spec PyProof.Rows L2
section
variable {N : Nm} {K : PySem.W.Frag} {F F' F1 F2 : Fr} {m m' m1 : List Addr} {H H' H1 : Hp} {h h' : Hv} {cf : CF} {e : Env} {σ : L2.St} {W : WX}
/-! ### fewer things may change -/
mutual
theorem rv_less (hF : ∀ a, F2 a → F a) : ∀ (x : Val) (v : V), RV N K F m H x v → RV N K F2 m H x v
  | .non, _, e => by simpa only [RV] using e
  | .bl _, _, e => by simpa only [RV] using e
  | .int _, _, e => by simpa only [RV] using e
  | .str _, _, e => by simpa only [RV] using e
  | .lst xs, v, e => by
    simp only [RV] at e ⊢
    obtain ⟨a, vs, e1, e2, e3, e4⟩ := e
    exact ⟨a, vs, e1, fun z => e2 (hF a z), e3, rvs_less hF xs vs e4⟩
  | .tup xs, v, e => by
    simp only [RV] at e ⊢
    obtain ⟨a, vs, e1, e2, e3, e4⟩ := e
    exact ⟨a, vs, e1, fun z => e2 (hF a z), e3, rvs_less hF xs vs e4⟩
  | .ins c ks xs, v, e => by
    simp only [RV] at e ⊢
    obtain ⟨a, dx, vs, e1, e2, e3, e4, e5⟩ := e
    exact ⟨a, dx, vs, e1, fun z => e2 (hF a z), e3, rvs_less hF xs vs e4, e5⟩
  | .dct0, v, e => by
    simp only [RV] at e ⊢
    obtain ⟨a, e1, e2, e3⟩ := e
    exact ⟨a, e1, fun z => e2 (hF a z), e3⟩
  | .frz xs, v, e => by
    simp only [RV] at e ⊢
    obtain ⟨a, vs, e1, e2, e4⟩ := e
    refine ⟨a, vs, e1, ?_, rvs_less hF xs vs e4⟩
    rcases e2 with ⟨e2, o, e3⟩ | e2
    · exact .inl ⟨fun z => e2 (hF a z), o, e3⟩
    · exact .inr e2
  | .cell n, _, e => by simpa only [RV] using e
theorem rvs_less (hF : ∀ a, F2 a → F a) : ∀ (xs : List Val) (vs : List V), RVs N K F m H xs vs → RVs N K F2 m H xs vs
  | [], _, e => by simpa only [RVs] using e
  | x :: xs, vs, e => by
    simp only [RVs] at e ⊢
    obtain ⟨v, r, e1, e2, e3⟩ := e
    exact ⟨v, r, e1, rv_less hF x v e2, rvs_less hF xs r e3⟩
end
theorem RC.less (hF : ∀ a, F2 a → F a) {c : Cell} {a : Addr} (r : RC N K F m H c a) : RC N K F2 m H c a := by
  cases c with
  | lst f xs => obtain ⟨vs, h1, h2⟩ := r; exact ⟨vs, h1, rvs_less hF xs vs h2⟩
  | ins f c ks xs => obtain ⟨dx, vs, h1, h2, h3⟩ := r; exact ⟨dx, vs, h1, rvs_less hF xs vs h2, h3⟩
/-! ### what an iterable gives -/
/-- the walk J gives what c says, at each heap that comes -/
def ItOk (N : Nm) (K : PySem.W.Frag) (F : Fr) (m : List Addr) (H : Hp) (c : Src) (J : L2.It) : Prop := ∀ F' m' H' h', Wk F m H F' m' H' → Rel N K F' m' H' h' → ∀ i : Nat, match srcAt c.2 h' i with
  | none => True
  | some none => J.stop i H'
  | some (some x) => J.go i H' ∧ ∀ v H2, J.yld i H' v H2 → Stp F' m' H' F' m' H2 ∧ Rel N K F' m' H2 h' ∧ RV N K F' m' H2 x v
theorem ItOk.stepW {c : Src} {J : L2.It} (r : ItOk N K F m H c J) (s : Wk F m H F' m' H') : ItOk N K F' m' H' c J := fun F2 m2 H2 h2 t R i => r F2 m2 H2 h2 (s.trans t) R i
theorem it_walk {c : Src} {J : L2.It} (w : ∀ F' m' H' h' xs, Wk F m H F' m' H' → Rel N K F' m' H' h' → c.2 h' = some xs → ∃ G Y, Walk J xs.length G Y ∧ G H' ∧ ∀ (i : Nat) (x : Val) v H2, xs[i]? = some x → Y i H' v H2 → Stp F' m' H' F' m' H2 ∧ Rel N K F' m' H2 h' ∧ RV N K F' m' H2 x v) : ItOk N K F m H c J := fun F' m' H' h' s R i => by
  unfold srcAt
  cases hc : c.2 h' with
  | none => exact trivial
  | some xs =>
    obtain ⟨G, Y, wk, g, y⟩ := w F' m' H' h' xs s R hc
    dsimp only
    by_cases hi : i ≤ xs.length
    · rw [if_pos hi]
      by_cases hl : i < xs.length
      · rw [List.getElem?_eq_getElem hl]
        exact ⟨wk.goes i H' hl g, fun v H2 q => y i xs[i] v H2 (List.getElem?_eq_getElem hl) (wk.yields i H' v H2 hl g q)⟩
      · have : i = xs.length := by omega
        subst this
        rw [List.getElem?_eq_none (Nat.le_refl _)]
        exact wk.stops H' g
    · rw [if_neg hi]
      exact trivial
/-- an iterable's reading -/
def rdI (N : Nm) (K : PySem.W.Frag) (cf : CF) (it : Pv.It) (W : WX) : TI := fun σ H R => ∃ F m h e, Rel N K F m H h ∧ REnv N K F m H e σ ∧ PostG N K (ItOk N K) F m H (evI cf it e h) R (fun c d H' => W c d σ H')
theorem it_list {a : Addr} {x : Val} {n : Nat} (r : RV N K F m H x (.ref a)) : ItOk N K F m H (n, fun h => items h x) (Itl K a) := it_walk fun F' m' H' h' xs s R hc => by
  obtain ⟨b, vs, hb, h1, h2⟩ := items_at R (RV.monoW s _ _ r) hc
  cases hb
  refine ⟨_, _, h2.length ▸ walk_list (K := K) (a := a) (xs := vs), h1, fun i x v H2 hx y => ?_⟩
  obtain ⟨rfl, y⟩ := y
  obtain ⟨w, h3, h4⟩ := h2.get hx
  rw [h3] at y
  cases y
  exact ⟨Stp.refl _ _ _, R, h4⟩
theorem seqs_items {x : Val} (h : Hv) (hx : ∀ ys, x ≠ .tup ys) : seqs h x = items h x := by
  cases x <;> first | rfl | exact absurd rfl (hx _)
theorem it_tup {a : Addr} {ys : List Val} {n : Nat} (r : RV N K F m H (.tup ys) (.ref a)) : ItOk N K F m H (n, fun h => seqs h (.tup ys)) (Itt K a) := it_walk fun F' m' H' h' xs s R hc => by
  have r := RV.monoW s _ _ r
  simp only [RV] at r
  obtain ⟨b, vs, hb, _, h1, h2⟩ := r
  cases hb
  cases hc
  refine ⟨_, _, h2.length ▸ walk_tup (K := K) (a := a) (xs := vs), SqT.of h1, fun i x v H2 hx y => ?_⟩
  obtain ⟨rfl, y⟩ := y
  obtain ⟨w, h3, h4⟩ := h2.get hx
  rw [h3] at y
  cases y
  exact ⟨Stp.refl _ _ _, R, h4⟩
theorem rng_at {lo : Int} {n i : Nat} {x : Val} (h : (rngV lo n)[i]? = some x) : x = .int (lo + i) := by
  unfold rngV at h
  rw [List.getElem?_map] at h
  cases q : (List.range n)[i]? with
  | none => rw [q] at h; cases h
  | some j =>
    rw [q] at h
    cases h
    have := List.getElem?_range (n := n) (i := i)
    have hl := (List.getElem?_eq_some_iff.mp q).1
    rw [List.length_range] at hl
    rw [List.getElem?_range hl] at q
    cases q
    rfl
theorem rng_len {lo : Int} {n : Nat} : (rngV lo n).length = n := by unfold rngV; rw [List.length_map, List.length_range]
theorem it_rng {lo : Int} {n q : Nat} : ItOk N K F m H (q, fun _ => some (rngV lo n)) (Itr lo n) := it_walk fun F' m' H' h' xs s R hc => by
  cases hc
  refine ⟨_, _, by rw [rng_len]; exact walk_range (lo := lo) (n := n), trivial, fun i x v H2 hx y => ?_⟩
  obtain ⟨rfl, rfl⟩ := y
  rw [rng_at hx]
  exact ⟨Stp.refl _ _ _, R, by simp only [RV]⟩
theorem enum_at : ∀ {xs : List Val} {k i : Nat} {x : Val}, (enumV xs k)[i]? = some x → ∃ y, xs[i]? = some y ∧ x = .tup [.int ((k + i : Nat) : Int), y]
  | [], k, i, x, h => by rw [enumV] at h; simp at h
  | y :: r, k, i, x, h => by
    rw [enumV] at h
    cases i with
    | zero => simp at h; subst h; exact ⟨y, rfl, rfl⟩
    | succ i =>
      rw [List.getElem?_cons_succ] at h
      obtain ⟨z, h1, h2⟩ := enum_at h
      refine ⟨z, by rw [List.getElem?_cons_succ]; exact h1, ?_⟩
      rw [h2, show k + 1 + i = k + (i + 1) by omega]
theorem enum_len : ∀ {xs : List Val} {k : Nat}, (enumV xs k).length = xs.length
  | [], k => by rw [enumV]
  | y :: r, k => by rw [enumV, List.length_cons, List.length_cons, enum_len]
theorem new_pair (R : Rel N K F m H h) {T : Addr} (hT : H T = none) {x y : Val} {v w : V} (r1 : RV N K F m H x v) (r2 : RV N K F m H y w) : Stp F m H F m (upd H T (.tup [v, w])) ∧ Rel N K F m (upd H T (.tup [v, w])) h ∧ RV N K F m (upd H T (.tup [v, w])) (.tup [x, y]) (.ref T) :=
  ⟨stp_new R hT, rel_new R hT, rv_newT R hT (.cons r1 (.cons r2 .nil))⟩
theorem it_enum {a : Addr} {x : Val} {n : Nat} (r : RV N K F m H x (.ref a)) : ItOk N K F m H (n, fun h => (items h x).map fun xs => enumV xs 0) (Ite K a) := it_walk fun F' m' H' h' xs s R hc => by
  simp only [Option.map_eq_some_iff] at hc
  obtain ⟨ys, hc, rfl⟩ := hc
  obtain ⟨b, vs, hb, g1, g2⟩ := items_at R (RV.monoW s _ _ r) hc
  cases hb
  refine ⟨_, _, (enum_len.trans g2.length) ▸ walk_enum (K := K) (a := a) (xs := vs), g1, fun i x v H2 hx y => ?_⟩
  obtain ⟨T, p, q, rfl, hT, rfl, h1, h2⟩ := y
  cases h1
  obtain ⟨z, h3, rfl⟩ := enum_at hx
  obtain ⟨w, h4, h5⟩ := g2.get h3
  dsimp only at h2
  rw [h4] at h2
  cases h2
  rw [Nat.zero_add]
  exact new_pair R hT (by simp only [RV]) h5
theorem zip_at : ∀ {xs ys : List Val} {i : Nat} {x : Val}, (zipV xs ys)[i]? = some x → ∃ y z, xs[i]? = some y ∧ ys[i]? = some z ∧ x = .tup [y, z]
  | [], _, i, x, h => by simp [zipV] at h
  | _ :: _, [], i, x, h => by simp [zipV] at h
  | a :: xs, b :: ys, i, x, h => by
    rw [zipV] at h
    cases i with
    | zero => simp at h; subst h; exact ⟨a, b, rfl, rfl, rfl⟩
    | succ i =>
      rw [List.getElem?_cons_succ] at h
      obtain ⟨y, z, h1, h2, h3⟩ := zip_at h
      exact ⟨y, z, by rw [List.getElem?_cons_succ]; exact h1, by rw [List.getElem?_cons_succ]; exact h2, h3⟩
theorem zip_len : ∀ {xs ys : List Val}, (zipV xs ys).length = min xs.length ys.length
  | [], _ => by simp [zipV]
  | _ :: _, [] => by simp [zipV]
  | a :: xs, b :: ys => by rw [zipV, List.length_cons, List.length_cons, List.length_cons, zip_len]; omega
theorem it_zip {a b : Addr} {x y : Val} {n : Nat} (r : RV N K F m H x (.ref a)) (r' : RV N K F m H y (.ref b)) : ItOk N K F m H (n, fun h => match items h x, items h y with
      | some xs, some ys => some (zipV xs ys)
      | _, _ => none) (Itz K a b) := it_walk fun F' m' H' h' zs s R hc => by
  dsimp only at hc
  split at hc
  · rename_i xs ys hx hy
    cases hc
    obtain ⟨p, vs, hb, g1, g2⟩ := items_at R (RV.monoW s _ _ r) hx
    cases hb
    obtain ⟨p, ws, hb, g3, g4⟩ := items_at R (RV.monoW s _ _ r') hy
    cases hb
    refine ⟨_, _, walk_zip (K := K) (a := a) (b := b) (xs := vs) (ys := ws) (by rw [zip_len, g2.length, g4.length]), ⟨g1, g3⟩, fun i x v H2 hx y => ?_⟩
    obtain ⟨T, p, q, rfl, hT, rfl, h1, h2⟩ := y
    obtain ⟨y, z, h3, h4, rfl⟩ := zip_at hx
    obtain ⟨w1, h5, h6⟩ := g2.get h3
    obtain ⟨w2, h7, h8⟩ := g4.get h4
    dsimp only at h1 h2
    rw [h5] at h1
    rw [h7] at h2
    cases h1
    cases h2
    exact new_pair R hT h6 h8
  · cases hc
end
section
variable {N : Nm} {ats : List At} {cf : CF} {X : Cx} {sc : Scope} {W : WX} {a b tgx : Expr} {ea eb : E} {pos p : Pos}
theorem PI.imp {tg it : Expr} {t t' : TI} (q : PI X tg it t) (h : ∀ σ H R, t' σ H R → t σ H R) : PI X tg it t' := ⟨fun pins s σ H R I z => q.run pins s σ H R I (h σ H R z)⟩
/-- a list or a tuple -/
theorem pi_both {l : Expr} {tl : TE} (hl : PE X l tl) : PI X tgx l (fun σ H R => tl σ H fun x H1 => ∃ a, x = .ref a ∧ (((∃ xs, SqL X.K H1 a xs) ∧ R (Itl X.K a) H1) ∨ ((∃ xs, SqT X.K H1 a xs) ∧ R (Itt X.K a) H1))) := by
  refine ⟨fun pins s σ H R I h => ?_⟩
  refine thn (hl.run pins s σ H _ I h) fun v s1 ⟨x, H1, I1, r1, q1⟩ => ?_
  obtain ⟨a, e, q⟩ := q1
  subst e
  cases r1
  rcases q with ⟨⟨xs, hq⟩, q⟩ | ⟨⟨xs, hq⟩, q⟩
  · obtain ⟨its, rv, p, hz⟩ := I1.list hq
    refine wpAny_pyIter_list p.isList ?_
    refine ⟨s1.heap.objs.size, [s1.heap.objs.size], _, _, H1, rfl, I1.kept (t' := s1.toks) fun b o e => Heap.get?_push_of_some _ e, turn_list a _, ⟨_, Heap.get?_push_size _ rfl, rfl, rfl⟩, fun b hb => ?_, q⟩
    have e : b = s1.heap.objs.size := by simpa using hb
    subst e
    exact I1.fpOk (Nat.le_refl _) (I1.hok.fresh (Nat.le_refl _))
  · obtain ⟨its, rv, p, hz⟩ := I1.tuple hq
    refine wpAny_pyIter_tuple (show s1.heap.IsTuple a its.toArray from p) ?_
    refine ⟨s1.heap.objs.size, [s1.heap.objs.size], _, _, H1, rfl, I1.kept (t' := s1.toks) fun b o e => Heap.get?_push_of_some _ e, turn_tuple a _, ⟨_, Heap.get?_push_size _ rfl, rfl, rfl⟩, fun b hb => ?_, q⟩
    have e : b = s1.heap.objs.size := by simpa using hb
    subst e
    exact I1.fpOk (Nat.le_refl _) (I1.hok.fresh (Nat.le_refl _))
theorem pi_seq (ha : PE X a (rdE N X.K cf ea W)) : PI X tgx a (rdI N X.K cf (.seq ea) W) :=
  PI.imp (pi_both ha) fun σ H R ⟨F, m, h, e, R0, re, q⟩ => by
    simp only [evI] at q
    refine (rd_bind R0 re q).imp fun v H1 ⟨F1, m1, h1, x, R1, S1, re1, r1, q1⟩ => ?_
    dsimp only at q1
    cases hx : seqs h1 x with
    | none => rw [hx] at q1; exact False.elim q1
    | some xs =>
      rw [hx] at q1
      have q1 : PostG N X.K (ItOk N X.K) F1 m1 H1 (.ok (fuelV x xs, fun h => seqs h x) h1) R _ := q1
      have L : (∀ ys, x ≠ .tup ys) → ∃ a, v = .ref a ∧ (((∃ xs, SqL X.K H1 a xs) ∧ R (Itl X.K a) H1) ∨ ((∃ xs, SqT X.K H1 a xs) ∧ R (Itt X.K a) H1)) := fun hn => by
        rw [seqs_items h1 hn] at hx
        obtain ⟨a, vs, rfl, p, ra⟩ := items_at R1 r1 hx
        refine ⟨a, rfl, .inl ⟨⟨vs, p⟩, q1.ok R1 ?_⟩⟩
        have := it_list (n := fuelV x xs) r1
        rw [show (fun h => seqs h x) = fun h => items h x from funext fun h => seqs_items h hn]
        exact this
      cases x with
      | tup ys =>
        have r2 := r1
        simp only [RV] at r2
        obtain ⟨a, vs, rfl, na, ha, ra⟩ := r2
        exact ⟨a, rfl, .inr ⟨⟨vs, SqT.of ha⟩, q1.ok R1 (it_tup r1)⟩⟩
      | _ => exact L (fun ys z => by cases z)
theorem pi_rng (k : Kx N ats cf X sc) (ha : PE X a (rdE N X.K cf ea W)) (hg : glB sc "range" = true) (hs : isStar a = false) : PI X tgx (.Call (.Name "range" p) [a] [] pos) (rdI N X.K cf (.rng ea) W) :=
  PI.imp (pi_range1 (k.gl _ hg) (k.tx.free "range" (by decide +kernel)) (pa_cons ha pa_nil (star_cons hs)) (star_cons hs)) fun σ H R ⟨F, m, h, e, R0, re, q⟩ => by
    simp only [evI] at q
    refine (rd_bind R0 re q).imp fun v H1 ⟨F1, m1, h1, x, R1, S1, re1, r1, q1⟩ => ?_
    cases x with
    | int i =>
      dsimp only at q1
      split at q1
      · rename_i hl
        simp only [RV] at r1
        subst r1
        exact ⟨i, rfl, by omega, by omega, q1.ok R1 it_rng⟩
      · exact False.elim q1
    | _ => exact False.elim q1
theorem pi_rng2 (k : Kx N ats cf X sc) (ha : PE X a (rdE N X.K cf ea W)) (hb : PE X b (rdE N X.K cf eb W)) (hg : glB sc "range" = true) (hs : isStar a = false) (hs2 : isStar b = false) : PI X tgx (.Call (.Name "range" p) [a, b] [] pos) (rdI N X.K cf (.rng2 ea eb) W) :=
  PI.imp (pi_range2 (k.gl _ hg) (k.tx.free "range" (by decide +kernel)) (pa_cons ha (pa_cons hb pa_nil (star_cons hs2)) (star_cons hs)) (by rw [star_cons hs, star_cons hs2]; rfl) (star_cons hs2)) fun σ H R ⟨F, m, h, e, R0, re, q⟩ => by
    simp only [evI] at q
    refine (rd_bind R0 re q).imp fun v H1 ⟨F1, m1, h1, x, R1, S1, re1, r1, q1⟩ => (rd_bind R1 re1 q1).imp fun w H2 ⟨F2, m2, h2, y, R2, S2, re2, r2, q2⟩ => ?_
    cases x with
    | int i =>
      cases y with
      | int j =>
        dsimp only at q2
        split at q2
        · rename_i hl
          simp only [RV] at r1 r2
          subst r1 r2
          exact ⟨i, j, rfl, by omega, q2.ok R2 it_rng⟩
        · exact False.elim q2
      | _ => exact False.elim q2
    | _ => exact False.elim q2
theorem pi_enumR {elts : List Expr} {kk : Nat} {tpos : Pos} (k : Kx N ats cf X sc) (ha : PE X a (rdE N X.K cf ea W)) (hg : glB sc "enumerate" = true) (hs : isStar a = false) : PI X (.Tuple elts kk tpos) (.Call (.Name "enumerate" p) [a] [] pos) (rdI N X.K cf (.enum ea) W) :=
  PI.imp (pi_enum (k.gl _ hg) (k.tx.free "enumerate" (by decide +kernel)) (pa_cons ha pa_nil (star_cons hs)) (star_cons hs)) fun σ H R ⟨F, m, h, e, R0, re, q⟩ => by
    simp only [evI] at q
    refine (rd_bind R0 re q).imp fun v H1 ⟨F1, m1, h1, x, R1, S1, re1, r1, q1⟩ => ?_
    dsimp only at q1
    cases hx : items h1 x with
    | none => rw [hx] at q1; exact False.elim q1
    | some xs =>
      rw [hx] at q1
      obtain ⟨a, vs, rfl, p, ra⟩ := items_at R1 r1 hx
      exact ⟨a, vs, rfl, p, PostG.ok q1 R1 (it_enum r1)⟩
theorem pi_zipR {elts : List Expr} {kk : Nat} {tpos : Pos} (k : Kx N ats cf X sc) (ha : PE X a (rdE N X.K cf ea W)) (hb : PE X b (rdE N X.K cf eb W)) (hg : glB sc "zip" = true) (hs : isStar a = false) (hs2 : isStar b = false) : PI X (.Tuple elts kk tpos) (.Call (.Name "zip" p) [a, b] [] pos) (rdI N X.K cf (.zip ea eb) W) :=
  PI.imp (pi_zip (k.gl _ hg) (k.tx.free "zip" (by decide +kernel)) (pa_cons ha (pa_cons hb pa_nil (star_cons hs2)) (star_cons hs)) (star_cons hs) (by rw [star_cons hs2]; rfl)) fun σ H R ⟨F, m, h, e, R0, re, q⟩ => by
    simp only [evI] at q
    refine (rd_bind R0 re q).imp fun v H1 ⟨F1, m1, h1, x, R1, S1, re1, r1, q1⟩ => (rd_bind R1 re1 q1).imp fun w H2 ⟨F2, m2, h2, y, R2, S2, re2, r2, q2⟩ => ?_
    have r1 := RV.mono S2 R1.mem x v r1
    dsimp only at q2
    split at q2
    · rename_i xs ys hx hy
      obtain ⟨a, vs, rfl, p, ra⟩ := items_at R2 r1 hx
      obtain ⟨b, ws, rfl, p', rb⟩ := items_at R2 r2 hy
      exact ⟨a, b, vs, ws, rfl, p, p', PostG.ok q2 R2 (it_zip r1 r2)⟩
    · exact False.elim q2
end
end Pv

/-! Ev9: comprehensions. -/
set_option linter.all false
set_option Elab.async false
set_option maxRecDepth 100000
set_option maxHeartbeats 1000000
namespace Pv
open PySem PySem.Spec PyProof.Rows L2
/-! ### targets -/
mutual
def gOf (K : PySem.W.Frag) : Tg → TG
  | .n i => gName i
  | .t ts => gTup K ts.length (gOfs K ts)
def gOfs (K : PySem.W.Frag) : List Tg → TGs
  | [] => gNil
  | t :: ts => gCons (gOf K t) (gOfs K ts)
end
mutual
def tgIn (vs : List Nat) : Tg → Bool
  | .n i => vs.contains i
  | .t ts => tgsIn vs ts
def tgsIn (vs : List Nat) : List Tg → Bool
  | [] => true
  | t :: ts => tgIn vs t && tgsIn vs ts
end
theorem wipe_get : ∀ (vs : List Nat) (σ : L2.St) (i : Nat), (L2.wipe σ vs)[i]? = if i ∈ vs then (σ[i]?).map (fun _ => none) else σ[i]?
  | [], σ, i => by simp [L2.wipe]
  | v :: vs, σ, i => by
    show ((L2.wipe σ vs).set v none)[i]? = _
    by_cases hv : i = v
    · subst hv
      rw [if_pos (List.mem_cons_self ..)]
      by_cases hl : i < σ.length
      · rw [List.getElem?_set_self (by rw [L2.wipe_length]; exact hl), List.getElem?_eq_getElem hl]
        rfl
      · rw [List.getElem?_eq_none (by rw [List.length_set, L2.wipe_length]; omega), List.getElem?_eq_none (by omega)]
        rfl
    · rw [List.getElem?_set_ne (Ne.symm hv), wipe_get vs σ i]
      by_cases h : i ∈ vs
      · rw [if_pos h, if_pos (List.mem_cons_of_mem _ h)]
      · rw [if_neg h, if_neg (fun z => (List.mem_cons.mp z).elim hv h)]
theorem wipe_set {vs : List Nat} {σ : L2.St} {i : Nat} {x : Option V} (h : i ∈ vs) : L2.wipe (σ.set i x) vs = L2.wipe σ vs := by
  apply List.ext_getElem?
  intro j
  rw [wipe_get, wipe_get]
  by_cases hj : j ∈ vs
  · rw [if_pos hj, if_pos hj]
    by_cases z : j = i
    · subst z
      by_cases hl : j < σ.length
      · rw [List.getElem?_set_self hl, List.getElem?_eq_getElem hl]; rfl
      · rw [List.getElem?_eq_none (by rw [List.length_set]; omega), List.getElem?_eq_none (by omega)]
    · rw [List.getElem?_set_ne (Ne.symm z)]
  · rw [if_neg hj, if_neg hj, List.getElem?_set_ne (fun z => hj (by rw [← z]; exact h))]
theorem wipe_wipe (vs : List Nat) (σ : L2.St) : L2.wipe (L2.wipe σ vs) vs = L2.wipe σ vs := by
  apply List.ext_getElem?
  intro j
  rw [wipe_get, wipe_get]
  split
  · cases σ[j]? <;> rfl
  · rfl
/-- only names of the target are set -/
def SetBy (tg : Tg) (σ σ' : L2.St) : Prop := ∀ vs, tgIn vs tg = true → L2.wipe σ' vs = L2.wipe σ vs
theorem wipe_by {vs : List Nat} {tg : Tg} {σ σ' : L2.St} (h : tgIn vs tg = true) (s : SetBy tg (L2.wipe σ vs) σ') : L2.wipe σ' vs = L2.wipe σ vs := (s vs h).trans (wipe_wipe vs σ)
section
variable {N : Nm} {K : PySem.W.Frag} {F : Fr} {m : List Addr} {H : Hp} {h : Hv}
mutual
theorem bind_ok : ∀ {tg : Tg} {x : Val} {v : V} {e e' : Env} {σ : L2.St} {Q : L2.St → Hp → Prop}, REnv N K F m H e σ → RV N K F m H x v → bindT h tg x e = some e' → (∀ σ', REnv N K F m H e' σ' → SetBy tg σ σ' → Q σ' H) → gOf K tg v σ H Q
  | .n i, x, v, e, e', σ, Q, re, r, hb, q => by
    simp only [bindT, Option.some.injEq] at hb
    subst hb
    simp only [gOf]
    exact q _ (re.set r) (fun vs hv => wipe_set (by simpa [tgIn] using hv))
  | .t ts, x, v, e, e', σ, Q, re, r, hb, q => by
    cases x with
    | tup xs =>
      simp only [bindT] at hb
      simp only [RV] at r
      obtain ⟨a, vs, rfl, na, ha, ra⟩ := r
      simp only [gOf]
      refine ⟨a, vs, rfl, SqT.of ha, ?_, binds_ok re ra hb fun σ' re' hw => q σ' re' fun vs hv => hw vs (by simpa only [tgIn] using hv)⟩
      rw [← ra.length]
      exact binds_len hb
    | _ => simp [bindT] at hb
theorem binds_len : ∀ {ts : List Tg} {xs : List Val} {e e' : Env}, bindTs h ts xs e = some e' → xs.length = ts.length
  | [], [], _, _, _ => rfl
  | [], _ :: _, _, _, hb => by simp [bindTs] at hb
  | _ :: _, [], _, _, hb => by simp [bindTs] at hb
  | t :: ts, x :: xs, e, e', hb => by
    simp only [bindTs] at hb
    split at hb
    · rw [List.length_cons, List.length_cons, binds_len hb]
    · cases hb
theorem binds_ok : ∀ {ts : List Tg} {xs : List Val} {vs : List V} {e e' : Env} {σ : L2.St} {Q : L2.St → Hp → Prop}, REnv N K F m H e σ → RVs N K F m H xs vs → bindTs h ts xs e = some e' → (∀ σ', REnv N K F m H e' σ' → (∀ vs, tgsIn vs ts = true → L2.wipe σ' vs = L2.wipe σ vs) → Q σ' H) → gOfs K ts vs σ H Q
  | [], xs, vs, e, e', σ, Q, re, r, hb, q => by
    cases xs with
    | cons x xs => simp [bindTs] at hb
    | nil =>
      simp only [bindTs, Option.some.injEq] at hb
      subst hb
      simp only [RVs] at r
      simp only [gOfs]
      exact ⟨r, q σ re fun _ _ => rfl⟩
  | t :: ts, xs, vs, e, e', σ, Q, re, r, hb, q => by
    cases xs with
    | nil => simp [bindTs] at hb
    | cons x xs =>
      simp only [bindTs] at hb
      split at hb
      · rename_i e1 h1
        simp only [RVs] at r
        obtain ⟨v, r', rfl, r1, r2⟩ := r
        simp only [gOfs]
        refine ⟨v, r', rfl, bind_ok re r1 h1 fun σ1 re1 s1 => binds_ok re1 r2 hb fun σ2 re2 s2 => q σ2 re2 fun vs hv => ?_⟩
        simp only [tgsIn, Bool.and_eq_true] at hv
        exact (s2 vs hv.2).trans (s1 vs hv.1)
      · cases hb
end
end
/-! ### the new list that is being filled -/
section
variable {N : Nm} {K : PySem.W.Frag} {F F1 F' : Fr} {m m1 m' : List Addr} {H H1 H' : Hp} {h h1 h' : Hv} {cf : CF} {e : Env} {σ : L2.St} {W : WX}
mutual
theorem rv_upd {D : Addr} {o : HO} (hD : F D) : ∀ (x : Val) (v : V), RV N K F m H x v → RV N K F m (upd H D o) x v
  | .non, _, e => by simpa only [RV] using e
  | .bl _, _, e => by simpa only [RV] using e
  | .int _, _, e => by simpa only [RV] using e
  | .str _, _, e => by simpa only [RV] using e
  | .lst xs, v, e => by
    simp only [RV] at e ⊢
    obtain ⟨a, vs, e1, e2, e3, e4⟩ := e
    exact ⟨a, vs, e1, e2, (upd_ne (fun z => e2 (by rw [z]; exact hD))).trans e3, rvs_upd hD xs vs e4⟩
  | .tup xs, v, e => by
    simp only [RV] at e ⊢
    obtain ⟨a, vs, e1, e2, e3, e4⟩ := e
    exact ⟨a, vs, e1, e2, (upd_ne (fun z => e2 (by rw [z]; exact hD))).trans e3, rvs_upd hD xs vs e4⟩
  | .ins c ks xs, v, e => by
    simp only [RV] at e ⊢
    obtain ⟨a, dx, vs, e1, e2, e3, e4, e5⟩ := e
    exact ⟨a, dx, vs, e1, e2, (upd_ne (fun z => e2 (by rw [z]; exact hD))).trans e3, rvs_upd hD xs vs e4, e5⟩
  | .dct0, v, e => by
    simp only [RV] at e ⊢
    obtain ⟨a, e1, e2, e3⟩ := e
    exact ⟨a, e1, e2, (upd_ne (fun z => e2 (by rw [z]; exact hD))).trans e3⟩
  | .frz xs, v, e => by
    simp only [RV] at e ⊢
    obtain ⟨a, vs, e1, e2, e4⟩ := e
    refine ⟨a, vs, e1, ?_, rvs_upd hD xs vs e4⟩
    rcases e2 with ⟨e2, o, e3⟩ | e2
    · exact .inl ⟨e2, o, (upd_ne (fun z => e2 (by rw [z]; exact hD))).trans e3⟩
    · exact .inr e2
  | .cell n, _, e => by simpa only [RV] using e
theorem rvs_upd {D : Addr} {o : HO} (hD : F D) : ∀ (xs : List Val) (vs : List V), RVs N K F m H xs vs → RVs N K F m (upd H D o) xs vs
  | [], _, e => by simpa only [RVs] using e
  | x :: xs, vs, e => by
    simp only [RVs] at e ⊢
    obtain ⟨v, r, e1, e2, e3⟩ := e
    exact ⟨v, r, e1, rv_upd hD x v e2, rvs_upd hD xs r e3⟩
end
mutual
theorem rv_more {t : List Addr} : ∀ (x : Val) (v : V), RV N K F m H x v → RV N K F (m ++ t) H x v
  | .non, _, e => by simpa only [RV] using e
  | .bl _, _, e => by simpa only [RV] using e
  | .int _, _, e => by simpa only [RV] using e
  | .str _, _, e => by simpa only [RV] using e
  | .lst xs, v, e => by
    simp only [RV] at e ⊢
    obtain ⟨a, vs, e1, e2, e3, e4⟩ := e
    exact ⟨a, vs, e1, e2, e3, rvs_more xs vs e4⟩
  | .tup xs, v, e => by
    simp only [RV] at e ⊢
    obtain ⟨a, vs, e1, e2, e3, e4⟩ := e
    exact ⟨a, vs, e1, e2, e3, rvs_more xs vs e4⟩
  | .ins c ks xs, v, e => by
    simp only [RV] at e ⊢
    obtain ⟨a, dx, vs, e1, e2, e3, e4, e5⟩ := e
    exact ⟨a, dx, vs, e1, e2, e3, rvs_more xs vs e4, e5⟩
  | .dct0, v, e => by simpa only [RV] using e
  | .frz xs, v, e => by
    simp only [RV] at e ⊢
    obtain ⟨a, vs, e1, e2, e4⟩ := e
    exact ⟨a, vs, e1, e2, rvs_more xs vs e4⟩
  | .cell n, _, e => by
    simp only [RV] at e ⊢
    obtain ⟨a, e1, e2⟩ := e
    exact ⟨a, (List.getElem?_append_left (List.getElem?_eq_some_iff.mp e1).1).trans e1, e2⟩
theorem rvs_more {t : List Addr} : ∀ (xs : List Val) (vs : List V), RVs N K F m H xs vs → RVs N K F (m ++ t) H xs vs
  | [], _, e => by simpa only [RVs] using e
  | x :: xs, vs, e => by
    simp only [RVs] at e ⊢
    obtain ⟨v, r, e1, e2, e3⟩ := e
    exact ⟨v, r, e1, rv_more x v e2, rvs_more xs r e3⟩
end
/-- behind a start (F1, m1, H1) where D was free: D holds acc -/
structure Fill (N : Nm) (K : PySem.W.Frag) (F1 : Fr) (m1 : List Addr) (H1 : Hp) (D : Addr) (F' : Fr) (m' : List Addr) (H' : Hp) (h' : Hv) (acc : List Val) : Prop where
  stp : Stp F1 m1 H1 F' m' H'
  rel : Rel N K F' m' H' h'
  own : F' D
  out : D ∉ m'
  at_ : ∃ vs, H' D = some (.lst vs) ∧ RVs N K F' m' H' acc vs
theorem Fill.start (R1 : Rel N K F1 m1 H1 h1) {D : Addr} (hD : H1 D = none) : Fill N K F1 m1 H1 D (fun a => F1 a ∨ a = D) m1 (upd H1 D (.lst [])) h1 [] where
  stp := {
    fr := (stp_new R1 hD).fr
    dm := (stp_new R1 hD).dm
    fF := fun a z => z.elim .inl fun z => by subst z; exact .inr hD
    Fm := fun _ z => .inl z
    pre := ⟨[], (List.append_nil m1).symm, fun _ h => by cases h⟩ }
  rel := by
    have R2 := rel_new (o := .lst []) R1 hD
    refine ⟨R2.len, R2.nd, fun a ha => .inl (R2.mem a ha), fun a z => ?_, fun n c a h2 h3 => ?_⟩
    · rcases z with z | z
      · exact R2.dom a z
      · rw [z, upd_same]; intro q; cases q
    · have S : Stp F1 m1 H1 (fun a => F1 a ∨ a = D) m1 (upd H1 D (.lst [])) := ⟨(stp_new R1 hD).fr, (stp_new R1 hD).dm, fun a z => z.elim .inl fun z => by subst z; exact .inr hD, fun _ z => .inl z, [], (List.append_nil m1).symm, fun _ h => by cases h⟩
      have hne : a ≠ D := fun z => R1.nF hD (by rw [← z]; exact R1.mem a (List.mem_of_getElem? h3))
      exact RC.mono S R1.mem (upd_ne hne) (R1.cell n c a h2 h3)
  own := .inr rfl
  out := fun z => R1.nF hD (R1.mem D z)
  at_ := ⟨[], upd_same, .nil⟩
/-- steps of a turn -/
theorem Fill.step {D : Addr} {F2 : Fr} {m2 : List Addr} {H2 : Hp} {h2 : Hv} {acc : List Val} (f : Fill N K F1 m1 H1 D F' m' H' h' acc) (s : Stp F' m' H' F2 m2 H2) (R2 : Rel N K F2 m2 H2 h2) : Fill N K F1 m1 H1 D F2 m2 H2 h2 acc where
  stp := f.stp.trans s
  rel := R2
  own := s.Fm D f.own
  out := fun z => by
    obtain ⟨t, ht, hn⟩ := s.pre
    rw [ht] at z
    rcases List.mem_append.mp z with z | z
    · exact f.out z
    · exact f.rel.dom D f.own (hn D z)
  at_ := by
    obtain ⟨vs, h1, h2⟩ := f.at_
    exact ⟨vs, s.fr D _ h1 f.out, RVs.mono s f.rel.mem acc vs h2⟩
/-- an item is added -/
theorem Fill.add {D : Addr} {acc : List Val} {x : Val} {v : V} (hD : H1 D = none) (f : Fill N K F1 m1 H1 D F' m' H' h' acc) (r : RV N K F' m' H' x v) : ∃ vs, H' D = some (.lst vs) ∧ vs.length = acc.length ∧ Fill N K F1 m1 H1 D F' m' (upd H' D (.lst (vs ++ [v]))) h' (acc ++ [x]) := by
  obtain ⟨vs, h2, h3⟩ := f.at_
  refine ⟨vs, h2, h3.length.symm, ?_⟩
  -- D is nobody's: what is related stays so
  have S : Stp F' (m' ++ [D]) H' F' (m' ++ [D]) (upd H' D (.lst (vs ++ [v]))) := {
    fr := fun a o e hn => by
      rw [upd_ne (fun z => hn (by rw [z]; simp))]
      exact e
    dm := fun a e => by
      by_cases z : a = D
      · rw [z, upd_same]; intro q; cases q
      · rw [upd_ne z]; exact e
    fF := fun _ z => .inl z
    Fm := fun _ z => z
    pre := ⟨[], (List.append_nil _).symm, fun _ h => by cases h⟩ }
  have hm : ∀ a ∈ m' ++ [D], F' a := fun a ha => by
    rcases List.mem_append.mp ha with z | z
    · exact f.rel.mem a z
    · rw [List.mem_singleton.mp z]; exact f.own
  have up : ∀ y w, RV N K F' m' H' y w → RV N K F' m' (upd H' D (.lst (vs ++ [v]))) y w := fun y w => rv_upd f.own y w
  have ups : ∀ y w, RVs N K F' m' H' y w → RVs N K F' m' (upd H' D (.lst (vs ++ [v]))) y w := fun y w => rvs_upd f.own y w
  refine ⟨?_, ?_, f.own, f.out, vs ++ [v], upd_same, (ups _ _ h3).append (.cons (up _ _ r) .nil)⟩
  · exact {
      fr := fun a o e hn => by
        rw [upd_ne (ne_of_none e hD)]
        exact f.stp.fr a o e hn
      dm := fun a e => by
        by_cases z : a = D
        · rw [z, upd_same]; intro q; cases q
        · rw [upd_ne z]; exact f.stp.dm a e
      fF := f.stp.fF
      Fm := f.stp.Fm
      pre := f.stp.pre }
  · refine ⟨f.rel.len, f.rel.nd, f.rel.mem, fun a z => S.dm a (f.rel.dom a z), fun n c a h4 h5 => ?_⟩
    have hne : a ≠ D := fun z => f.out (by rw [← z]; exact List.mem_of_getElem? h5)
    have rc := f.rel.cell n c a h4 h5
    cases c with
    | lst g xs => obtain ⟨ws, e1, e2⟩ := rc; exact ⟨ws, (upd_ne hne).trans e1, ups _ _ e2⟩
    | ins g c ks xs => obtain ⟨dx, ws, e1, e2, e3⟩ := rc; exact ⟨dx, ws, (upd_ne hne).trans e1, ups _ _ e2, e3⟩
/-- at the end D is a value -/
theorem Fill.done_ {D : Addr} {acc : List Val} (hD : H1 D = none) (R1 : Rel N K F1 m1 H1 h1) (f : Fill N K F1 m1 H1 D F' m' H' h' acc) {Q : VK} {E : XK} (q : PostG N K (RV N K) F1 m1 H1 (.ok (.lst acc) h') Q E) : Q (.ref D) H' := by
  have hF : ∀ a, (F' a ∧ a ≠ D) → F' a := fun a z => z.1
  refine q (fun a => F' a ∧ a ≠ D) m' H' (.ref D) ?_ ?_ ?_
  · exact ⟨f.stp.fr, f.stp.dm, fun a z => f.stp.fF a z.1, fun a z => ⟨f.stp.Fm a z, fun y => R1.nF hD (y ▸ z)⟩, f.stp.pre⟩
  · refine ⟨f.rel.len, f.rel.nd, fun a ha => ⟨f.rel.mem a ha, fun z => f.out (z ▸ ha)⟩, fun a z => f.rel.dom a z.1, fun n c a h2 h3 => RC.less hF (f.rel.cell n c a h2 h3)⟩
  · obtain ⟨vs, h2, h3⟩ := f.at_
    simp only [RV]
    exact ⟨D, vs, rfl, fun z => z.2 rfl, h2, rvs_less hF acc vs h3⟩
/-- .. or a cell -/
theorem Fill.cell_ {D : Addr} {acc : List Val} {g : Bool} (hD : H1 D = none) (R1 : Rel N K F1 m1 H1 h1) (f : Fill N K F1 m1 H1 D F' m' H' h' acc) {Q : VK} {E : XK} (q : PostG N K (RV N K) F1 m1 H1 (.ok (.cell h'.length) (h' ++ [.lst g acc])) Q E) : Q (.ref D) H' := by
  obtain ⟨t, ht, hn⟩ := f.stp.pre
  refine q F' (m' ++ [D]) H' (.ref D) ?_ ?_ ?_
  · exact ⟨f.stp.fr, f.stp.dm, f.stp.fF, f.stp.Fm, t ++ [D], by rw [ht, List.append_assoc], fun a ha => (List.mem_append.mp ha).elim (hn a) fun z => by rw [List.mem_singleton.mp z]; exact hD⟩
  · refine ⟨by rw [List.length_append, List.length_append, f.rel.len]; rfl, ?_, fun a ha => (List.mem_append.mp ha).elim (f.rel.mem a) fun z => by rw [List.mem_singleton.mp z]; exact f.own, f.rel.dom, fun n c a h2 h3 => ?_⟩
    · rw [List.nodup_append]
      exact ⟨f.rel.nd, by simp, fun a ha b hb z => f.out (by rw [List.mem_singleton] at hb; subst hb; rw [← z]; exact ha)⟩
    · by_cases hl : n < h'.length
      · rw [List.getElem?_append_left hl] at h2
        rw [List.getElem?_append_left (by rw [f.rel.len]; exact hl)] at h3
        have rc := f.rel.cell n c a h2 h3
        cases c with
        | lst g xs => obtain ⟨ws, e1, e2⟩ := rc; exact ⟨ws, e1, rvs_more _ _ e2⟩
        | ins g c ks xs => obtain ⟨dx, ws, e1, e2, e3⟩ := rc; exact ⟨dx, ws, e1, rvs_more _ _ e2, e3⟩
      · have hge : h'.length ≤ n := by omega
        rw [List.getElem?_append_right hge] at h2
        rw [List.getElem?_append_right (by rw [f.rel.len]; exact hge), f.rel.len] at h3
        cases k : n - h'.length with
        | succ j => rw [k] at h2; simp at h2
        | zero =>
          rw [k] at h2 h3
          simp at h2 h3
          subst h2 h3
          obtain ⟨vs, h4, h5⟩ := f.at_
          exact ⟨vs, h4, rvs_more _ _ h5⟩
  · simp only [RV]
    refine ⟨D, ?_, rfl⟩
    rw [← f.rel.len, List.getElem?_append_right (Nat.le_refl _)]
    simp
end
end Pv

/-! Ev10: comprehensions. -/
set_option linter.all false
set_option Elab.async false
set_option maxRecDepth 100000
set_option maxHeartbeats 1000000
namespace Pv
open PySem PySem.Spec PyProof.Rows L2
mutual
theorem gOf_mono {K : PySem.W.Frag} : ∀ {tg : Tg} {v : V} {σ : L2.St} {H : Hp} {Q Q' : L2.St → Hp → Prop}, (∀ σ H, Q σ H → Q' σ H) → gOf K tg v σ H Q → gOf K tg v σ H Q'
  | .n i, v, σ, H, Q, Q', q, h => by
    simp only [gOf] at h ⊢
    exact q _ _ h
  | .t ts, v, σ, H, Q, Q', q, h => by
    simp only [gOf] at h ⊢
    obtain ⟨a, xs, h1, h2, h3, h4⟩ := h
    exact ⟨a, xs, h1, h2, h3, gOfs_mono q h4⟩
theorem gOfs_mono {K : PySem.W.Frag} : ∀ {ts : List Tg} {vs : List V} {σ : L2.St} {H : Hp} {Q Q' : L2.St → Hp → Prop}, (∀ σ H, Q σ H → Q' σ H) → gOfs K ts vs σ H Q → gOfs K ts vs σ H Q'
  | [], vs, σ, H, Q, Q', q, h => by
    simp only [gOfs] at h ⊢
    exact ⟨h.1, q _ _ h.2⟩
  | t :: ts, vs, σ, H, Q, Q', q, h => by
    simp only [gOfs] at h ⊢
    obtain ⟨v, r, e, h⟩ := h
    exact ⟨v, r, e, gOf_mono (fun σ H z => gOfs_mono q z) h⟩
end
/-! the target's text -/
mutual
def mTg (N : List Str) (sc : Scope) : Expr → Tg → Bool
  | .Name x _, .n i => decide (N[i]? = some x) && locB sc x
  | .Tuple es _ _, .t ts => mTgs N sc es ts
  | _, _ => false
def mTgs (N : List Str) (sc : Scope) : List Expr → List Tg → Bool
  | [], [] => true
  | e :: es, t :: ts => !isStar e && mTg N sc e t && mTgs N sc es ts
  | _, _ => false
end
theorem assign_cons {e : Expr} {es : List Expr} {env : PySem.Env} (h : isStar e = false) : assignEach (e :: es) env = (false, assign e env) :: assignEach es env := by
  cases e <;> first | rfl | (simp [isStar] at h)
section
variable {N : Nm} {ats : List At} {cf : CF} {X : Cx} {sc : Scope} {W : WX} {a b : Expr} {ea eb : E} {pos p : Pos}
mutual
theorem tg_ok (k : Kx N ats cf X sc) : ∀ {e : Expr} {tg : Tg}, mTg X.N sc e tg = true → PG X e (gOf X.K tg)
  | e, .n i, h => by
    cases e <;> first | (simp [mTg] at h; done) | skip
    rename_i x q
    simp only [mTg, Bool.and_eq_true, decide_eq_true_eq] at h
    obtain ⟨l1, l2⟩ := k.loc x h.2
    simp only [gOf]
    exact pg_name k.nd h.1 l1 l2
  | e, .t ts, h => by
    cases e <;> first | (simp [mTg] at h; done) | skip
    rename_i es j q
    simp only [mTg] at h
    obtain ⟨h1, h2, h3⟩ := tgs_ok k h
    simp only [gOf]
    exact pg_tup k.calm h1 h2 h3
theorem tgs_ok (k : Kx N ats cf X sc) : ∀ {es : List Expr} {ts : List Tg}, mTgs X.N sc es ts = true → PGs X es (gOfs X.K ts) ∧ (assignEach es X.env).length = ts.length ∧ (assignEach es X.env).findIdx? (·.1) = none
  | es, [], h => by
    cases es with
    | cons e es => simp [mTgs] at h
    | nil =>
      simp only [gOfs]
      exact ⟨pgs_nil, rfl, rfl⟩
  | es, t :: ts, h => by
    cases es with
    | nil => simp [mTgs] at h
    | cons e es =>
      simp only [mTgs, Bool.and_eq_true, Bool.not_eq_true'] at h
      obtain ⟨h1, h2, h3⟩ := tgs_ok k h.2
      have hc := assign_cons (es := es) (env := X.env) h.1.1
      simp only [gOfs]
      refine ⟨pgs_cons (tg_ok k h.1.2) h1 (by rw [hc]; rfl), by rw [hc, List.length_cons, List.length_cons, h2], ?_⟩
      rw [hc, List.findIdx?_cons, h3]
      rfl
end
end
/-! ### what is changed only through D -/
section
variable {N : Nm} {K : PySem.W.Frag} {F F1 F' : Fr} {m m1 m' : List Addr} {H H1 H' : Hp} {h h1 h' : Hv} {cf : CF} {e : Env} {σ : L2.St} {W : WX}
theorem Fill.wk0 (R1 : Rel N K F1 m1 H1 h1) {D : Addr} {acc : List Val} (f : Fill N K F1 m1 H1 D F' m' H' h' acc) : Wk F1 m1 H1 F' m' H' := f.stp.wk R1.mem
theorem wk_upd {D : Addr} {o : HO} (hD : F D) : Wk F m H F m (upd H D o) :=
  ⟨fun a u n e => ⟨by rw [upd_ne (fun z => n (by rw [z]; exact hD))]; exact e, n⟩, fun _ _ e => e⟩
theorem REnv.monoW (r : REnv N K F m H e σ) (s : Wk F m H F' m' H') : REnv N K F' m' H' e σ :=
  ⟨r.len, fun i x q => let ⟨v, h1, h2⟩ := r.at_ i x q; ⟨v, h1, RV.monoW s x v h2⟩⟩
theorem lcF_none {vs : List Nat} {tg : Tg} {elt tst : E} {x : Val} (hb : bindT h tg x (wipeE e vs) = none) : lcF (fun e h => evE cf tst e h) (fun e h => evE cf elt e h) vs tg e x h = .no := by
  unfold lcF
  rw [hb] <;> rfl
theorem lcF_some {vs : List Nat} {tg : Tg} {elt tst : E} {x : Val} {e' : Env} (hb : bindT h tg x (wipeE e vs) = some e') : lcF (fun e h => evE cf tst e h) (fun e h => evE cf elt e h) vs tg e x h = (evE cf tst e' h).bind fun b h2 => match b with
          | .bl true => (evE cf elt e' h2).bind fun y h3 => .ok (some y) h3
          | .bl false => .ok none h2
          | _ => .no := by
  unfold lcF
  rw [hb] <;> rfl
abbrev W0 : WX := fun _ _ _ _ => False
theorem lc_ok {J : L2.It} {c : Src} {tg : Tg} {elt tst : E} {vs : List Nat} (R1 : Rel N K F1 m1 H1 h1) (re : REnv N K F1 m1 H1 e σ) (it : ItOk N K F1 m1 H1 c J) (ht : tgIn vs tg = true) {r : Res Val} (hr : lcL (lcF (fun e h => evE cf tst e h) (fun e h => evE cf elt e h) vs tg e) c.2 c.1 0 h1 [] = r) (hno : r ≠ .no) {Q : VK}
    {D : Addr} (hD : H1 D = none) (hq : ∀ F' m' H' h' acc, Fill N K F1 m1 H1 D F' m' H' h' acc → r = .ok (.lst acc) h' → Q (.ref D) H') :
    ∃ W : Nat → Nat → Hp → Prop, (∃ m, W 0 m (upd H1 D (.lst []))) ∧ ∀ i m H, W i m H → (J.stop i H ∧ Q (.ref D) H) ∨ (J.go i H ∧ ∃ Nx : Hp → Prop, (∀ H', Nx H' → ∃ m', m' < m ∧ W (i + 1) m' H') ∧ ∀ x H', J.yld i H x H' →
      gOf K tg x (L2.wipe σ vs) H' fun σ2 H2 => L2.wipe σ2 vs = L2.wipe σ vs ∧ rdT N K cf tst W0 σ2 H2 fun b H3 => if b = true then rdE N K cf elt W0 σ2 H3 fun y H4 => ∃ acc, H4 D = some (.lst acc) ∧ acc.length < sizeLine ∧ Nx (upd H4 D (.lst (acc ++ [y]))) else Nx H3) := by
  refine ⟨fun i k H => ∃ F' m' h' acc, Fill N K F1 m1 H1 D F' m' H h' acc ∧ lcL (lcF (fun e h => evE cf tst e h) (fun e h => evE cf elt e h) vs tg e) c.2 k i h' acc = r, ⟨c.1, _, _, _, _, Fill.start R1 hD, hr⟩, fun i k H ⟨F', m', h', acc, f, hrr⟩ => ?_⟩
  cases k with
  | zero => simp only [lcL] at hrr; exact absurd hrr.symm hno
  | succ k =>
    have iti := it F' m' H h' (f.wk0 R1) f.rel i
    simp only [lcL] at hrr
    cases hsrc : srcAt c.2 h' i with
    | none => rw [hsrc] at hrr; exact absurd hrr.symm hno
    | some ox =>
      rw [hsrc] at hrr iti
      cases ox with
      | none => exact .inl ⟨iti, hq F' m' H h' acc f hrr.symm⟩
      | some xi =>
        obtain ⟨igo, iyl⟩ := iti
        refine .inr ⟨igo, fun H' => ∃ F' m' h' acc, Fill N K F1 m1 H1 D F' m' H' h' acc ∧ lcL (lcF (fun e h => evE cf tst e h) (fun e h => evE cf elt e h) vs tg e) c.2 k (i + 1) h' acc = r, fun H' p => ⟨k, Nat.lt_succ_self _, p⟩, fun x H' hy => ?_⟩
        obtain ⟨s1, R2, rv⟩ := iyl x H' hy
        dsimp only at hrr
        have f2 := f.step s1 R2
        have re2 : REnv N K F' m' H' (wipeE e vs) (L2.wipe σ vs) := (re.monoW (f2.wk0 R1)).wipe vs
        cases hb : bindT h' tg xi (wipeE e vs) with
        | none => rw [lcF_none hb] at hrr; exact absurd hrr.symm hno
        | some e' =>
          rw [lcF_some hb] at hrr
          refine bind_ok re2 rv hb fun σ2 re3 sb => ⟨wipe_by (σ := σ) ht sb, ?_⟩
          cases hv : evE cf tst e' h' with
          | no => rw [hv] at hrr; exact absurd hrr.symm hno
          | ex c a h2 => rw [hv] at hrr; exact absurd hrr.symm hno
          | ok b h2 =>
            rw [hv] at hrr
            dsimp only [Res.bind_ok] at hrr
            refine ⟨F', m', h', e', R2, re3, ?_⟩
            rw [hv]
            intro F2 m2 H2 v S2 R3 rv2
            have f3 := f2.step S2 R3
            have re4 := re3.mono S2 R2.mem
            cases b with
            | bl b =>
              refine ⟨b, by simpa only [RV] using rv2, ?_⟩
              cases b with
              | false =>
                rw [if_neg (by decide)]
                exact ⟨F2, m2, h2, acc, f3, hrr⟩
              | true =>
                rw [if_pos rfl]
                refine ⟨F2, m2, h2, e', R3, re4, ?_⟩
                cases he : evE cf elt e' h2 with
                | no => simp only [he, Res.bind_no] at hrr; exact absurd hrr.symm hno
                | ex c a h3 => simp only [he, Res.bind_ex] at hrr; exact absurd hrr.symm hno
                | ok z h3 =>
                  simp only [he, Res.bind_ok] at hrr
                  by_cases hl : acc.length < lim
                  · rw [if_pos hl] at hrr
                    intro F3 m3 H3 u S3 R4 rz
                    obtain ⟨ws, hw, hwl, f4⟩ := (f3.step S3 R4).add hD rz
                    exact ⟨ws, hw, sizeLt (by omega), F3, m3, h3, acc ++ [z], f4, hrr⟩
                  · rw [if_neg hl] at hrr
                    exact absurd hrr.symm hno
            | _ => exact absurd hrr.symm hno
theorem lcI_none {vs : List Nat} {tg : Tg} {elt : E} {x : Val} {acc : List Val} (hb : bindT h tg x (wipeE e vs) = none) : lcI (fun e h => evE cf elt e h) vs tg e x h acc = .no := by
  unfold lcI
  rw [hb] <;> rfl
theorem lcI_some {vs : List Nat} {tg : Tg} {elt : E} {x : Val} {acc : List Val} {e' : Env} (hb : bindT h tg x (wipeE e vs) = some e') : lcI (fun e h => evE cf elt e h) vs tg e x h acc = match evE cf elt e' h with
              | .ok z h3 => if acc.length < lim then .ok (acc ++ [z]) h3 else .no
              | _ => .no := by
  unfold lcI
  rw [hb] <;> rfl
theorem lcO_none {vs vs1 : List Nat} {tg tg1 : Tg} {it1 : Pv.It} {elt : E} {x : Val} {acc : List Val} (hb : bindT h tg x (wipeE e vs) = none) : lcO (fun e h => evI cf it1 e h) (fun e h => evE cf elt e h) vs vs1 tg tg1 e x h acc = .no := by
  unfold lcO
  rw [hb] <;> rfl
theorem lcO_some {vs vs1 : List Nat} {tg tg1 : Tg} {it1 : Pv.It} {elt : E} {x : Val} {acc : List Val} {e' : Env} (hb : bindT h tg x (wipeE e vs) = some e') : lcO (fun e h => evI cf it1 e h) (fun e h => evE cf elt e h) vs vs1 tg tg1 e x h acc = match evI cf it1 e' h with
          | .ok ys h2 => lc2L (lcI (fun e h => evE cf elt e h) vs1 tg1 e') ys.2 ys.1 0 h2 acc
          | _ => .no := by
  unfold lcO
  rw [hb] <;> rfl
theorem yes_ok {σ : L2.St} {H : Hp} {A B : Hp → Prop} (h : A H) : tYes σ H (fun b H3 => if b = true then A H3 else B H3) := by
  show (if true = true then A H else B H)
  rw [if_pos rfl]
  exact h
theorem yes_el {σ : L2.St} {H : Hp} {A B : Hp → Prop} (h : tYes σ H (fun b H3 => if b = true then A H3 else B H3)) : A H := by
  have h : (if true = true then A H else B H) := h
  rw [if_pos rfl] at h
  exact h
theorem lc2_in {J : L2.It} {F2 : Fr} {m2 : List Addr} {H2 : Hp} {h2 : Hv} {c : Src} {acc0 : List Val} {tg : Tg} {elt : E} {vs : List Nat} {D : Addr} (hD : H1 D = none) (R1 : Rel N K F1 m1 H1 h1) (f0 : Fill N K F1 m1 H1 D F2 m2 H2 h2 acc0) (re : REnv N K F2 m2 H2 e σ) (it : ItOk N K F2 m2 H2 c J) (ht : tgIn vs tg = true)
    {r : Res (List Val)} (hr : lc2L (lcI (fun e h => evE cf elt e h) vs tg e) c.2 c.1 0 h2 acc0 = r) (hno : r ≠ .no) {Nx : Hp → Prop} (hq : ∀ F' m' H' h' acc, Fill N K F1 m1 H1 D F' m' H' h' acc → Wk F2 m2 H2 F' m' H' → r = .ok acc h' → Nx H') :
    ∃ W : Nat → Nat → Hp → Prop, (∃ m, W 0 m H2) ∧ ∀ i m H, W i m H → (J.stop i H ∧ Nx H) ∨ (J.go i H ∧ ∃ Nx1 : Hp → Prop, (∀ H', Nx1 H' → ∃ m', m' < m ∧ W (i + 1) m' H') ∧ ∀ x H', J.yld i H x H' →
      gOf K tg x (L2.wipe σ vs) H' fun σ2 H2 => L2.wipe σ2 vs = L2.wipe σ vs ∧ tYes σ2 H2 fun b H3 => if b = true then rdE N K cf elt W0 σ2 H3 fun y H4 => ∃ acc, H4 D = some (.lst acc) ∧ acc.length < sizeLine ∧ Nx1 (upd H4 D (.lst (acc ++ [y]))) else Nx1 H3) := by
  refine ⟨fun i k H => ∃ F' m' h' acc, Fill N K F1 m1 H1 D F' m' H h' acc ∧ Wk F2 m2 H2 F' m' H ∧ lc2L (lcI (fun e h => evE cf elt e h) vs tg e) c.2 k i h' acc = r, ⟨c.1, _, _, _, _, f0, Wk.refl _ _ _, hr⟩, fun i k H ⟨F', m', h', acc, f, wk, hrr⟩ => ?_⟩
  cases k with
  | zero => simp only [lc2L] at hrr; exact absurd hrr.symm hno
  | succ k =>
    have iti := it F' m' H h' wk f.rel i
    simp only [lc2L] at hrr
    cases hsrc : srcAt c.2 h' i with
    | none => rw [hsrc] at hrr; exact absurd hrr.symm hno
    | some ox =>
      rw [hsrc] at hrr iti
      cases ox with
      | none => exact .inl ⟨iti, hq F' m' H h' acc f wk hrr.symm⟩
      | some xi =>
        obtain ⟨igo, iyl⟩ := iti
        refine .inr ⟨igo, fun H' => ∃ F' m' h' acc, Fill N K F1 m1 H1 D F' m' H' h' acc ∧ Wk F2 m2 H2 F' m' H' ∧ lc2L (lcI (fun e h => evE cf elt e h) vs tg e) c.2 k (i + 1) h' acc = r, fun H' p => ⟨k, Nat.lt_succ_self _, p⟩, fun x H' hy => ?_⟩
        obtain ⟨s1, R2, rv⟩ := iyl x H' hy
        dsimp only at hrr
        have f2 := f.step s1 R2
        have wk2 := wk.trans (s1.wk f.rel.mem)
        have re2 : REnv N K F' m' H' (wipeE e vs) (L2.wipe σ vs) := (re.monoW wk2).wipe vs
        cases hb : bindT h' tg xi (wipeE e vs) with
        | none => rw [lcI_none hb] at hrr; exact absurd hrr.symm hno
        | some e' =>
          rw [lcI_some hb] at hrr
          refine bind_ok re2 rv hb fun σ2 re3 sb => ⟨wipe_by (σ := σ) ht sb, ?_⟩
          refine yes_ok ?_
          refine ⟨F', m', h', e', R2, re3, ?_⟩
          cases he : evE cf elt e' h' with
          | no => rw [he] at hrr; exact absurd hrr.symm hno
          | ex c a h3 => rw [he] at hrr; exact absurd hrr.symm hno
          | ok z h3 =>
            rw [he] at hrr
            dsimp only at hrr
            by_cases hl : acc.length < lim
            · rw [if_pos hl] at hrr
              intro F3 m3 H3 u S3 R4 rz
              have f3 := f2.step S3 R4
              obtain ⟨ws, hw, hwl, f4⟩ := f3.add hD rz
              exact ⟨ws, hw, sizeLt (by omega), F3, m3, h3, acc ++ [z], f4, (wk2.trans (S3.wk R2.mem)).trans (wk_upd f3.own), hrr⟩
            · rw [if_neg hl] at hrr
              exact absurd hrr.symm hno
theorem lc2_ok {J : L2.It} {c : Src} {tg tg1 : Tg} {it1 : Pv.It} {elt : E} {vs vs1 : List Nat} (R1 : Rel N K F1 m1 H1 h1) (re : REnv N K F1 m1 H1 e σ) (it : ItOk N K F1 m1 H1 c J) (ht : tgIn vs tg = true) (ht1 : tgIn vs1 tg1 = true) {r : Res (List Val)} (hr : lc2L (lcO (fun e h => evI cf it1 e h) (fun e h => evE cf elt e h) vs vs1 tg tg1 e) c.2 c.1 0 h1 [] = r) (hno : r ≠ .no) {Q : VK}
    {D : Addr} (hD : H1 D = none) (hq : ∀ F' m' H' h' acc, Fill N K F1 m1 H1 D F' m' H' h' acc → r = .ok acc h' → Q (.ref D) H') :
    ∃ W : Nat → Nat → Hp → Prop, (∃ m, W 0 m (upd H1 D (.lst []))) ∧ ∀ i m H, W i m H → (J.stop i H ∧ Q (.ref D) H) ∨ (J.go i H ∧ ∃ Nx : Hp → Prop, (∀ H', Nx H' → ∃ m', m' < m ∧ W (i + 1) m' H') ∧ ∀ x H', J.yld i H x H' →
      gOf K tg x (L2.wipe σ vs) H' fun σ2 H2 => L2.wipe σ2 vs = L2.wipe σ vs ∧ tYes σ2 H2 fun b H3 => if b = true then rdI N K cf it1 W0 σ2 H3 (fun J1 H4 => ∃ W1 : Nat → Nat → Hp → Prop, (∃ m, W1 0 m H4) ∧ ∀ j k H, W1 j k H →
      (J1.stop j H ∧ Nx H) ∨ (J1.go j H ∧ ∃ Nx1 : Hp → Prop, (∀ H', Nx1 H' → ∃ k', k' < k ∧ W1 (j + 1) k' H') ∧ ∀ x H', J1.yld j H x H' → gOf K tg1 x (L2.wipe σ2 vs1) H' fun σ3 H5 => L2.wipe σ3 vs1 = L2.wipe σ2 vs1 ∧ tYes σ3 H5 fun b H6 =>
        if b = true then rdE N K cf elt W0 σ3 H6 fun y H7 => ∃ acc, H7 D = some (.lst acc) ∧ acc.length < sizeLine ∧ Nx1 (upd H7 D (.lst (acc ++ [y]))) else Nx1 H6)) else Nx H3) := by
  refine ⟨fun i k H => ∃ F' m' h' acc, Fill N K F1 m1 H1 D F' m' H h' acc ∧ lc2L (lcO (fun e h => evI cf it1 e h) (fun e h => evE cf elt e h) vs vs1 tg tg1 e) c.2 k i h' acc = r, ⟨c.1, _, _, _, _, Fill.start R1 hD, hr⟩, fun i k H ⟨F', m', h', acc, f, hrr⟩ => ?_⟩
  cases k with
  | zero => simp only [lc2L] at hrr; exact absurd hrr.symm hno
  | succ k =>
    have iti := it F' m' H h' (f.wk0 R1) f.rel i
    simp only [lc2L] at hrr
    cases hsrc : srcAt c.2 h' i with
    | none => rw [hsrc] at hrr; exact absurd hrr.symm hno
    | some ox =>
      rw [hsrc] at hrr iti
      cases ox with
      | none => exact .inl ⟨iti, hq F' m' H h' acc f hrr.symm⟩
      | some xi =>
        obtain ⟨igo, iyl⟩ := iti
        refine .inr ⟨igo, fun H' => ∃ F' m' h' acc, Fill N K F1 m1 H1 D F' m' H' h' acc ∧ lc2L (lcO (fun e h => evI cf it1 e h) (fun e h => evE cf elt e h) vs vs1 tg tg1 e) c.2 k (i + 1) h' acc = r, fun H' p => ⟨k, Nat.lt_succ_self _, p⟩, fun x H' hy => ?_⟩
        obtain ⟨s1, R2, rv⟩ := iyl x H' hy
        dsimp only at hrr
        have f2 := f.step s1 R2
        have re2 : REnv N K F' m' H' (wipeE e vs) (L2.wipe σ vs) := (re.monoW (f2.wk0 R1)).wipe vs
        cases hb : bindT h' tg xi (wipeE e vs) with
        | none => rw [lcO_none hb] at hrr; exact absurd hrr.symm hno
        | some e' =>
          rw [lcO_some hb] at hrr
          refine bind_ok re2 rv hb fun σ2 re3 sb => ⟨wipe_by (σ := σ) ht sb, ?_⟩
          refine yes_ok ?_
          refine ⟨F', m', h', e', R2, re3, ?_⟩
          cases he : evI cf it1 e' h' with
          | no => rw [he] at hrr; exact absurd hrr.symm hno
          | ex c a h3 => rw [he] at hrr; exact absurd hrr.symm hno
          | ok ys h3 =>
            rw [he] at hrr
            dsimp only at hrr
            intro F3 m3 H3 J1 S3 R4 it3
            have f3 := f2.step S3 R4
            have hne : lc2L (lcI (fun e h => evE cf elt e h) vs1 tg1 e') ys.2 ys.1 0 h3 acc ≠ .no := fun z => by rw [z] at hrr; exact hno hrr.symm
            refine lc2_in hD R1 f3 (re3.mono S3 R2.mem) it3 ht1 rfl hne fun F4 m4 H4 h4 acc4 f4 wk4 e4 => ?_
            rw [e4] at hrr
            exact ⟨F4, m4, h4, acc4, f4, hrr⟩
end
end Pv

/-! Ev11: rules for comprehensions. -/
set_option linter.all false
set_option Elab.async false
set_option maxRecDepth 100000
set_option maxHeartbeats 1000000
namespace Pv
open PySem PySem.Spec PyProof.Rows L2
theorem Res.assoc {α β γ : Type} (r : Res α) (f : α → Hv → Res β) (g : β → Hv → Res γ) : (r.bind f).bind g = r.bind fun x h => (f x h).bind g := by
  cases r <;> rfl
/-- a comprehension's own names -/
def ownOf (N : List Str) (vs : List Nat) : List (Str × Nat) := vs.map fun i => (N.getD i "", i)
theorem ownOf_snd {N : List Str} {vs : List Nat} : (ownOf N vs).map (·.2) = vs := by
  unfold ownOf
  rw [List.map_map]
  exact List.map_id vs
theorem takes0 {X : Cx} : Takes X W0 := fun u s' ⟨_, _, _, _, _, _, _, _, _, _, _, _, _, _, _, _, w⟩ => by exact False.elim w
section
variable {N : Nm} {ats : List At} {cf : CF} {X : Cx} {sc scope : Scope} {W : WX} {elt tgx iter tgx1 iter1 : Expr} {ifs : List Expr} {ee et : E} {it it1 : Pv.It} {tg tg1 : Tg} {vs vs1 : List Nat} {pos p : Pos}
theorem blk_ok (k : Kx N ats cf X sc) (h : blkC X.N sc scope (ownOf X.N vs) = true) : BlkOk X.N X.env.scope scope (ownOf X.N vs) := by
  have b := blkOk_by h
  exact ⟨b.kind, b.uniq, b.ix, fun y hy e => k.fre _ (b.free y hy e), b.own⟩
/-- what a comprehension's parts say -/
structure LcH (N : Nm) (cf : CF) (X : Cx) (scope : Scope) (W : WX) (elt tgx iter : Expr) (ifs : List Expr) (vs : List Nat) (ee et : E) (tg : Tg) (it : Pv.It) : Prop where
  hi : PI X tgx iter (rdI N X.K cf it W)
  ok : BlkOk X.N X.env.scope scope (ownOf X.N vs)
  hg : ∀ (s : Shared) (H : Hp) (C : Addr) (cl : List (Str × Addr)) (fp : List Addr), PG (X.blk s H scope (compEnvC scope cl C X.env) fp) tgx (gOf X.K tg)
  ht : ∀ (s : Shared) (H : Hp) (C : Addr) (cl : List (Str × Addr)) (fp : List Addr), PTs (X.blk s H scope (compEnvC scope cl C X.env) fp) ifs (rdT N X.K cf et W0)
  he : ∀ (s : Shared) (H : Hp) (C : Addr) (cl : List (Str × Addr)) (fp : List Addr), PE (X.blk s H scope (compEnvC scope cl C X.env) fp) elt (rdE N X.K cf ee W0)
  hs : ∀ x, foldedSetIterable iter X.env x = pure x
  tin : tgIn vs tg = true
abbrev tLcE (N : Nm) (K : PySem.W.Frag) (cf : CF) (W : WX) (vs : List Nat) (ee et : E) (tg : Tg) (it : Pv.It) : TE := tLc (rdI N K cf it W) (gOf K tg) (rdT N K cf et W0) (rdE N K cf ee W0) vs
theorem lc_rd {K : PySem.W.Frag} (ht : tgIn vs tg = true) : ∀ {σ H} {Q : VK}, rdE N K cf (.lc vs ee tg it et) W σ H Q → tLcE N K cf W vs ee et tg it σ H Q := fun {σ H Q} ⟨F, m, h, e, R, re, q⟩ => by
  simp only [evE] at q
  refine ⟨F, m, h, e, R, re, q.bind.imp (fun J H1 ⟨F1, m1, h1, xs, R1, S1, r1, q1⟩ => fun D hD => ?_) fun _ _ _ z => z⟩
  refine lc_ok R1 (re.mono S1 R.mem) r1 ht (r := lcL (lcF (fun e h => evE cf et e h) (fun e h => evE cf ee e h) vs tg e) xs.2 xs.1 0 h1 []) rfl (fun z => ?_) hD fun F' m' H' h' acc f z => ?_
  · rw [z] at q1
    exact q1
  · rw [z] at q1
    exact f.done_ hD R1 q1
theorem lc_rdK {K : PySem.W.Frag} {g : Bool} (ht : tgIn vs tg = true) : ∀ {σ H} {Q : VK}, rdE N K cf (.keep g (.lc vs ee tg it et)) W σ H Q → tLcE N K cf W vs ee et tg it σ H Q := fun {σ H Q} ⟨F, m, h, e, R, re, q⟩ => by
  simp only [evE] at q
  rw [Res.assoc] at q
  refine ⟨F, m, h, e, R, re, q.bind.imp (fun J H1 ⟨F1, m1, h1, xs, R1, S1, r1, q1⟩ => fun D hD => ?_) fun _ _ _ z => z⟩
  refine lc_ok R1 (re.mono S1 R.mem) r1 ht (r := lcL (lcF (fun e h => evE cf et e h) (fun e h => evE cf ee e h) vs tg e) xs.2 xs.1 0 h1 []) rfl (fun z => ?_) hD fun F' m' H' h' acc f z => ?_
  · rw [z] at q1
    exact q1
  · rw [z] at q1
    exact f.cell_ hD R1 q1
theorem s_lc0 (k : Kx N ats cf X sc) (L : LcH N cf X scope W elt tgx iter ifs vs ee et tg it) : PE X (.ListComp elt [⟨tgx, iter, ifs, 0⟩] scope pos) (tLcE N X.K cf W vs ee et tg it) := by
  have := pe_lc (pos := pos) k.calm k.nd L.hi L.ok L.hg L.ht L.he L.hs
  rw [ownOf_snd] at this
  exact this
theorem s_lc (k : Kx N ats cf X sc) (L : LcH N cf X scope W elt tgx iter ifs vs ee et tg it) : PE X (.ListComp elt [⟨tgx, iter, ifs, 0⟩] scope pos) (rdE N X.K cf (.lc vs ee tg it et) W) := PE.imp (s_lc0 k L) fun σ H Q q => lc_rd L.tin q
theorem s_lcK {g : Bool} (k : Kx N ats cf X sc) (L : LcH N cf X scope W elt tgx iter ifs vs ee et tg it) : PE X (.ListComp elt [⟨tgx, iter, ifs, 0⟩] scope pos) (rdE N X.K cf (.keep g (.lc vs ee tg it et)) W) := PE.imp (s_lc0 k L) fun σ H Q q => lc_rdK L.tin q
/-! ### two clauses -/
structure LcH2 (N : Nm) (cf : CF) (X : Cx) (scope : Scope) (W : WX) (elt tgx iter tgx1 iter1 : Expr) (vs vs1 : List Nat) (ee : E) (tg : Tg) (it : Pv.It) (tg1 : Tg) (it1 : Pv.It) : Prop where
  hi : PI X tgx iter (rdI N X.K cf it W)
  ok : BlkOk X.N X.env.scope scope (ownOf X.N vs)
  hv : ∀ i ∈ vs1, i ∈ vs
  hg : ∀ (s : Shared) (H : Hp) (C : Addr) (cl : List (Str × Addr)) (fp : List Addr), PG (X.blk s H scope (compEnvC scope cl C X.env) fp) tgx (gOf X.K tg)
  hi1 : ∀ (s : Shared) (H : Hp) (C : Addr) (cl : List (Str × Addr)) (fp : List Addr), PI (X.blk s H scope (compEnvC scope cl C X.env) fp) tgx1 iter1 (rdI N X.K cf it1 W0)
  hg1 : ∀ (s : Shared) (H : Hp) (C : Addr) (cl : List (Str × Addr)) (fp : List Addr), PG (X.blk s H scope (compEnvC scope cl C X.env) fp) tgx1 (gOf X.K tg1)
  he : ∀ (s : Shared) (H : Hp) (C : Addr) (cl : List (Str × Addr)) (fp : List Addr), PE (X.blk s H scope (compEnvC scope cl C X.env) fp) elt (rdE N X.K cf ee W0)
  hs : ∀ x, foldedSetIterable iter X.env x = pure x
  hs1 : ∀ env x, foldedSetIterable iter1 env x = pure x
  tin : tgIn vs tg = true
  tin1 : tgIn vs1 tg1 = true
abbrev tLcE2 (N : Nm) (K : PySem.W.Frag) (cf : CF) (W : WX) (vs vs1 : List Nat) (ee : E) (tg : Tg) (it : Pv.It) (tg1 : Tg) (it1 : Pv.It) : TE := tLc2 (rdI N K cf it W) (gOf K tg) tYes (rdI N K cf it1 W0) (gOf K tg1) tYes (rdE N K cf ee W0) vs vs1
theorem lc2_rd {K : PySem.W.Frag} (ht : tgIn vs tg = true) (ht1 : tgIn vs1 tg1 = true) : ∀ {σ H} {Q : VK}, rdE N K cf (.lc2 vs vs1 ee tg it tg1 it1) W σ H Q → tLcE2 N K cf W vs vs1 ee tg it tg1 it1 σ H Q := fun {σ H Q} ⟨F, m, h, e, R, re, q⟩ => by
  simp only [evE] at q
  refine ⟨F, m, h, e, R, re, q.bind.imp (fun J H1 ⟨F1, m1, h1, xs, R1, S1, r1, q1⟩ => fun D hD => ?_) fun _ _ _ z => z⟩
  have q1 : PostG N K (RV N K) F1 m1 H1 (lcEnd (lc2L (lcO (fun e h => evI cf it1 e h) (fun e h => evE cf ee e h) vs vs1 tg tg1 e) xs.2 xs.1 0 h1 [])) Q _ := q1
  refine lc2_ok R1 (re.mono S1 R.mem) r1 ht ht1 (r := lc2L (lcO (fun e h => evI cf it1 e h) (fun e h => evE cf ee e h) vs vs1 tg tg1 e) xs.2 xs.1 0 h1 []) rfl (fun z => ?_) hD fun F' m' H' h' acc f z => ?_
  · rw [z] at q1
    exact q1
  · rw [z] at q1
    exact f.done_ hD R1 q1
theorem lc2_rdK {K : PySem.W.Frag} {g : Bool} (ht : tgIn vs tg = true) (ht1 : tgIn vs1 tg1 = true) : ∀ {σ H} {Q : VK}, rdE N K cf (.keep g (.lc2 vs vs1 ee tg it tg1 it1)) W σ H Q → tLcE2 N K cf W vs vs1 ee tg it tg1 it1 σ H Q := fun {σ H Q} ⟨F, m, h, e, R, re, q⟩ => by
  simp only [evE] at q
  rw [Res.assoc] at q
  refine ⟨F, m, h, e, R, re, q.bind.imp (fun J H1 ⟨F1, m1, h1, xs, R1, S1, r1, q1⟩ => fun D hD => ?_) fun _ _ _ z => z⟩
  have q1 : PostG N K (RV N K) F1 m1 H1 ((lcEnd (lc2L (lcO (fun e h => evI cf it1 e h) (fun e h => evE cf ee e h) vs vs1 tg tg1 e) xs.2 xs.1 0 h1 [])).bind (keepR g)) Q _ := q1
  refine lc2_ok R1 (re.mono S1 R.mem) r1 ht ht1 (r := lc2L (lcO (fun e h => evI cf it1 e h) (fun e h => evE cf ee e h) vs vs1 tg tg1 e) xs.2 xs.1 0 h1 []) rfl (fun z => ?_) hD fun F' m' H' h' acc f z => ?_
  · rw [z] at q1
    exact q1
  · rw [z] at q1
    exact f.cell_ hD R1 q1
theorem s_lc20 (k : Kx N ats cf X sc) (L : LcH2 N cf X scope W elt tgx iter tgx1 iter1 vs vs1 ee tg it tg1 it1) : PE X (.ListComp elt [⟨tgx, iter, [], 0⟩, ⟨tgx1, iter1, [], 0⟩] scope pos) (tLcE2 N X.K cf W vs vs1 ee tg it tg1 it1) := by
  have := pe_lc2 (pos := pos) (vs1 := vs1) k.calm k.nd L.hi L.ok (by rw [ownOf_snd]; exact L.hv) L.hg (fun _ _ _ _ _ => pts_nil) L.hi1 L.hg1 (fun _ _ _ _ _ => pts_nil) L.he L.hs L.hs1
  rw [ownOf_snd] at this
  exact this
theorem s_lc2 (k : Kx N ats cf X sc) (L : LcH2 N cf X scope W elt tgx iter tgx1 iter1 vs vs1 ee tg it tg1 it1) : PE X (.ListComp elt [⟨tgx, iter, [], 0⟩, ⟨tgx1, iter1, [], 0⟩] scope pos) (rdE N X.K cf (.lc2 vs vs1 ee tg it tg1 it1) W) := PE.imp (s_lc20 k L) fun σ H Q q => lc2_rd L.tin L.tin1 q
theorem s_lc2K {g : Bool} (k : Kx N ats cf X sc) (L : LcH2 N cf X scope W elt tgx iter tgx1 iter1 vs vs1 ee tg it tg1 it1) : PE X (.ListComp elt [⟨tgx, iter, [], 0⟩, ⟨tgx1, iter1, [], 0⟩] scope pos) (rdE N X.K cf (.keep g (.lc2 vs vs1 ee tg it tg1 it1)) W) := PE.imp (s_lc20 k L) fun σ H Q q => lc2_rdK L.tin L.tin1 q
/-! ### name = a comprehension, on one line -/
theorem s_setLc0 {i : Nat} {y : Str} {py spos : Pos} (k : Kx N ats cf X sc) (L : LcH N cf X scope W elt tgx iter ifs vs ee et tg it) (hy : X.N[i]? = some y) (hyl : X.env.scope.names.lookup y = some .local)
    (hsw : swapsWith (.ListComp elt [⟨tgx, iter, ifs, 0⟩] scope pos) (some (.Name y py)) spos.line X.env = pure true) : PS X (.Assign [.Name y py] (.ListComp elt [⟨tgx, iter, ifs, 0⟩] scope pos) spos) (tAsg (tLcE N X.K cf W vs ee et tg it) (gName i)) := by
  have := ps_setLc (pos := pos) k.calm k.nd hy hyl hsw L.hi L.ok L.hg L.ht L.he L.hs
  rw [ownOf_snd] at this
  exact this
theorem s_setLc20 {i : Nat} {y : Str} {py spos : Pos} (k : Kx N ats cf X sc) (L : LcH2 N cf X scope W elt tgx iter tgx1 iter1 vs vs1 ee tg it tg1 it1) (hy : X.N[i]? = some y) (hyl : X.env.scope.names.lookup y = some .local)
    (hsw : swapsWith (.ListComp elt [⟨tgx, iter, [], 0⟩, ⟨tgx1, iter1, [], 0⟩] scope pos) (some (.Name y py)) spos.line X.env = pure true) : PS X (.Assign [.Name y py] (.ListComp elt [⟨tgx, iter, [], 0⟩, ⟨tgx1, iter1, [], 0⟩] scope pos) spos) (tAsg (tLcE2 N X.K cf W vs vs1 ee tg it tg1 it1) (gName i)) := by
  have := ps_setLc2 (pos := pos) (vs1 := vs1) k.calm k.nd hy hyl hsw L.hi L.ok (by rw [ownOf_snd]; exact L.hv) L.hg (fun _ _ _ _ _ => pts_nil) L.hi1 L.hg1 (fun _ _ _ _ _ => pts_nil) L.he L.hs L.hs1
  rw [ownOf_snd] at this
  exact this
end
end Pv

/-! Ev12: statements. -/
set_option linter.all false
set_option Elab.async false
set_option maxRecDepth 100000
set_option maxHeartbeats 1000000
namespace Pv
open PySem PySem.Spec PyProof.Rows L2
/-- what a statement leaves -/
def PostS (N : Nm) (K : PySem.W.Frag) (F : Fr) (m : List Addr) (H : Hp) (o : Out) (D : Ends) (W : WX) : Prop := match o with
  | .nx e h' => ∀ F' m' H' σ', Stp F m H F' m' H' → Rel N K F' m' H' h' → REnv N K F' m' H' e σ' → D.nx σ' H'
  | .rt x h' => ∀ F' m' H' v, Stp F m H F' m' H' → Rel N K F' m' H' h' → RV N K F' m' H' x v → D.rt v H'
  | .bk e h' => ∀ F' m' H' σ', Stp F m H F' m' H' → Rel N K F' m' H' h' → REnv N K F' m' H' e σ' → D.bk σ' H'
  | .ct e h' => ∀ F' m' H' σ', Stp F m H F' m' H' → Rel N K F' m' H' h' → REnv N K F' m' H' e σ' → D.ct σ' H'
  | .ex c xs e h' => ∀ F' m' H' σ' cls d, Stp F m H F' m' H' → Rel N K F' m' H' h' → REnv N K F' m' H' e σ' → RX N K F' m' H' c xs cls d → W cls d σ' H'
  | .no => False
def rdS (N : Nm) (K : PySem.W.Frag) (cf : CF) (s : S) (W : WX) : TS := fun D σ H => ∃ F m h e, Rel N K F m H h ∧ REnv N K F m H e σ ∧ PostS N K F m H (exS cf s e h) D W
def rdSs (N : Nm) (K : PySem.W.Frag) (cf : CF) (ss : List S) (W : WX) : TS := fun D σ H => ∃ F m h e, Rel N K F m H h ∧ REnv N K F m H e σ ∧ PostS N K F m H (exSs cf ss e h) D W
section
variable {N : Nm} {K : PySem.W.Frag} {F F' : Fr} {m m' : List Addr} {H H' : Hp} {h : Hv} {cf : CF} {e : Env} {σ : L2.St} {W : WX} {D D' : Ends}
theorem PostS.step {o : Out} (s : Stp F m H F' m' H') (p : PostS N K F m H o D W) : PostS N K F' m' H' o D W := by
  cases o with
  | nx e h' => exact fun F2 m2 H2 σ' t R q => p F2 m2 H2 σ' (s.trans t) R q
  | rt x h' => exact fun F2 m2 H2 v t R q => p F2 m2 H2 v (s.trans t) R q
  | bk e h' => exact fun F2 m2 H2 σ' t R q => p F2 m2 H2 σ' (s.trans t) R q
  | ct e h' => exact fun F2 m2 H2 σ' t R q => p F2 m2 H2 σ' (s.trans t) R q
  | ex c xs e h' => exact fun F2 m2 H2 σ' cls d t R q => p F2 m2 H2 σ' cls d (s.trans t) R q
  | no => exact p
theorem PostS.nx {D : Ends} (p : PostS N K F m H (.nx e h) D W) (R : Rel N K F m H h) (re : REnv N K F m H e σ) : D.nx σ H := p F m H σ (Stp.refl _ _ _) R re
/-- behind an expression's value -/
abbrev AftS (N : Nm) (K : PySem.W.Frag) {α β : Type} (rel : Fr → List Addr → Hp → α → β → Prop) (F : Fr) (m : List Addr) (H : Hp) (e : Env) (σ : L2.St) (k : α → Hv → Out) (D : Ends) (W : WX) : β → Hp → Prop :=
  fun v H1 => ∃ F1 m1 h1 x, Rel N K F1 m1 H1 h1 ∧ Stp F m H F1 m1 H1 ∧ REnv N K F1 m1 H1 e σ ∧ rel F1 m1 H1 x v ∧ PostS N K F1 m1 H1 (k x h1) D W
theorem PostS.out {α β : Type} {rel : Fr → List Addr → Hp → α → β → Prop} {r : Res α} {k : α → Hv → Out} (R : Rel N K F m H h) (re : REnv N K F m H e σ) (p : PostS N K F m H (r.out e k) D W) : PostG N K rel F m H r (AftS N K rel F m H e σ k D W) (fun c d H' => W c d σ H') := by
  cases r with
  | ok x h' => exact fun F1 m1 H1 v t R1 q => ⟨F1, m1, h', x, R1, t, re.mono t R.mem, q, PostS.step t p⟩
  | ex c xs h' => exact fun F1 m1 H1 cls d t R1 q => p F1 m1 H1 σ cls d t R1 (re.mono t R.mem) q
  | no => exact p
theorem rd_out {a : E} {k : Val → Hv → Out} (R : Rel N K F m H h) (re : REnv N K F m H e σ) (p : PostS N K F m H ((evE cf a e h).out e k) D W) : rdE N K cf a W σ H (AftS N K (RV N K) F m H e σ k D W) :=
  ⟨F, m, h, e, R, re, p.out R re⟩
theorem rds_out {as : List E} {k : List Val → Hv → Out} (R : Rel N K F m H h) (re : REnv N K F m H e σ) (p : PostS N K F m H ((evEs cf as e h).out e k) D W) : rdEs N K cf as W σ H (AftS N K (RVs N K) F m H e σ k D W) :=
  ⟨F, m, h, e, R, re, p.out R re⟩
theorem rdI_out {it : Pv.It} {k : Src → Hv → Out} (R : Rel N K F m H h) (re : REnv N K F m H e σ) (p : PostS N K F m H ((evI cf it e h).out e k) D W) : rdI N K cf it W σ H (AftS N K (ItOk N K) F m H e σ k D W) :=
  ⟨F, m, h, e, R, re, p.out R re⟩
theorem rdT_out {a : E} {k : Val → Hv → Out} (R : Rel N K F m H h) (re : REnv N K F m H e σ) (p : PostS N K F m H ((evE cf a e h).out e k) D W) (hb : ∀ x h1, (∀ b, x ≠ .bl b) → k x h1 = .no) : rdT N K cf a W σ H (fun b H1 => AftS N K (RV N K) F m H e σ k D W (.bl b) H1) :=
  ⟨F, m, h, e, R, re, (p.out (rel := RV N K) R re).imp (fun v H1 ⟨F1, m1, h1, x, R1, S1, re1, r, q1⟩ => by
    cases x with
    | bl b => exact ⟨b, by simpa only [RV] using r, F1, m1, h1, .bl b, R1, S1, re1, by simp only [RV], q1⟩
    | _ => rw [hb _ h1 (fun b z => by cases z)] at q1; exact False.elim q1) fun _ _ _ z => z⟩
end
/-- where one stands among a def's statements -/
structure Kd (N : Nm) (ats : List At) (cf : CF) (X : Cx) (sc : Scope) (W : WX) : Prop extends Kx N ats cf X sc where
  env : X.env.scope = sc
  kind : X.env.scope.kind = .function
  po : PassesOwn (model X.prog X.w) X.A X.env X.xe
  tk : Takes X W
def isTupE : Expr → Bool
  | .Tuple _ _ _ => true
  | _ => false
/-- a comprehension's value is swapped with its target -/
def swB (sc : Scope) (y : Str) (py : Pos) (scope : Scope) (pos : Pos) : Bool := (match sc.names.lookup y with
  | some .local => true
  | _ => false) && (py.line == pos.line) && !(scope.names.any fun (n, k) => n == y && (k == .local || k == .cell))
section
variable {N : Nm} {ats : List At} {cf : CF} {X : Cx} {sc scope : Scope} {W : WX} {a b c o v : Expr} {ea eb ec eo ev : E} {pos p py : Pos} {y : Str} {i : Nat} {ss : List S} {st : Stmt} {sts : List Stmt} {s : S}
theorem sw_yes (k : Kd N ats cf X sc W) {elt : Expr} {gs : List Comprehension} {l : Nat} (h : swB sc y py scope pos = true) : sc.names.lookup y = some .local ∧ swapsWith (.ListComp elt gs scope pos) (some (.Name y py)) l X.env = pure true := by
  unfold swB at h
  simp only [Bool.and_eq_true, Bool.not_eq_true'] at h
  obtain ⟨⟨h1, h2⟩, h3⟩ := h
  split at h1
  · rename_i hy
    exact ⟨hy, sw_true k.kind (by rw [k.env]; exact hy) h2 h3⟩
  · cases h1
/-! ### name = value -/
theorem d_set0 (hi : X.N[i]? = some y) (k : Kd N ats cf X sc W) (hl : locB sc y = true) (ha : PE X a (rdE N X.K cf ea W)) (hs : swapsWith a (some (.Name y py)) pos.line X.env = pure false) : PS X (.Assign [.Name y py] a pos) (rdS N X.K cf (.set i ea) W) :=
  PS.imp (ps_set k.nd hi (k.loc y hl).1 ha hs (k.loc y hl).2) fun D σ H ⟨F, m, h, e, R, re, q⟩ => by
    simp only [exS] at q
    exact rdE.imp (rd_out R re q) fun v H1 ⟨F1, m1, h1, x, R1, S1, re1, r1, q1⟩ => q1.nx R1 (re1.set r1)
theorem d_set (hi : X.N[i]? = some y) (k : Kd N ats cf X sc W) (hl : locB sc y = true) (ha : PE X a (rdE N X.K cf ea W)) (hc : isComp a = false) : PS X (.Assign [.Name y py] a pos) (rdS N X.K cf (.set i ea) W) := d_set0 hi k hl ha (swap_of hc)
theorem set_rd {te : TE} (hte : ∀ σ H Q, rdE N X.K cf ea W σ H Q → te σ H Q) (p : PS X st (tAsg te (gName i))) : PS X st (rdS N X.K cf (.set i ea) W) :=
  PS.imp p fun D σ H ⟨F, m, h, e, R, re, q⟩ => by
    simp only [exS] at q
    exact hte _ _ _ (rdE.imp (rd_out R re q) fun v H1 ⟨F1, m1, h1, x, R1, S1, re1, r1, q1⟩ => q1.nx R1 (re1.set r1))
/-! ### a, b = value -/
theorem d_unp {elts : List Expr} {kk : Nat} {tpos : Pos} {is : List Tg} (k : Kd N ats cf X sc W) (ha : PE X a (rdE N X.K cf ea W)) (ht : mTgs X.N sc elts is = true) (hc : isComp a = false) (htup : isTupE a = false) : PS X (.Assign [.Tuple elts kk tpos] a pos) (rdS N X.K cf (.unp is ea) W) := by
  obtain ⟨h1, h2, h3⟩ := tgs_ok k.toKx ht
  have hw : swappedStores [.Tuple elts kk tpos] a X.env = pure none := by
    unfold swappedStores
    cases a <;> first | rfl | (simp [isTupE] at htup)
  have hsw : swapsWithSole [.Tuple elts kk tpos] a pos.line X.env = pure false := by
    unfold swapsWithSole
    exact swap_of hc
  exact PS.imp (ps_asg ha (pg_tup k.calm h1 h2 h3) hsw hw) fun D σ H ⟨F, m, h, e, R, re, q⟩ => by
    simp only [exS] at q
    refine rdE.imp (rd_out R re q) fun v H1 ⟨F1, m1, h1, x, R1, S1, re1, r1, q1⟩ => ?_
    dsimp only at q1
    split at q1
    · rename_i e1 hb
      have := bind_ok (K := X.K) (tg := .t is) (Q := D.nx) re1 r1 hb fun σ' re' _ => q1.nx R1 re'
      simpa only [gOf] using this
    · exact False.elim q1
/-! ### name op= value -/
theorem d_aug {op : Bop} (hop : op = .add ∨ op = .sub) (hi : X.N[i]? = some y) (k : Kd N ats cf X sc W) (hl : locB sc y = true) (ha : PE X a (rdE N X.K cf ea W)) : PS X (.AugAssign (.Name y py) (bopOf op) a pos) (rdS N X.K cf (.aug i op ea) W) := by
  have core : ∀ (f : Int → Int → Int), PIp X (bopOf op) (ipI f) → (∀ (x : Int) (z : Val) (w : Int), augV op x z = some w → ∃ j, z = .int j ∧ w = f x j) → PS X (.AugAssign (.Name y py) (bopOf op) a pos) (rdS N X.K cf (.aug i op ea) W) := fun f hp hf =>
    PS.imp (ps_aug k.nd hi (k.loc y hl).1 ha hp (k.loc y hl).2) fun D σ H ⟨F, m, h, e, R, re, q⟩ => by
      simp only [exS] at q
      split at q
      · rename_i x hx
        obtain ⟨u, hu, ru⟩ := re.at_ i _ hx
        simp only [RV] at ru
        subst ru
        refine ⟨_, hu, rdE.imp (rd_out R re q) fun v H1 ⟨F1, m1, h1, z, R1, S1, re1, r1, q1⟩ => ?_⟩
        dsimp only at q1
        split at q1
        · rename_i w hw
          obtain ⟨j, rfl, rfl⟩ := hf x z w hw
          simp only [RV] at r1
          exact ⟨x, j, rfl, r1, q1.nx R1 (re1.set (by simp only [RV]))⟩
        · exact False.elim q1
      · exact False.elim q
  have hinv : ∀ (f : Int → Int → Int) (x : Int) (z : Val) (w : Int), (op = .add → f = fun i j => i + j) → (op = .sub → f = fun i j => i - j) → augV op x z = some w → ∃ j, z = .int j ∧ w = f x j := fun f x z w h1 h2 h => by
    unfold augV at h
    split at h
    · cases h; rw [h1 rfl]; exact ⟨_, rfl, rfl⟩
    · cases h; rw [h2 rfl]; exact ⟨_, rfl, rfl⟩
    · cases h
  rcases hop with rfl | rfl
  · exact core (fun i j => i + j) ip_add fun x z w => hinv _ x z w (fun _ => rfl) (fun h => by cases h)
  · exact core (fun i j => i - j) ip_sub fun x z w => hinv _ x z w (fun h => by cases h) (fun _ => rfl)
/-! ### o[i] = value -/
theorem set_V : PSet X (rSetV N X.K) := by
  intro pins s σ H o i v ov iv u Q I ro ri rv ⟨F, m, h, x, k, y, R, rx, rk, ry, h', hs, q⟩
  unfold setV at hs
  split at hs
  · rename_i n k
    split at hs
    · rename_i f xs hc
      split at hs
      · rename_i j hj
        cases hs
        simp only [RV] at rx rk
        obtain ⟨a, ha, rfl⟩ := rx
        subst rk
        obtain ⟨vs, h1, h2⟩ := R.cell n _ a hc ha
        have S := stp_set (o := .lst (vs.set j v)) R ha
        exact set_list pins s σ H _ _ _ ov iv u Q I ro ri rv ⟨a, vs, k, j, rfl, rfl, h1, by rw [← h2.length]; exact hj, q F m _ S (rel_set R ha ⟨_, upd_same, RVs.mono S R.mem _ _ (RVs.set j ry h2)⟩)⟩
      · cases hs
    · cases hs
  · cases hs
theorem d_seti (k : Kd N ats cf X sc W) (hv : PE X v (rdE N X.K cf ev W)) (ho : PE X o (rdE N X.K cf eo W)) (hi : PE X b (rdE N X.K cf eb W)) (hs : isSlice b = false) (hc : isComp v = false) : PS X (.Assign [.Subscript o b p] v pos) (rdS N X.K cf (.seti eo eb ev) W) := by
  have hw : swappedStores [.Subscript o b p] v X.env = pure none := by
    unfold swappedStores
    cases v <;> rfl
  have hsw : swapsWithSole [.Subscript o b p] v pos.line X.env = pure false := by
    unfold swapsWithSole
    exact swap_of hc
  refine PS.imp (ps_asg hv (pg_sub ho hi (set_V (N := N)) ?_) hsw hw) fun D σ H ⟨F, m, h, e, R, re, q⟩ => ?_
  · intro v
    cases b <;> first | rfl | (simp [isSlice] at hs)
  · simp only [exS] at q
    refine rdE.imp (rd_out R re q) fun v H1 ⟨F1, m1, h1, y, R1, S1, re1, r1, q1⟩ => rdE.imp (rd_out R1 re1 q1) fun v2 H2 ⟨F2, m2, h2, x, R2, S2, re2, r2, q2⟩ => rdE.imp (rd_out R2 re2 q2) fun v3 H3 ⟨F3, m3, h3, z, R3, S3, re3, r3, q3⟩ => ?_
    dsimp only at q3
    split at q3
    · rename_i h4 hs
      exact ⟨F3, m3, h3, x, z, y, R3, RV.mono S3 R2.mem _ _ r2, r3, RV.mono S3 R2.mem _ _ (RV.mono S2 R1.mem _ _ r1), h4, hs, fun F' m' H' t R' => q3 F' m' H' σ t R' (re3.mono t R3.mem)⟩
    · exact False.elim q3
/-! ### o.f = value -/
theorem putF_V {F : Fr} {m : List Addr} {K : PySem.W.Frag} {f : Nat} {x : Val} {w : V} {H : Hp} (rw : RV N K F m H x w) : ∀ {ks : List Nat} {xs : List Val} {vs : List V}, RVs N K F m H xs vs → ks.length = xs.length →
    ∃ ws, putF (N.fld f) w (zipF N ks vs) = zipF N (putK ks xs f x).1 ws ∧ RVs N K F m H (putK ks xs f x).2 ws ∧ (putK ks xs f x).1.length = (putK ks xs f x).2.length
  | [], xs, vs, r, hl => by
    have : xs = [] := List.eq_nil_of_length_eq_zero hl.symm
    subst this
    simp only [RVs] at r
    subst r
    exact ⟨[w], rfl, .cons rw .nil, rfl⟩
  | k :: ks, [], vs, r, hl => by simp at hl
  | k :: ks, x' :: xs, vs, r, hl => by
    simp only [RVs] at r
    obtain ⟨v, r', rfl, r1, r2⟩ := r
    show ∃ ws, putF (N.fld f) w ((N.fld k, v) :: zipF N ks r') = _ ∧ _
    by_cases hk : k = f
    · subst hk
      refine ⟨w :: r', ?_, ?_, ?_⟩
      · simp only [putK, if_pos, putF, beq_self_eq_true, if_true]
        rfl
      · simp only [putK, if_pos]
        exact .cons rw r2
      · simp only [putK, if_pos, List.length_cons] at hl ⊢
        exact hl
    · obtain ⟨ws, h1, h2, h3⟩ := putF_V (f := f) rw r2 (ks := ks) (by simpa using hl)
      have hne : (N.fld k == N.fld f) = false := beq_eq_false_iff_ne.mpr fun z => hk (N.finj _ _ z)
      refine ⟨v :: ws, ?_, ?_, ?_⟩
      · have hne : ¬ (N.fld k = N.fld f) := fun z => hk (N.finj _ _ z)
        simp only [putK, if_neg hk, putF, if_neg hne, h1]
        rfl
      · simp only [putK, if_neg hk]
        exact .cons r1 h2
      · simp only [putK, if_neg hk, List.length_cons, h3]
/-- a field is written -/
theorem setf_ok (T : Tx N X.K X.mg) {F : Fr} {m : List Addr} {H : Hp} {h h' : Hv} {x z : Val} {u w : V} {f : Nat} (hf : f < N.nF) (R : Rel N X.K F m H h) (r : RV N X.K F m H x u) (rw : RV N X.K F m H z w) (e : setfV h x f z = some h') :
    ∃ a C dx fs, u = .ref a ∧ H a = some (.ins C dx fs) ∧ Cls X.K C ∧ NoAttr X.K C (N.fld f) ∧ fs.length < 1000 ∧ ∀ F0 : Unit, Stp F m H F m (upd H a (.ins C dx (putF (N.fld f) w fs))) ∧ Rel N X.K F m (upd H a (.ins C dx (putF (N.fld f) w fs))) h' := by
  unfold setfV at e
  split at e
  · rename_i n
    split at e
    · rename_i g c ks vs hc
      split at e
      · rename_i hl
        cases e
        simp only [RV] at r
        obtain ⟨a, ha, rfl⟩ := r
        obtain ⟨dx, ws, h1, h2, h3, h4⟩ := R.cell n _ a hc ha
        refine ⟨a, _, dx, _, rfl, h1, T.cls c h4, T.noat c f h4 hf, ?_, fun _ => ?_⟩
        · unfold zipF
          rw [List.length_zip, List.length_map]
          omega
        · have S := stp_set (o := .ins (He.ga X.K (N.cls c)) dx (putF (N.fld f) w (zipF N ks ws))) R ha
          obtain ⟨us, p1, p2, p3⟩ := putF_V (f := f) rw h2 h3
          refine ⟨S, rel_set R ha ⟨dx, us, ?_, RVs.mono S R.mem _ _ p2, p3, h4⟩⟩
          rw [upd_same, p1]
      · cases e
    · cases e
  · cases e
theorem d_setf {f : Nat} (k : Kd N ats cf X sc W) (hf : f < N.nF) (hv : PE X v (rdE N X.K cf ev W)) (ho : PE X o (rdE N X.K cf eo W)) : PS X (.Assign [.Attribute o (N.fld f) p] v pos) (rdS N X.K cf (.setf eo f ev) W) := by
  have hs : swapsWith v (some (.Attribute o (N.fld f) p)) pos.line X.env = pure false := by
    unfold swapsWith
    cases v <;> rfl
  refine PS.imp (ps_fld ho hv hs) fun D σ H ⟨F, m, h, e, R, re, q⟩ => ?_
  simp only [exS] at q
  refine rdE.imp (rd_out R re q) fun v H1 ⟨F1, m1, h1, y, R1, S1, re1, r1, q1⟩ => rdE.imp (rd_out R1 re1 q1) fun v2 H2 ⟨F2, m2, h2, x, R2, S2, re2, r2, q2⟩ => ?_
  dsimp only at q2
  split at q2
  · rename_i h3 hs
    obtain ⟨a, C, dx, fs, p1, p2, p3, p4, p5, p6⟩ := setf_ok k.tx hf R2 r2 (RV.mono S2 R1.mem _ _ r1) hs
    obtain ⟨p7, p8⟩ := p6 ()
    exact ⟨a, C, dx, fs, p1, p2, p3, p4, p5, q2 F2 m2 _ σ p7 p8 (re2.mono p7 R2.mem)⟩
  · exact False.elim q2
theorem d_augf {f : Nat} (k : Kd N ats cf X sc W) (hf : f < N.nF) (ho : PE X o (rdE N X.K cf eo W)) (hv : PE X v (rdE N X.K cf ev W)) : PS X (.AugAssign (.Attribute o (N.fld f) p) .Add v pos) (rdS N X.K cf (.augf eo f ev) W) := by
  refine PS.imp (ps_fldaug ho hv in_add) fun D σ H ⟨F, m, h, e, R, re, q⟩ => ?_
  simp only [exS] at q
  refine rdE.imp (rd_out R re q) fun v H1 ⟨F1, m1, h1, x, R1, S1, re1, r1, q1⟩ => ?_
  dsimp only at q1
  split at q1
  · rename_i i hx
    obtain ⟨a, C, dx, fs, w, g1, g2, g3, g4, g5, g6⟩ := fld_ok k.tx hf R1 r1 hx
    simp only [RV] at g6
    subst g6
    refine ⟨a, C, dx, fs, _, g1, g2, g3, g4, g5, rdE.imp (rd_out R1 re1 q1) fun v2 H2 ⟨F2, m2, h2, y, R2, S2, re2, r2, q2⟩ => ?_⟩
    dsimp only at q2
    split at q2
    · rename_i j
      split at q2
      · rename_i hcl
        split at q2
        · rename_i h3 hs
          simp only [RV] at r2
          refine ⟨i, j, rfl, r2, ?_⟩
          obtain ⟨a', C', dx', fs', p1, p2, p3, p4, p5, p6⟩ := setf_ok k.tx hf R2 (RV.mono S2 R1.mem _ _ r1) (show RV N X.K F2 m2 H2 (.int (i + j)) (.int (i + j)) by simp only [RV]) hs
          obtain ⟨p7, p8⟩ := p6 ()
          rw [g1] at p1
          cases p1
          have hcx : ∃ c, clsV h1 x = some c := by
            unfold setfV at hs
            split at hs
            · rename_i n
              split at hs
              · rename_i g c ks vs hc
                exact ⟨c, hcl.trans (by simp only [clsV, hc])⟩
              · cases hs
            · cases hs
          obtain ⟨c, hcx⟩ := hcx
          obtain ⟨b1, d1, ks1, vs1, z1, z2, z3⟩ := cls_at R1 r1 hcx
          obtain ⟨b2, d2, ks2, vs2, y1, y2, y3⟩ := cls_at R2 (RV.mono S2 R1.mem _ _ r1) (hcl ▸ hcx)
          rw [g1] at z1 y1
          cases z1
          cases y1
          rw [g2] at z3
          rw [p2] at y3
          cases z3
          cases y3
          exact ⟨_, _, p2, p5, q2 F2 m2 _ σ p7 p8 (re2.mono p7 R2.mem)⟩
        · exact False.elim q2
      · exact False.elim q2
    · exact False.elim q2
  · exact False.elim q1
end
end Pv

/-! Ev13: more statements: blocks, loops. -/
set_option linter.all false
set_option Elab.async false
set_option maxRecDepth 100000
set_option maxHeartbeats 1000000
namespace Pv
open PySem PySem.Spec PyProof.Rows L2
section
variable {N : Nm} {ats : List At} {cf : CF} {X : Cx} {sc scope : Scope} {W : WX} {a b c o v : Expr} {ea eb ec eo ev : E} {pos p py : Pos} {y : Str} {i : Nat} {ss : List S} {st : Stmt} {sts : List Stmt} {s : S}
/-! ### name = a comprehension -/
theorem d_setLc {elt tgx iter : Expr} {ifs : List Expr} {vs : List Nat} {ee et : E} {tg : Tg} {it : Pv.It} {e0 : E} (k : Kd N ats cf X sc W) (hi : X.N[i]? = some y) (hl : locB sc y = true) (L : LcH N cf X scope W elt tgx iter ifs vs ee et tg it) (he : e0 = .lc vs ee tg it et ∨ ∃ g, e0 = .keep g (.lc vs ee tg it et))
    (hb : swB sc y py scope p = true) : PS X (.Assign [.Name y py] (.ListComp elt [⟨tgx, iter, ifs, 0⟩] scope p) pos) (rdS N X.K cf (.set i e0) W) := by
  obtain ⟨h1, h2⟩ := sw_yes (l := pos.line) (elt := elt) (gs := [⟨tgx, iter, ifs, 0⟩]) k hb
  refine set_rd (fun σ H Q q => ?_) (s_setLc0 k.toKx L hi (k.lcl y h1) h2)
  rcases he with rfl | ⟨g, rfl⟩
  · exact lc_rd L.tin q
  · exact lc_rdK L.tin q
theorem d_setLc2 {elt tgx iter tgx1 iter1 : Expr} {vs vs1 : List Nat} {ee : E} {tg tg1 : Tg} {it it1 : Pv.It} {e0 : E} (k : Kd N ats cf X sc W) (hi : X.N[i]? = some y) (hl : locB sc y = true) (L : LcH2 N cf X scope W elt tgx iter tgx1 iter1 vs vs1 ee tg it tg1 it1) (he : e0 = .lc2 vs vs1 ee tg it tg1 it1 ∨ ∃ g, e0 = .keep g (.lc2 vs vs1 ee tg it tg1 it1))
    (hb : swB sc y py scope p = true) : PS X (.Assign [.Name y py] (.ListComp elt [⟨tgx, iter, [], 0⟩, ⟨tgx1, iter1, [], 0⟩] scope p) pos) (rdS N X.K cf (.set i e0) W) := by
  obtain ⟨h1, h2⟩ := sw_yes (l := pos.line) (elt := elt) (gs := [⟨tgx, iter, [], 0⟩, ⟨tgx1, iter1, [], 0⟩]) k hb
  refine set_rd (fun σ H Q q => ?_) (s_setLc20 k.toKx L hi (k.lcl y h1) h2)
  rcases he with rfl | ⟨g, rfl⟩
  · exact lc2_rd L.tin L.tin1 q
  · exact lc2_rdK L.tin L.tin1 q
/-! ### small statements -/
theorem d_expr (ha : PE X a (rdE N X.K cf ea W)) (hc : isComp a = false) : PS X (.Expr a pos) (rdS N X.K cf (.expr ea) W) :=
  PS.imp (ps_expr ha (swap_of hc)) fun D σ H ⟨F, m, h, e, R, re, q⟩ => by
    simp only [exS] at q
    exact rdE.imp (rd_out R re q) fun v H1 ⟨F1, m1, h1, x, R1, S1, re1, r1, q1⟩ => q1.nx R1 re1
theorem d_ret (ha : PE X a (rdE N X.K cf ea W)) : PS X (.Return (some a) pos) (rdS N X.K cf (.ret ea) W) :=
  PS.imp (ps_ret ha) fun D σ H ⟨F, m, h, e, R, re, q⟩ => by
    simp only [exS] at q
    exact rdE.imp (rd_out R re q) fun v H1 ⟨F1, m1, h1, x, R1, S1, re1, r1, q1⟩ => q1 F1 m1 H1 v (Stp.refl _ _ _) R1 r1
theorem d_retN : PS X (.Return none pos) (rdS N X.K cf .retN W) :=
  PS.imp ps_retN fun D σ H ⟨F, m, h, e, R, re, q⟩ => by
    simp only [exS] at q
    exact q F m H .non (Stp.refl _ _ _) R (by simp only [RV])
theorem d_pass : PS X (.Pass pos) (rdS N X.K cf .pass W) :=
  PS.imp ps_pass fun D σ H ⟨F, m, h, e, R, re, q⟩ => by
    simp only [exS] at q
    exact q.nx R re
theorem d_brk : PS X (.Break pos) (rdS N X.K cf .brk W) :=
  PS.imp ps_break fun D σ H ⟨F, m, h, e, R, re, q⟩ => by
    simp only [exS] at q
    exact q F m H σ (Stp.refl _ _ _) R re
theorem d_cont : PS X (.Continue pos) (rdS N X.K cf .cont W) :=
  PS.imp ps_continue fun D σ H ⟨F, m, h, e, R, re, q⟩ => by
    simp only [exS] at q
    exact q F m H σ (Stp.refl _ _ _) R re
/-! ### blocks -/
theorem d_nil : PSs X [] (rdSs N X.K cf [] W) :=
  PSs.imp pss_nil fun D σ H ⟨F, m, h, e, R, re, q⟩ => by
    simp only [exSs] at q
    exact q.nx R re
theorem PostS.seq {K : PySem.W.Frag} {F : Fr} {m : List Addr} {H : Hp} {D : Ends} {r : Out} {k : Env → Hv → Out} (p : PostS N K F m H (match r with
    | .nx e1 h1 => k e1 h1
    | o => o) D W) : PostS N K F m H r { D with nx := fun σ H' => ∃ F1 m1 h1 e1, Rel N K F1 m1 H' h1 ∧ REnv N K F1 m1 H' e1 σ ∧ Stp F m H F1 m1 H' ∧ PostS N K F1 m1 H' (k e1 h1) D W } W := by
  cases r with
  | nx e1 h1 => exact fun F1 m1 H1 σ' t R re => ⟨F1, m1, h1, e1, R, re, t, PostS.step t p⟩
  | rt x h' => exact p
  | bk e h' => exact p
  | ct e h' => exact p
  | ex c xs e h' => exact p
  | no => exact p
theorem d_cons (h1 : PS X st (rdS N X.K cf s W)) (h2 : PSs X sts (rdSs N X.K cf ss W)) : PSs X (st :: sts) (rdSs N X.K cf (s :: ss) W) :=
  PSs.imp (pss_cons h1 h2) fun D σ H ⟨F, m, h, e, R, re, q⟩ => by
    simp only [exSs] at q
    have q := PostS.seq (k := fun e1 h1 => exSs cf ss e1 h1) q
    refine ⟨F, m, h, e, R, re, ?_⟩
    cases hr : exS cf s e h with
    | nx e1 h1 =>
      rw [hr] at q
      intro F' m' H' σ' t R' re'
      obtain ⟨F1, m1, h2, e2, R2, re2, _, q2⟩ := q F' m' H' σ' t R' re'
      exact ⟨F1, m1, h2, e2, R2, re2, q2⟩
    | rt x h' => rw [hr] at q; exact q
    | bk e h' => rw [hr] at q; exact q
    | ct e h' => rw [hr] at q; exact q
    | ex c xs e h' => rw [hr] at q; exact q
    | no => rw [hr] at q; exact q
/-! ### if -/
theorem d_ifs {as bs : List Stmt} {sa sb : List S} (hc : PT X c (rdT N X.K cf ec W)) (ha : PSs X as (rdSs N X.K cf sa W)) (hb : PSs X bs (rdSs N X.K cf sb W)) : PS X (.If c as bs pos) (rdS N X.K cf (.ifs ec sa sb) W) :=
  PS.imp (ps_if hc ha hb) fun D σ H ⟨F, m, h, e, R, re, q⟩ => by
    simp only [exS] at q
    refine rdT.imp (rdT_out R re q fun x h1 hb => by cases x <;> first | rfl | exact absurd rfl (hb _)) fun t H1 ⟨F1, m1, h1, x, R1, S1, re1, r1, q1⟩ => ?_
    cases x with
    | bl b' =>
      simp only [RV] at r1
      cases r1
      cases t with
      | true => rw [if_pos rfl]; exact ⟨F1, m1, h1, e, R1, re1, q1⟩
      | false => rw [if_neg (by decide)]; exact ⟨F1, m1, h1, e, R1, re1, q1⟩
    | _ => exact False.elim q1
/-! ### for -/
theorem PostS.loop {K : PySem.W.Frag} {F : Fr} {m : List Addr} {H : Hp} {D : Ends} {r : Out} {k : Env → Hv → Out} (p : PostS N K F m H (match r with
    | .nx e2 h2 => k e2 h2
    | .ct e2 h2 => k e2 h2
    | .bk e2 h2 => .nx e2 h2
    | o => o) D W) {Nx : L2.St → Hp → Prop} (hn : ∀ F1 m1 H' h1 e1 σ, Rel N K F1 m1 H' h1 → REnv N K F1 m1 H' e1 σ → PostS N K F1 m1 H' (k e1 h1) D W → Stp F m H F1 m1 H' → Nx σ H') : PostS N K F m H r { D with nx := Nx, ct := Nx, bk := D.nx } W := by
  cases r with
  | nx e1 h1 => exact fun F1 m1 H1 σ' t R re => hn F1 m1 H1 h1 e1 σ' R re (PostS.step t p) t
  | rt x h' => exact p
  | bk e h' => exact p
  | ct e1 h1 => exact fun F1 m1 H1 σ' t R re => hn F1 m1 H1 h1 e1 σ' R re (PostS.step t p) t
  | ex c xs e h' => exact p
  | no => exact p
theorem d_for {tgx iter : Expr} {tg : Tg} {it : Pv.It} {body : List Stmt} (k : Kd N ats cf X sc W) (hi : PI X tgx iter (rdI N X.K cf it W)) (ht : mTg X.N sc tgx tg = true) (hb : PSs X body (rdSs N X.K cf ss W)) (hs : isSet iter = false) : PS X (.For tgx iter body [] pos) (rdS N X.K cf (.for_ tg it ss) W) :=
  PS.imp (ps_for k.po k.calm hi (tg_ok k.toKx ht) hb (fold_of hs)) fun D σ H ⟨F, m, h, e, R, re, q⟩ => by
    simp only [exS] at q
    obtain ⟨F', m', h', e', R', re', q'⟩ := rdI_out R re q
    refine ⟨F', m', h', e', R', re', q'.imp (fun J H1 ⟨F1, m1, h1, src, R1, S1, re1, it1, q1⟩ => ?_) fun _ _ _ z => z⟩
    refine ⟨fun i k σ H => ∃ F2 m2 h2 e2, Rel N X.K F2 m2 H h2 ∧ REnv N X.K F2 m2 H e2 σ ∧ Wk F1 m1 H1 F2 m2 H ∧ PostS N X.K F2 m2 H (forL (fun x e h => bindT h tg x e) (fun e h => exSs cf ss e h) src.2 k i e2 h2) D W, ⟨src.1, F1, m1, h1, e, R1, re1, Wk.refl _ _ _, q1⟩, fun i k σ H ⟨F2, m2, h2, e2, R2, re2, wk, q2⟩ => ?_⟩
    cases k with
    | zero => simp only [forL] at q2; exact False.elim q2
    | succ k =>
      have iti := it1 F2 m2 H h2 wk R2 i
      simp only [forL] at q2
      cases hsrc : srcAt src.2 h2 i with
      | none => rw [hsrc] at q2; exact False.elim q2
      | some ox =>
        rw [hsrc] at q2 iti
        cases ox with
        | none => exact .inl ⟨iti, q2.nx R2 re2⟩
        | some xi =>
          obtain ⟨igo, iyl⟩ := iti
          refine .inr ⟨igo, fun σ H' => ∃ F2 m2 h2 e2, Rel N X.K F2 m2 H' h2 ∧ REnv N X.K F2 m2 H' e2 σ ∧ Wk F1 m1 H1 F2 m2 H' ∧ PostS N X.K F2 m2 H' (forL (fun x e h => bindT h tg x e) (fun e h => exSs cf ss e h) src.2 k (i + 1) e2 h2) D W, fun σ' H' p => ⟨k, Nat.lt_succ_self _, p⟩, fun x H' hy => ?_⟩
          obtain ⟨s1, R3, rv⟩ := iyl x H' hy
          have q3 := PostS.step s1 q2
          have re3 := re2.mono s1 R2.mem
          dsimp only at q3
          cases hb : bindT h2 tg xi e2 with
          | none => rw [hb] at q3; exact False.elim q3
          | some e3 =>
            rw [hb] at q3
            dsimp only at q3
            refine bind_ok re3 rv hb fun σ2 re4 _ => ⟨F2, m2, h2, e3, R3, re4, ?_⟩
            exact PostS.loop (k := fun e2 h2 => forL (fun x e h => bindT h tg x e) (fun e h => exSs cf ss e h) src.2 k (i + 1) e2 h2) q3 fun F4 m4 H4 h4 e4 σ4 R4 re5 q4 S4 => ⟨F4, m4, h4, e4, R4, re5, (wk.trans (s1.wk R2.mem)).trans (S4.wk R3.mem), q4⟩
/-! ### while -/
theorem d_while {body : List Stmt} (k : Kd N ats cf X sc W) (hc : PT X c (rdT N X.K cf ec W)) (hb : PSs X body (rdSs N X.K cf ss W)) : PS X (.While c body [] pos) (rdS N X.K cf (.while_ ec ss) W) :=
  PS.imp (ps_while k.po hc hb) fun D σ H ⟨F, m, h, e, R, re, q⟩ => by
    simp only [exS] at q
    refine ⟨fun k σ H => ∃ F2 m2 h2 e2, Rel N X.K F2 m2 H h2 ∧ REnv N X.K F2 m2 H e2 σ ∧ PostS N X.K F2 m2 H (whileL (fun e h => evE cf ec e h) (fun e h => exSs cf ss e h) k e2 h2) D W, ⟨wturns, F, m, h, e, R, re, q⟩, fun k σ H ⟨F2, m2, h2, e2, R2, re2, q2⟩ => ?_⟩
    cases k with
    | zero => simp only [whileL] at q2; exact False.elim q2
    | succ k =>
      simp only [whileL] at q2
      refine rdT.imp (rdT_out R2 re2 q2 fun x h1 hb => by cases x <;> first | rfl | exact absurd rfl (hb _)) fun t H1 ⟨F1, m1, h1, x, R1, S1, re1, r1, q1⟩ => ?_
      cases x with
      | bl b' =>
        simp only [RV] at r1
        cases r1
        cases t with
        | false => rw [if_neg (by decide)]; exact q1.nx R1 re1
        | true =>
          rw [if_pos rfl]
          refine ⟨fun σ H => ∃ F2 m2 h2 e2, Rel N X.K F2 m2 H h2 ∧ REnv N X.K F2 m2 H e2 σ ∧ PostS N X.K F2 m2 H (whileL (fun e h => evE cf ec e h) (fun e h => exSs cf ss e h) k e2 h2) D W, fun σ' H' p => ⟨k, Nat.lt_succ_self _, p⟩, F1, m1, h1, e2, R1, re1, ?_⟩
          exact PostS.loop (k := fun e2 h2 => whileL (fun e h => evE cf ec e h) (fun e h => exSs cf ss e h) k e2 h2) q1 fun F4 m4 H4 h4 e4 σ4 R4 re5 q4 S4 => ⟨F4, m4, h4, e4, R4, re5, q4⟩
      | _ => exact False.elim q1
end
end Pv

/-! Ev14: the text against its compact form. -/
set_option linter.all false
set_option Elab.async false
set_option maxRecDepth 100000
set_option maxHeartbeats 4000000
namespace Pv
open PySem PySem.Spec PyProof.Rows L2
/-! ### matching -/
def cstB : Cst → Const → Bool
  | .non, .none => true
  | .bl b, .bool c => b == c
  | .int i, .int j => decide (i = j)
  | .str s, .str t => decide (s = t)
  | _, _ => false
def isNonE : E → Bool
  | .con .non => true
  | _ => false
def isYes : E → Bool
  | .con (.bl true) => true
  | _ => false
def okNm (x : Str) : Bool := !(x == ("__debug__" : Str)) && !(x == ("__classdict__" : Str))
def bm0B : Bm → Bool
  | .pop => true | .reverse => true | .clear => true
  | _ => false
def tnB (N : Nm) (sc : Scope) : Tn → Str → Bool
  | .own c, y => decide (c < N.nC) && decide (y = N.cls c) && glB sc y && okNm y
  | t, y => decide (y = Str.ofString t.nm) && glB sc y
/-- no attribute has the method's name -/
def noFld (N : Nm) (m : Str) : Bool := (List.range N.nF).all fun i => !decide (N.fld i = m)
section
variable (N : Nm) (ats : List At) (ns : List Str)
mutual
/-- t: as a test -/
def mE (t : Bool) : E → Scope → Expr → Bool
  | .dead, _, _ => true
  | .var i, sc, x => (match x with
    | .Name y _ => decide (ns[i]? = some y) && visB sc y && okNm y
    | _ => false)
  | .con c, sc, x => (match x with
    | .Constant k _ _ => cstB c k
    | _ => false)
  | .bin op a b, sc, x => (match x with
    | .BinOp u o v _ => decide (o = bopOf op) && mE false a sc u && mE false b sc v
    | _ => false)
  | .cmp op a b, sc, x => (match x with
    | .Compare u [o] [v] _ => decide (o = copOf op) && !isSet v && mE false a sc u && mE false b sc v
    | _ => false)
  | .chain op op' a b c, sc, x => (match x with
    | .Compare u [o, o'] [v, w] _ => decide (o = copOf op) && decide (o' = copOf op') && !isSet w && mE false a sc u && mE false b sc v && mE false c sc w
    | _ => false)
  | .bop f es, sc, x => (match x with
    | .BoolOp o xs _ => (match o with
      | .And => f
      | .Or => !f) && !xs.isEmpty && noStar xs && mEs t es sc xs
    | _ => false)
  | .not a, sc, x => (match x with
    | .UnaryOp .Not u _ => mE t a sc u
    | _ => false)
  | .neg a, sc, x => (match x with
    | .UnaryOp .USub u _ => mE false a sc u
    | _ => false)
  | .ite c a b, sc, x => (match x with
    | .IfExp u v w _ => !t && mE true c sc u && mE false a sc v && mE false b sc w
    | _ => false)
  | .lst es, sc, x => (match x with
    | .List xs _ => mEs false es sc xs
    | _ => false)
  | .tup es, sc, x => (match x with
    | .Tuple xs _ _ => mEs false es sc xs
    | _ => false)
  | .star a, sc, x => (match x with
    | .Starred u _ => !t && mE false a sc u
    | _ => false)
  | .dct0, sc, x => (match x with
    | .Dict [] [] _ => true
    | _ => false)
  | .keep _ a, sc, x => !t && mK a sc x
  | .ix a b, sc, x => (match x with
    | .Subscript u v _ => !isSlice v && mE false a sc u && mE false b sc v
    | _ => false)
  | .sl a lo hi, sc, x => (match x with
    | .Subscript u (.Slice l h none _) _ => mE false a sc u && (match l with
        | none => isNonE lo
        | some l => !isNonE lo && mE false lo sc l) && (match h with
        | none => isNonE hi
        | some h => !isNonE hi && mE false hi sc h)
    | _ => false)
  | .fld a f, sc, x => (match x with
    | .Attribute u y _ => decide (f < N.nF) && decide (y = N.fld f) && !isCall0 u && mE false a sc u
    | _ => false)
  | .call f es, sc, x => (match x with
    | .Call (.Name y _) xs [] _ => decide (ats[f]? = some ((y, none) : At)) && glB sc y && okNm y && noStar xs && mEs false es sc xs
    | _ => false)
  | .new c f mu es, sc, x => (match x with
    | .Call (.Name y _) xs [] _ => decide (c < N.nC) && decide (y = N.cls c) && decide (ats[f]? = some ((N.cls c, some ("__init__" : Str)) : At)) && glB sc y && okNm y && noStar xs && mEs false es sc xs
    | _ => false)
  | .meth c f o es, sc, x => (match x with
    | .Call (.Attribute u y apos) xs [] pos => decide (ats[f]? = some ((N.cls c, some y) : At)) && noFld N y && decide (y.cps.size < 100) && !isCall0 u && (apos.endLine == pos.line) && decide (xs.length < 30) && noStar xs && mE false o sc u && mEs false es sc xs
    | _ => false)
  | .blt b es, sc, x => (match x with
    | .Call (.Name y _) xs [] _ => decide (y = bltNm b) && glB sc y && !xs.isEmpty && noStar xs && mEs false es sc xs
    | _ => false)
  | .bm b o es, sc, x => (match x with
    | .Call (.Attribute u y apos) xs [] pos => decide (y = bmNm b) && !isCall0 u && (apos.endLine == pos.line) && decide (xs.length < 30) && noStar xs && (bm0B b == xs.isEmpty) && mE false o sc u && mEs false es sc xs
    | _ => false)
  | .isi a tn, sc, x => (match x with
    | .Call (.Name y _) [u, .Name z _] [] _ => decide (y = ("isinstance" : Str)) && glB sc y && !isStar u && tnB N sc tn z && mE false a sc u
    | _ => false)
  | .lc vs elt tg it tst, sc, x => (match x with
    | .ListComp ex [⟨tgx, iter, ifs, 0⟩] scope _ => blkC ns sc scope (ownOf ns vs) && mI it sc tgx iter && mTg ns scope tgx tg && tgIn vs tg && mE false elt scope ex && !isSet iter && (match ifs with
        | [] => isYes tst
        | [c] => mE true tst scope c
        | _ => false)
    | _ => false)
  | .lc2 vs vs1 elt tg it tg1 it1, sc, x => (match x with
    | .ListComp ex [⟨tgx, iter, [], 0⟩, ⟨tgx1, iter1, [], 0⟩] scope _ => blkC ns sc scope (ownOf ns vs) && vs1.all (fun i => vs.contains i) && mI it sc tgx iter && mTg ns scope tgx tg && mI it1 scope tgx1 iter1 && mTg ns scope tgx1 tg1 && tgIn vs tg && tgIn vs1 tg1 && mE false elt scope ex && !isSet iter && !isSet iter1
    | _ => false)
def mK : E → Scope → Expr → Bool
  | .lst es, sc, x => (match x with
    | .List xs _ => mEs false es sc xs
    | _ => false)
  | .lc vs elt tg it tst, sc, x => (match x with
    | .ListComp ex [⟨tgx, iter, ifs, 0⟩] scope _ => blkC ns sc scope (ownOf ns vs) && mI it sc tgx iter && mTg ns scope tgx tg && tgIn vs tg && mE false elt scope ex && !isSet iter && (match ifs with
        | [] => isYes tst
        | [c] => mE true tst scope c
        | _ => false)
    | _ => false)
  | .lc2 vs vs1 elt tg it tg1 it1, sc, x => (match x with
    | .ListComp ex [⟨tgx, iter, [], 0⟩, ⟨tgx1, iter1, [], 0⟩] scope _ => blkC ns sc scope (ownOf ns vs) && vs1.all (fun i => vs.contains i) && mI it sc tgx iter && mTg ns scope tgx tg && mI it1 scope tgx1 iter1 && mTg ns scope tgx1 tg1 && tgIn vs tg && tgIn vs1 tg1 && mE false elt scope ex && !isSet iter && !isSet iter1
    | _ => false)
  | _, _, _ => false
def mEs (t : Bool) : List E → Scope → List Expr → Bool
  | [], _, xs => xs.isEmpty
  | a :: es, sc, xs => (match xs with
    | [] => false
    | x :: xs => (isStarE a == isStar x) && mE t a sc x && mEs t es sc xs)
def mI : It → Scope → Expr → Expr → Bool
  | .seq a, sc, _, x => mE false a sc x
  | .rng a, sc, _, x => (match x with
    | .Call (.Name y _) [u] [] _ => decide (y = ("range" : Str)) && glB sc y && !isStar u && mE false a sc u
    | _ => false)
  | .rng2 a b, sc, _, x => (match x with
    | .Call (.Name y _) [u, v] [] _ => decide (y = ("range" : Str)) && glB sc y && !isStar u && !isStar v && mE false a sc u && mE false b sc v
    | _ => false)
  | .enum a, sc, tgx, x => (match tgx, x with
    | .Tuple _ _ _, .Call (.Name y _) [u] [] _ => decide (y = ("enumerate" : Str)) && glB sc y && !isStar u && mE false a sc u
    | _, _ => false)
  | .zip a b, sc, tgx, x => (match tgx, x with
    | .Tuple _ _ _, .Call (.Name y _) [u, v] [] _ => decide (y = ("zip" : Str)) && glB sc y && !isStar u && !isStar v && mE false a sc u && mE false b sc v
    | _, _ => false)
end
end
end Pv

/-! Ev15: what matches is read so. -/
set_option linter.all false
set_option Elab.async false
set_option maxRecDepth 100000
set_option maxHeartbeats 4000000
namespace Pv
open PySem PySem.Spec PyProof.Rows L2
section
variable {N : Nm} {ats : List At} {cf : CF} {ns : List Str}
structure Snd (N : Nm) (cf : CF) (X : Cx) (x : Expr) (e : E) (W : WX) (t : Bool) : Prop where
  pe : t = false → PE X x (rdE N X.K cf e W)
  pt : t = true → PT X x (rdT N X.K cf e W)
  st : ∀ a u p, e = .star a → x = .Starred u p → PE X u (rdE N X.K cf a W) := by intro _ _ _ z; cases z
theorem Snd.of {X : Cx} {x : Expr} {e : E} {W : WX} {t : Bool} (h : PE X x (rdE N X.K cf e W)) (hp : isPlain x = true) (hs : ∀ a, e ≠ .star a := by intro _ z; cases z) : Snd N cf X x e W t := ⟨fun _ => h, fun _ => s_test h hp, fun a _ _ z => absurd z (hs a)⟩
theorem Snd.two {X : Cx} {x : Expr} {e : E} {W : WX} {t : Bool} (h : t = false → PE X x (rdE N X.K cf e W)) (h2 : t = true → PT X x (rdT N X.K cf e W)) (hs : ∀ a, e ≠ .star a := by intro _ z; cases z) : Snd N cf X x e W t := ⟨h, h2, fun a _ _ z => absurd z (hs a)⟩
theorem nofld_ok {m : Str} (h : noFld N m = true) (hs : m.cps.size < 100) : ∀ i, N.fld i ≠ m := fun i z => by
  by_cases hi : i < N.nF
  · unfold noFld at h
    rw [List.all_eq_true] at h
    have := h i (List.mem_range.mpr hi)
    rw [z] at this
    simp at this
  · have := N.far i (by omega)
    rw [z] at this
    omega
theorem okNm_ok {x : Str} (h : okNm x = true) : (x == ("__debug__" : Str)) = false ∧ (x == ("__classdict__" : Str)) = false := by
  unfold okNm at h
  simpa using h
theorem cst_ok {c : Cst} {k : Const} (h : cstB c k = true) : k = cstOf c := by
  cases c <;> cases k <;> simp [cstB] at h <;> first | rfl | (subst h; rfl) | (simp [cstOf, h])
theorem yes_E {e : E} (h : isYes e = true) : e = .con (.bl true) := by
  unfold isYes at h
  split at h
  · rfl
  · cases h
theorem non_E {e : E} (h : isNonE e = true) : e = .con .non := by
  unfold isNonE at h
  split at h
  · rfl
  · cases h
theorem non_E' {e : E} (h : isNonE e = false) : e ≠ .con .non := fun z => by rw [z] at h; cases h
theorem tn_ok {X : Cx} {sc : Scope} {py : Pos} (k : Kx N ats cf X sc) : ∀ (tn : Tn) (z : Str), tnB N sc tn z = true → tnOk N tn = true ∧ PE X (.Name z py) (tC (tnV N X.K tn)) := fun tn z h => by
  have B : ∀ t : Tn, (∀ d, t ≠ .own d) → Str.ofString t.nm ∈ freeNames → Str.ofString t.nm ≠ "__name__" → (Str.ofString t.nm == ("__debug__" : Str)) = false → (decide (z = Str.ofString t.nm) && glB sc z) = true → PE X (.Name z py) (tC (.ty t.nm)) := fun t ht hf h1 h2 h => by
    rw [Bool.and_eq_true, decide_eq_true_eq] at h
    obtain ⟨rfl, hg⟩ := h
    exact pe_bltn (k.gl _ hg) (k.tx.free _ hf) (tn_boot t ht) rfl h1 h2
  cases tn with
  | own c =>
    simp only [tnB, Bool.and_eq_true, decide_eq_true_eq] at h
    obtain ⟨⟨⟨h1, rfl⟩, h3⟩, h4⟩ := h
    exact ⟨by simp only [tnOk, decide_eq_true_eq]; exact h1, pe_glob (k.gl _ h3) (k.tx.gl c h1) rfl (okNm_ok h4).1⟩
  | int => exact ⟨rfl, B .int (fun d z => by cases z) (by decide +kernel) (by decide +kernel) (by decide +kernel) h⟩
  | bool => exact ⟨rfl, B .bool (fun d z => by cases z) (by decide +kernel) (by decide +kernel) (by decide +kernel) h⟩
  | str => exact ⟨rfl, B .str (fun d z => by cases z) (by decide +kernel) (by decide +kernel) (by decide +kernel) h⟩
  | list => exact ⟨rfl, B .list (fun d z => by cases z) (by decide +kernel) (by decide +kernel) (by decide +kernel) h⟩
  | tuple => exact ⟨rfl, B .tuple (fun d z => by cases z) (by decide +kernel) (by decide +kernel) (by decide +kernel) h⟩
  | dict => exact ⟨rfl, B .dict (fun d z => by cases z) (by decide +kernel) (by decide +kernel) (by decide +kernel) h⟩
theorem pe_dead {X : Cx} {x : Expr} {W : WX} {t : Bool} : Snd N cf X x .dead W t := ⟨fun _ => ⟨fun pins s σ H Q I ⟨F, m, h, e, R, re, q⟩ => by simp only [evE] at q; exact False.elim q⟩, fun _ => ⟨fun pins s σ H Q I ⟨F, m, h, e, R, re, q⟩ => by simp only [evE] at q; exact False.elim q⟩, fun _ _ _ z => by cases z⟩
theorem pe_star {X : Cx} {x : Expr} {W : WX} {t : Bool} {a : E} (h : ∀ u p, x = .Starred u p → PE X u (rdE N X.K cf a W)) : Snd N cf X x (.star a) W t := ⟨fun _ => ⟨fun pins s σ H Q I ⟨F, m, h, e, R, re, q⟩ => by simp only [evE] at q; exact False.elim q⟩, fun _ => ⟨fun pins s σ H Q I ⟨F, m, h, e, R, re, q⟩ => by simp only [evE] at q; exact False.elim q⟩, fun b u p z y => by cases z; exact h u p y⟩
theorem mEs_cons {a : E} {es : List E} {sc : Scope} {x : Expr} {xs : List Expr} {t : Bool} (h : mEs N ats ns t (a :: es) sc (x :: xs) = true) : isStarE a = isStar x ∧ mE N ats ns t a sc x = true ∧ mEs N ats ns t es sc xs = true := by
  rw [mEs] at h
  simp only [Bool.and_eq_true, beq_iff_eq] at h
  exact ⟨h.1.1, h.1.2, h.2⟩
theorem pts_yes {X : Cx} {W : WX} : PTs X [] (rdT N X.K cf (.con (.bl true)) W) := ⟨fun pins s σ H Q I ⟨F, m, h, e, R, re, q⟩ => pts_nil.run pins s σ H Q I (by
  simp only [evE] at q
  obtain ⟨b, e1, e2⟩ := q.ok R (show RV N X.K F m H (Cst.bl true).val (.bl true) by simp only [Cst.val, RV])
  cases e1
  exact e2)⟩
theorem nostar1 {x : Expr} {xs : List Expr} (h : noStar (x :: xs) = true) : isStar x = false ∧ noStar xs = true := by
  unfold noStar at h ⊢
  rw [List.all_cons, Bool.and_eq_true] at h
  exact ⟨by simpa using h.1, h.2⟩
theorem mEs_nil {es : List E} {sc : Scope} {t : Bool} (h : mEs N ats ns t es sc [] = true) : es = [] := by
  cases es with
  | nil => rfl
  | cons a es => simp [mEs] at h
/-- what is said of each part -/
def SE (N : Nm) (ats : List At) (cf : CF) (ns : List Str) (e : E) : Prop := ∀ {X : Cx} {sc : Scope} {W : WX} {x : Expr} {t : Bool}, Kx N ats cf X sc → Takes X W → X.N = ns → mE N ats ns t e sc x = true → Snd N cf X x e W t
def SI (N : Nm) (ats : List At) (cf : CF) (ns : List Str) (it : Pv.It) : Prop := ∀ {X : Cx} {sc : Scope} {W : WX} {tgx x : Expr}, Kx N ats cf X sc → Takes X W → X.N = ns → mI N ats ns it sc tgx x = true → PI X tgx x (rdI N X.K cf it W)
def lcB (N : Nm) (ats : List At) (ns : List Str) (vs : List Nat) (elt : E) (tg : Tg) (it : Pv.It) (tst : E) (sc : Scope) (ex tgx iter : Expr) (ifs : List Expr) (scope : Scope) : Bool := blkC ns sc scope (ownOf ns vs) && mI N ats ns it sc tgx iter && mTg ns scope tgx tg && tgIn vs tg && mE N ats ns false elt scope ex && !isSet iter && (match ifs with
        | [] => isYes tst
        | [c] => mE N ats ns true tst scope c
        | _ => false)
theorem lcH_of {X : Cx} {sc scope : Scope} {W : WX} {ex tgx iter : Expr} {ifs : List Expr} {vs : List Nat} {elt tst : E} {tg : Tg} {it : Pv.It} (he : SE N ats cf ns elt) (hi : SI N ats cf ns it) (ht : SE N ats cf ns tst) (k : Kx N ats cf X sc) (tk : Takes X W) (hN : X.N = ns)
    (h : lcB N ats ns vs elt tg it tst sc ex tgx iter ifs scope = true) : LcH N cf X scope W ex tgx iter ifs vs elt tst tg it := by
  unfold lcB at h
  simp only [Bool.and_eq_true, Bool.not_eq_true'] at h
  obtain ⟨⟨⟨⟨⟨⟨h1, h2⟩, h3⟩, h4⟩, h5⟩, h6⟩, h7⟩ := h
  subst hN
  refine ⟨hi k tk rfl h2, blk_ok k h1, fun s H C cl fp => tg_ok (k.blk s H scope cl C fp) h3, fun s H C cl fp => ?_, fun s H C cl fp => (he (k.blk s H scope cl C fp) takes0 rfl h5).1 rfl, fun x => fold_of h6 x, h4⟩
  split at h7
  · rw [yes_E h7]
    exact pts_yes
  · exact pts_one ((ht (k.blk s H scope cl C fp) takes0 rfl h7).2 rfl)
  · cases h7
def lcB2 (N : Nm) (ats : List At) (ns : List Str) (vs vs1 : List Nat) (elt : E) (tg : Tg) (it : Pv.It) (tg1 : Tg) (it1 : Pv.It) (sc : Scope) (ex tgx iter tgx1 iter1 : Expr) (scope : Scope) : Bool := blkC ns sc scope (ownOf ns vs) && vs1.all (fun i => vs.contains i) && mI N ats ns it sc tgx iter && mTg ns scope tgx tg && mI N ats ns it1 scope tgx1 iter1 && mTg ns scope tgx1 tg1 && tgIn vs tg && tgIn vs1 tg1 && mE N ats ns false elt scope ex && !isSet iter && !isSet iter1
theorem lcH2_of {X : Cx} {sc scope : Scope} {W : WX} {ex tgx iter tgx1 iter1 : Expr} {vs vs1 : List Nat} {elt : E} {tg tg1 : Tg} {it it1 : Pv.It} (he : SE N ats cf ns elt) (hi : SI N ats cf ns it) (hi1 : SI N ats cf ns it1) (k : Kx N ats cf X sc) (tk : Takes X W) (hN : X.N = ns)
    (h : lcB2 N ats ns vs vs1 elt tg it tg1 it1 sc ex tgx iter tgx1 iter1 scope = true) : LcH2 N cf X scope W ex tgx iter tgx1 iter1 vs vs1 elt tg it tg1 it1 := by
  unfold lcB2 at h
  simp only [Bool.and_eq_true, Bool.not_eq_true'] at h
  obtain ⟨⟨⟨⟨⟨⟨⟨⟨⟨⟨h1, h2⟩, h3⟩, h4⟩, h5⟩, h6⟩, h7⟩, h8⟩, h9⟩, h10⟩, h11⟩ := h
  subst hN
  refine ⟨hi k tk rfl h3, blk_ok k h1, fun i hi => ?_, fun s H C cl fp => tg_ok (k.blk s H scope cl C fp) h4, fun s H C cl fp => hi1 (k.blk s H scope cl C fp) takes0 rfl h5, fun s H C cl fp => tg_ok (k.blk s H scope cl C fp) h6, fun s H C cl fp => (he (k.blk s H scope cl C fp) takes0 rfl h9).1 rfl, fun x => fold_of h10 x, fun env x => fold_of h11 x, h7, h8⟩
  rw [List.all_eq_true] at h2
  simpa using h2 i hi
mutual
theorem sndE : ∀ (e : E) {X : Cx} {sc : Scope} {W : WX} {x : Expr} {t : Bool}, Kx N ats cf X sc → Takes X W → X.N = ns → mE N ats ns t e sc x = true → Snd N cf X x e W t
  | .dead, X, sc, W, x, t, k, tk, hN, h => pe_dead
  | .var i, X, sc, W, x, t, k, tk, hN, h => by
    simp only [mE] at h
    split at h
    · simp only [Bool.and_eq_true, decide_eq_true_eq] at h
      obtain ⟨⟨h1, h2⟩, h3⟩ := h
      exact .of (s_var k (by rw [hN]; exact h1) h2 (okNm_ok h3).1 (okNm_ok h3).2) rfl
    · cases h
  | .con c, X, sc, W, x, t, k, tk, hN, h => by
    simp only [mE] at h
    split at h
    · rw [cst_ok h]
      exact .of s_con rfl
    · cases h
  | .bin op a b, X, sc, W, x, t, k, tk, hN, h => by
    simp only [mE] at h
    split at h
    · simp only [Bool.and_eq_true, decide_eq_true_eq] at h
      obtain ⟨⟨rfl, h2⟩, h3⟩ := h
      exact .of (s_bin ((sndE a k tk hN h2).1 rfl) ((sndE b k tk hN h3).1 rfl)) rfl
    · cases h
  | .cmp op a b, X, sc, W, x, t, k, tk, hN, h => by
    simp only [mE] at h
    split at h
    · simp only [Bool.and_eq_true, decide_eq_true_eq, Bool.not_eq_true'] at h
      obtain ⟨⟨⟨rfl, h1⟩, h2⟩, h3⟩ := h
      exact .two (fun _ => s_cmp k ((sndE a k tk hN h2).1 rfl) ((sndE b k tk hN h3).1 rfl) h1) (fun _ => s_cmpT k ((sndE a k tk hN h2).1 rfl) ((sndE b k tk hN h3).1 rfl) h1)
    · cases h
  | .chain op op' a b c, X, sc, W, x, t, k, tk, hN, h => by
    simp only [mE] at h
    split at h
    · simp only [Bool.and_eq_true, decide_eq_true_eq, Bool.not_eq_true'] at h
      obtain ⟨⟨⟨⟨⟨rfl, rfl⟩, h1⟩, h2⟩, h3⟩, h4⟩ := h
      exact .two (fun _ => s_chain k ((sndE a k tk hN h2).1 rfl) ((sndE b k tk hN h3).1 rfl) ((sndE c k tk hN h4).1 rfl) h1) (fun _ => s_chainT k ((sndE a k tk hN h2).1 rfl) ((sndE b k tk hN h3).1 rfl) ((sndE c k tk hN h4).1 rfl) h1)
    · cases h
  | .bop f es, X, sc, W, x, t, k, tk, hN, h => by
    simp only [mE] at h
    split at h
    · rename_i o xs p
      simp only [Bool.and_eq_true] at h
      obtain ⟨⟨⟨h1, h2⟩, h3⟩, h4⟩ := h
      have ho : (o = .And ∧ f = true) ∨ (o = .Or ∧ f = false) := by
        cases o with
        | And => exact .inl ⟨rfl, h1⟩
        | Or => exact .inr ⟨rfl, by simpa using h1⟩
      have hx : xs ≠ [] := fun z => by rw [z] at h2; simp at h2
      have r := sndBs es (pos := p) ho k tk hN hx h3 h4
      exact .two (r.1) (fun z => (r.2 z).pt)
    · cases h
  | .not a, X, sc, W, x, t, k, tk, hN, h => by
    simp only [mE] at h
    split at h
    · exact .two (fun z => s_not ((sndE a k tk hN h).1 z)) (fun z => s_notT ((sndE a k tk hN h).2 z))
    · cases h
  | .neg a, X, sc, W, x, t, k, tk, hN, h => by
    simp only [mE] at h
    split at h
    · exact .of (s_neg ((sndE a k tk hN h).1 rfl)) rfl
    · cases h
  | .ite c a b, X, sc, W, x, t, k, tk, hN, h => by
    simp only [mE] at h
    split at h
    · simp only [Bool.and_eq_true, Bool.not_eq_true'] at h
      obtain ⟨⟨⟨rfl, h1⟩, h2⟩, h3⟩ := h
      exact .two (fun _ => s_ite ((sndE c k tk hN h1).2 rfl) ((sndE a k tk hN h2).1 rfl) ((sndE b k tk hN h3).1 rfl)) (fun z => by cases z)
    · cases h
  | .lst es, X, sc, W, x, t, k, tk, hN, h => by
    simp only [mE] at h
    split at h
    · exact .of (s_lst (sndEs es k tk hN h)) rfl
    · cases h
  | .tup es, X, sc, W, x, t, k, tk, hN, h => by
    simp only [mE] at h
    split at h
    · exact .of (s_tup (sndEs es k tk hN h)) rfl
    · cases h
  | .star a, X, sc, W, x, t, k, tk, hN, h => by
    simp only [mE] at h
    refine pe_star fun u p hx => ?_
    subst hx
    simp only [Bool.and_eq_true, Bool.not_eq_true'] at h
    exact (sndE a k tk hN h.2).1 rfl
  | .dct0, X, sc, W, x, t, k, tk, hN, h => by
    simp only [mE] at h
    split at h
    · exact .of s_dct0 rfl
    · cases h
  | .keep g a, X, sc, W, x, t, k, tk, hN, h => by
    simp only [mE, Bool.and_eq_true, Bool.not_eq_true'] at h
    obtain ⟨rfl, h⟩ := h
    exact .two (fun _ => sndK a g k tk hN h) (fun z => by cases z)
  | .ix a b, X, sc, W, x, t, k, tk, hN, h => by
    simp only [mE] at h
    split at h
    · simp only [Bool.and_eq_true, Bool.not_eq_true'] at h
      obtain ⟨⟨h1, h2⟩, h3⟩ := h
      exact .of (s_ix ((sndE a k tk hN h2).1 rfl) ((sndE b k tk hN h3).1 rfl) h1) rfl
    · cases h
  | .sl a lo hi, X, sc, W, x, t, k, tk, hN, h => by
    simp only [mE] at h
    split at h
    · simp only [Bool.and_eq_true] at h
      obtain ⟨⟨h1, h2⟩, h3⟩ := h
      rename_i u l hh p2 p
      refine .of (s_sl ((sndE a k tk hN h1).1 rfl) ?_ ?_) rfl
      · cases l with
        | none => rw [non_E h2]; exact s_po0
        | some l =>
          simp only [Bool.and_eq_true, Bool.not_eq_true'] at h2
          exact s_po1 ((sndE lo k tk hN h2.2).1 rfl) (non_E' h2.1)
      · cases hh with
        | none => rw [non_E h3]; exact s_po0
        | some l =>
          simp only [Bool.and_eq_true, Bool.not_eq_true'] at h3
          exact s_po1 ((sndE hi k tk hN h3.2).1 rfl) (non_E' h3.1)
    · cases h
  | .fld a f, X, sc, W, x, t, k, tk, hN, h => by
    simp only [mE] at h
    split at h
    · simp only [Bool.and_eq_true, decide_eq_true_eq, Bool.not_eq_true'] at h
      obtain ⟨⟨⟨h1, rfl⟩, h2⟩, h3⟩ := h
      exact .of (s_fld k ((sndE a k tk hN h3).1 rfl) h1 h2) rfl
    · cases h
  | .call f es, X, sc, W, x, t, k, tk, hN, h => by
    simp only [mE] at h
    split at h
    · simp only [Bool.and_eq_true, decide_eq_true_eq] at h
      obtain ⟨⟨⟨⟨h1, h2⟩, h3⟩, h4⟩, h5⟩ := h
      exact .of (s_call k tk h1 h2 (okNm_ok h3).1 (sndEs es k tk hN h5) h4 (fun z => by rw [z] at h5; exact mEs_nil h5)) rfl
    · cases h
  | .new c f mu es, X, sc, W, x, t, k, tk, hN, h => by
    simp only [mE] at h
    split at h
    · simp only [Bool.and_eq_true, decide_eq_true_eq] at h
      obtain ⟨⟨⟨⟨⟨⟨h0, rfl⟩, h1⟩, h2⟩, h3⟩, h4⟩, h5⟩ := h
      exact .of (s_new k tk h0 h1 h2 (okNm_ok h3).1 (sndEs es k tk hN h5) h4 (fun z => by rw [z] at h5; exact mEs_nil h5)) rfl
    · cases h
  | .meth c f o es, X, sc, W, x, t, k, tk, hN, h => by
    simp only [mE] at h
    split at h
    · simp only [Bool.and_eq_true, decide_eq_true_eq, Bool.not_eq_true'] at h
      obtain ⟨⟨⟨⟨⟨⟨⟨⟨h1, h2⟩, h3⟩, h4⟩, h5⟩, h6⟩, h7⟩, h8⟩, h9⟩ := h
      exact .of (s_meth k tk h1 (nofld_ok h2 h3) ((sndE o k tk hN h8).1 rfl) h4 h5 h6 (sndEs es k tk hN h9) h7 (fun z => by rw [z] at h9; exact mEs_nil h9)) rfl
    · cases h
  | .blt b es, X, sc, W, x, t, k, tk, hN, h => by
    simp only [mE] at h
    split at h
    · simp only [Bool.and_eq_true, decide_eq_true_eq, Bool.not_eq_true'] at h
      obtain ⟨⟨⟨⟨rfl, h1⟩, h2⟩, h3⟩, h4⟩ := h
      rename_i py xs pp
      cases xs with
      | nil => simp at h2
      | cons x xs => exact .of (s_blt k h1 (sndEs es k tk hN h4) h3) rfl
    · cases h
  | .bm b o es, X, sc, W, x, t, k, tk, hN, h => by
    simp only [mE] at h
    split at h
    · simp only [Bool.and_eq_true, decide_eq_true_eq, Bool.not_eq_true'] at h
      obtain ⟨⟨⟨⟨⟨⟨⟨rfl, h1⟩, h2⟩, h3⟩, h4⟩, h5⟩, h6⟩, h7⟩ := h
      rename_i u apos xs pp
      cases xs with
      | nil =>
        have : es = [] := mEs_nil h7
        subst this
        exact .of (s_bm0 ((sndE o k tk hN h6).1 rfl) h1 h2 (by cases b <;> simp [bm0B] at h5 ⊢)) rfl
      | cons x xs => exact .of (s_bm ((sndE o k tk hN h6).1 rfl) h1 h2 h3 (sndEs es k tk hN h7) h4 (by cases b <;> simp [bm0B] at h5 ⊢)) rfl
    · cases h
  | .isi a tn, X, sc, W, x, t, k, tk, hN, h => by
    simp only [mE] at h
    split at h
    · simp only [Bool.and_eq_true, decide_eq_true_eq, Bool.not_eq_true'] at h
      obtain ⟨⟨⟨⟨rfl, h1⟩, h2⟩, h3⟩, h4⟩ := h
      obtain ⟨t1, t2⟩ := tn_ok k tn _ h3
      exact .of (s_isiT k h1 ((sndE a k tk hN h4).1 rfl) h2 t1 t2) rfl
    · cases h
  | .lc vs elt tg it tst, X, sc, W, x, t, k, tk, hN, h => by
    simp only [mE] at h
    split at h
    · exact .of (s_lc k (lcH_of (fun k tk hN h => sndE elt k tk hN h) (fun k tk hN h => sndI it k tk hN h) (fun k tk hN h => sndE tst k tk hN h) k tk hN h)) rfl
    · cases h
  | .lc2 vs vs1 elt tg it tg1 it1, X, sc, W, x, t, k, tk, hN, h => by
    simp only [mE] at h
    split at h
    · exact .of (s_lc2 k (lcH2_of (fun k tk hN h => sndE elt k tk hN h) (fun k tk hN h => sndI it k tk hN h) (fun k tk hN h => sndI it1 k tk hN h) k tk hN h)) rfl
    · cases h
theorem sndK : ∀ (e : E) (g : Bool) {X : Cx} {sc : Scope} {W : WX} {x : Expr}, Kx N ats cf X sc → Takes X W → X.N = ns → mK N ats ns e sc x = true → PE X x (rdE N X.K cf (.keep g e) W)
  | .lst es, g, X, sc, W, x, k, tk, hN, h => by
    simp only [mK] at h
    split at h
    · exact s_keepL (sndEs es k tk hN h)
    · cases h
  | .lc vs elt tg it tst, g, X, sc, W, x, k, tk, hN, h => by
    simp only [mK] at h
    split at h
    · exact s_lcK k (lcH_of (fun k tk hN h => sndE elt k tk hN h) (fun k tk hN h => sndI it k tk hN h) (fun k tk hN h => sndE tst k tk hN h) k tk hN h)
    · cases h
  | .lc2 vs vs1 elt tg it tg1 it1, g, X, sc, W, x, k, tk, hN, h => by
    simp only [mK] at h
    split at h
    · exact s_lc2K k (lcH2_of (fun k tk hN h => sndE elt k tk hN h) (fun k tk hN h => sndI it k tk hN h) (fun k tk hN h => sndI it1 k tk hN h) k tk hN h)
    · cases h
  | .var _, g, X, sc, W, x, k, tk, hN, h => by
    simp only [mK] at h
    cases h
  | .con _, g, X, sc, W, x, k, tk, hN, h => by
    simp only [mK] at h
    cases h
  | .bin _ _ _, g, X, sc, W, x, k, tk, hN, h => by
    simp only [mK] at h
    cases h
  | .cmp _ _ _, g, X, sc, W, x, k, tk, hN, h => by
    simp only [mK] at h
    cases h
  | .chain _ _ _ _ _, g, X, sc, W, x, k, tk, hN, h => by
    simp only [mK] at h
    cases h
  | .bop _ _, g, X, sc, W, x, k, tk, hN, h => by
    simp only [mK] at h
    cases h
  | .not _, g, X, sc, W, x, k, tk, hN, h => by
    simp only [mK] at h
    cases h
  | .neg _, g, X, sc, W, x, k, tk, hN, h => by
    simp only [mK] at h
    cases h
  | .ite _ _ _, g, X, sc, W, x, k, tk, hN, h => by
    simp only [mK] at h
    cases h
  | .tup _, g, X, sc, W, x, k, tk, hN, h => by
    simp only [mK] at h
    cases h
  | .star _, g, X, sc, W, x, k, tk, hN, h => by
    simp only [mK] at h
    cases h
  | .dct0, g, X, sc, W, x, k, tk, hN, h => by
    simp only [mK] at h
    cases h
  | .keep _ _, g, X, sc, W, x, k, tk, hN, h => by
    simp only [mK] at h
    cases h
  | .ix _ _, g, X, sc, W, x, k, tk, hN, h => by
    simp only [mK] at h
    cases h
  | .sl _ _ _, g, X, sc, W, x, k, tk, hN, h => by
    simp only [mK] at h
    cases h
  | .fld _ _, g, X, sc, W, x, k, tk, hN, h => by
    simp only [mK] at h
    cases h
  | .call _ _, g, X, sc, W, x, k, tk, hN, h => by
    simp only [mK] at h
    cases h
  | .new _ _ _ _, g, X, sc, W, x, k, tk, hN, h => by
    simp only [mK] at h
    cases h
  | .meth _ _ _ _, g, X, sc, W, x, k, tk, hN, h => by
    simp only [mK] at h
    cases h
  | .blt _ _, g, X, sc, W, x, k, tk, hN, h => by
    simp only [mK] at h
    cases h
  | .bm _ _ _, g, X, sc, W, x, k, tk, hN, h => by
    simp only [mK] at h
    cases h
  | .isi _ _, g, X, sc, W, x, k, tk, hN, h => by
    simp only [mK] at h
    cases h
  | .dead, g, X, sc, W, x, k, tk, hN, h => by
    simp only [mK] at h
    cases h
theorem sndEs : ∀ (es : List E) {X : Cx} {sc : Scope} {W : WX} {xs : List Expr}, Kx N ats cf X sc → Takes X W → X.N = ns → mEs N ats ns false es sc xs = true → PA X xs (rdEs N X.K cf es W)
  | [], X, sc, W, xs, k, tk, hN, h => by
    simp only [mEs] at h
    cases xs with
    | nil => exact s_nil
    | cons x xs => simp at h
  | a :: es, X, sc, W, xs, k, tk, hN, h => by
    cases xs with
    | nil => simp [mEs] at h
    | cons x xs =>
      obtain ⟨h0, h1, h2⟩ := mEs_cons h
      have r := sndE a k tk hN h1
      have rs := sndEs es k tk hN h2
      cases hs : isStar x with
      | true =>
        rw [hs] at h0
        cases a <;> first | (simp [isStarE] at h0; done) | skip
        cases x <;> first | (simp [isStar] at hs; done) | skip
        exact s_star (r.st _ _ _ rfl rfl) rs
      | false => exact s_cons (r.1 rfl) rs hs (by rw [h0, hs])
theorem sndBs : ∀ (es : List E) {o : PySem.BoolOp} {f : Bool} {X : Cx} {sc : Scope} {W : WX} {xs : List Expr} {t : Bool} {pos : Pos}, ((o = .And ∧ f = true) ∨ (o = .Or ∧ f = false)) → Kx N ats cf X sc → Takes X W → X.N = ns → xs ≠ [] → noStar xs = true → mEs N ats ns t es sc xs = true →
    (t = false → PE X (.BoolOp o xs pos) (rdE N X.K cf (.bop f es) W)) ∧ (t = true → PW X (.BoolOp o xs pos) (rdT N X.K cf (.bop f es) W))
  | [], o, f, X, sc, W, xs, t, pos, ho, k, tk, hN, hx, hn, h => by
    cases xs with
    | nil => exact absurd rfl hx
    | cons x xs => simp [mEs] at h
  | a :: es, o, f, X, sc, W, xs, t, pos, ho, k, tk, hN, hx, hn, h => by
    cases xs with
    | nil => exact absurd rfl hx
    | cons x xs =>
      obtain ⟨h0, h1, h2⟩ := mEs_cons h
      have r := sndE a k tk hN h1
      cases xs with
      | nil =>
        have : es = [] := mEs_nil h2
        subst this
        exact ⟨fun z => s_bop1 (r.1 z), fun z => s_bop1T (ho.elim (fun w => .inl w.1) fun w => .inr w.1) (r.2 z)⟩
      | cons y ys =>
        have rs := sndBs es (pos := pos) ho k tk hN (fun z => by cases z) (nostar1 hn).2 h2
        cases es with
        | nil => simp [mEs] at h2
        | cons b bs =>
          rcases ho with ⟨rfl, rfl⟩ | ⟨rfl, rfl⟩
          · exact ⟨fun z => s_and (r.1 z) (rs.1 z), fun z => s_andT (r.2 z) (rs.2 z)⟩
          · exact ⟨fun z => s_or (r.1 z) (rs.1 z), fun z => s_orT (r.2 z) (rs.2 z)⟩
theorem sndI : ∀ (it : Pv.It) {X : Cx} {sc : Scope} {W : WX} {tgx x : Expr}, Kx N ats cf X sc → Takes X W → X.N = ns → mI N ats ns it sc tgx x = true → PI X tgx x (rdI N X.K cf it W)
  | .seq a, X, sc, W, tgx, x, k, tk, hN, h => by
    simp only [mI] at h
    exact pi_seq ((sndE a k tk hN h).1 rfl)
  | .rng a, X, sc, W, tgx, x, k, tk, hN, h => by
    simp only [mI] at h
    split at h
    · simp only [Bool.and_eq_true, decide_eq_true_eq, Bool.not_eq_true'] at h
      obtain ⟨⟨⟨rfl, h1⟩, h2⟩, h3⟩ := h
      exact pi_rng k ((sndE a k tk hN h3).1 rfl) h1 h2
    · cases h
  | .rng2 a b, X, sc, W, tgx, x, k, tk, hN, h => by
    simp only [mI] at h
    split at h
    · simp only [Bool.and_eq_true, decide_eq_true_eq, Bool.not_eq_true'] at h
      obtain ⟨⟨⟨⟨⟨rfl, h1⟩, h2⟩, h3⟩, h4⟩, h5⟩ := h
      exact pi_rng2 k ((sndE a k tk hN h4).1 rfl) ((sndE b k tk hN h5).1 rfl) h1 h2 h3
    · cases h
  | .enum a, X, sc, W, tgx, x, k, tk, hN, h => by
    simp only [mI] at h
    split at h
    · simp only [Bool.and_eq_true, decide_eq_true_eq, Bool.not_eq_true'] at h
      obtain ⟨⟨⟨rfl, h1⟩, h2⟩, h3⟩ := h
      exact pi_enumR k ((sndE a k tk hN h3).1 rfl) h1 h2
    · cases h
  | .zip a b, X, sc, W, tgx, x, k, tk, hN, h => by
    simp only [mI] at h
    split at h
    · simp only [Bool.and_eq_true, decide_eq_true_eq, Bool.not_eq_true'] at h
      obtain ⟨⟨⟨⟨⟨rfl, h1⟩, h2⟩, h3⟩, h4⟩, h5⟩ := h
      exact pi_zipR k ((sndE a k tk hN h4).1 rfl) ((sndE b k tk hN h5).1 rfl) h1 h2 h3
    · cases h
end
end
end Pv

/-! Ev16: statements that match. -/
set_option linter.all false
set_option Elab.async false
set_option maxRecDepth 100000
set_option maxHeartbeats 4000000
namespace Pv
open PySem PySem.Spec PyProof.Rows L2
section
variable (N : Nm) (ats : List At) (ns : List Str)
/-- name = value: the value may be a comprehension on the same line -/
def mSet (e : E) (sc : Scope) (y : Str) (py : Pos) (x : Expr) : Bool := match x with
  | .ListComp ex gs scope p => swB sc y py scope p && (match e, gs with
    | .lc vs elt tg it tst, [⟨tgx, iter, ifs, 0⟩] => lcB N ats ns vs elt tg it tst sc ex tgx iter ifs scope
    | .keep _ (.lc vs elt tg it tst), [⟨tgx, iter, ifs, 0⟩] => lcB N ats ns vs elt tg it tst sc ex tgx iter ifs scope
    | .lc2 vs vs1 elt tg it tg1 it1, [⟨tgx, iter, [], 0⟩, ⟨tgx1, iter1, [], 0⟩] => lcB2 N ats ns vs vs1 elt tg it tg1 it1 sc ex tgx iter tgx1 iter1 scope
    | .keep _ (.lc2 vs vs1 elt tg it tg1 it1), [⟨tgx, iter, [], 0⟩, ⟨tgx1, iter1, [], 0⟩] => lcB2 N ats ns vs vs1 elt tg it tg1 it1 sc ex tgx iter tgx1 iter1 scope
    | _, _ => false)
  | x => !isComp x && mE N ats ns false e sc x
mutual
def mS : S → Scope → Stmt → Bool
  | .dead, _, _ => true
  | .set i e, sc, s => (match s with
    | .Assign [.Name y py] x _ => decide (ns[i]? = some y) && locB sc y && mSet N ats ns e sc y py x
    | _ => false)
  | .unp ts e, sc, s => (match s with
    | .Assign [.Tuple elts _ _] x _ => mTgs ns sc elts ts && !isComp x && !isTupE x && mE N ats ns false e sc x
    | _ => false)
  | .aug i op e, sc, s => (match s with
    | .AugAssign (.Name y _) o x _ => (decide (op = .add) || decide (op = .sub)) && decide (o = bopOf op) && decide (ns[i]? = some y) && locB sc y && mE N ats ns false e sc x
    | _ => false)
  | .seti o i v, sc, s => (match s with
    | .Assign [.Subscript xo xi _] xv _ => !isSlice xi && !isComp xv && mE N ats ns false v sc xv && mE N ats ns false o sc xo && mE N ats ns false i sc xi
    | _ => false)
  | .setsl _ _ _ _, _, _ => false
  | .setf o f v, sc, s => (match s with
    | .Assign [.Attribute xo y _] xv _ => decide (f < N.nF) && decide (y = N.fld f) && mE N ats ns false v sc xv && mE N ats ns false o sc xo
    | _ => false)
  | .augf o f v, sc, s => (match s with
    | .AugAssign (.Attribute xo y _) .Add xv _ => decide (f < N.nF) && decide (y = N.fld f) && mE N ats ns false o sc xo && mE N ats ns false v sc xv
    | _ => false)
  | .expr e, sc, s => (match s with
    | .Expr x _ => !isComp x && mE N ats ns false e sc x
    | _ => false)
  | .ret e, sc, s => (match s with
    | .Return (some x) _ => mE N ats ns false e sc x
    | _ => false)
  | .retN, sc, s => (match s with
    | .Return none _ => true
    | _ => false)
  | .ifs c a b, sc, s => (match s with
    | .If x xa xb _ => mE N ats ns true c sc x && mSs a sc xa && mSs b sc xb
    | _ => false)
  | .for_ tg it body, sc, s => (match s with
    | .For tgx iter xb [] _ => mTg ns sc tgx tg && !isSet iter && mI N ats ns it sc tgx iter && mSs body sc xb
    | _ => false)
  | .while_ c body, sc, s => (match s with
    | .While x xb [] _ => mE N ats ns true c sc x && mSs body sc xb
    | _ => false)
  | .brk, sc, s => (match s with
    | .Break _ => true
    | _ => false)
  | .cont, sc, s => (match s with
    | .Continue _ => true
    | _ => false)
  | .pass, sc, s => (match s with
    | .Pass _ => true
    | _ => false)
  | .raise _ _ _, _, _ => false
  | .raise0 _, _, _ => false
def mSs : List S → Scope → List Stmt → Bool
  | [], _, xs => xs.isEmpty
  | s :: ss, sc, xs => (match xs with
    | [] => false
    | x :: xs => mS s sc x && mSs ss sc xs)
end
end
section
variable {N : Nm} {ats : List At} {cf : CF} {ns : List Str} {X : Cx} {sc : Scope} {W : WX}
theorem ps_dead {x : Stmt} : PS X x (rdS N X.K cf .dead W) := ⟨fun pins s σ H D I ⟨F, m, h, e, R, re, q⟩ => by simp only [exS] at q; exact False.elim q⟩
theorem set_ok {e : E} {i : Nat} {y : Str} {py : Pos} {x : Expr} {pos : Pos} (k : Kd N ats cf X sc W) (hN : X.N = ns) (h1 : ns[i]? = some y) (h2 : locB sc y = true) (h : mSet N ats ns e sc y py x = true) : PS X (.Assign [.Name y py] x pos) (rdS N X.K cf (.set i e) W) := by
  have hi : X.N[i]? = some y := by rw [hN]; exact h1
  unfold mSet at h
  split at h
  · rw [Bool.and_eq_true] at h
    obtain ⟨hs, h⟩ := h
    split at h
    · exact d_setLc k hi h2 (lcH_of (fun k tk hN h => sndE _ k tk hN h) (fun k tk hN h => sndI _ k tk hN h) (fun k tk hN h => sndE _ k tk hN h) k.toKx k.tk hN h) (.inl rfl) hs
    · exact d_setLc k hi h2 (lcH_of (fun k tk hN h => sndE _ k tk hN h) (fun k tk hN h => sndI _ k tk hN h) (fun k tk hN h => sndE _ k tk hN h) k.toKx k.tk hN h) (.inr ⟨_, rfl⟩) hs
    · exact d_setLc2 k hi h2 (lcH2_of (fun k tk hN h => sndE _ k tk hN h) (fun k tk hN h => sndI _ k tk hN h) (fun k tk hN h => sndI _ k tk hN h) k.toKx k.tk hN h) (.inl rfl) hs
    · exact d_setLc2 k hi h2 (lcH2_of (fun k tk hN h => sndE _ k tk hN h) (fun k tk hN h => sndI _ k tk hN h) (fun k tk hN h => sndI _ k tk hN h) k.toKx k.tk hN h) (.inr ⟨_, rfl⟩) hs
    · cases h
  · rw [Bool.and_eq_true, Bool.not_eq_true'] at h
    exact d_set hi k h2 ((sndE e k.toKx k.tk hN h.2).1 rfl) h.1
mutual
theorem sndS : ∀ (s : S) {x : Stmt}, Kd N ats cf X sc W → X.N = ns → mS N ats ns s sc x = true → PS X x (rdS N X.K cf s W)
  | .dead, x, k, hN, h => ps_dead
  | .set i e, x, k, hN, h => by
    simp only [mS] at h
    split at h
    · simp only [Bool.and_eq_true, decide_eq_true_eq] at h
      exact set_ok k hN h.1.1 h.1.2 h.2
    · cases h
  | .unp ts e, x, k, hN, h => by
    simp only [mS] at h
    split at h
    · simp only [Bool.and_eq_true, Bool.not_eq_true'] at h
      obtain ⟨⟨⟨h1, h2⟩, h3⟩, h4⟩ := h
      exact d_unp k ((sndE e k.toKx k.tk hN h4).1 rfl) (by rw [hN]; exact h1) h2 h3
    · cases h
  | .aug i op e, x, k, hN, h => by
    simp only [mS] at h
    split at h
    · simp only [Bool.and_eq_true, Bool.or_eq_true, decide_eq_true_eq] at h
      obtain ⟨⟨⟨⟨h1, rfl⟩, h2⟩, h3⟩, h4⟩ := h
      exact d_aug h1 (by rw [hN]; exact h2) k h3 ((sndE e k.toKx k.tk hN h4).1 rfl)
    · cases h
  | .seti o i v, x, k, hN, h => by
    simp only [mS] at h
    split at h
    · simp only [Bool.and_eq_true, Bool.not_eq_true'] at h
      obtain ⟨⟨⟨⟨h1, h2⟩, h3⟩, h4⟩, h5⟩ := h
      exact d_seti k ((sndE v k.toKx k.tk hN h3).1 rfl) ((sndE o k.toKx k.tk hN h4).1 rfl) ((sndE i k.toKx k.tk hN h5).1 rfl) h1 h2
    · cases h
  | .setsl _ _ _ _, x, k, hN, h => by simp only [mS] at h; cases h
  | .setf o f v, x, k, hN, h => by
    simp only [mS] at h
    split at h
    · simp only [Bool.and_eq_true, decide_eq_true_eq] at h
      obtain ⟨⟨⟨h1, rfl⟩, h3⟩, h4⟩ := h
      exact d_setf k h1 ((sndE v k.toKx k.tk hN h3).1 rfl) ((sndE o k.toKx k.tk hN h4).1 rfl)
    · cases h
  | .augf o f v, x, k, hN, h => by
    simp only [mS] at h
    split at h
    · simp only [Bool.and_eq_true, decide_eq_true_eq] at h
      obtain ⟨⟨⟨h1, rfl⟩, h3⟩, h4⟩ := h
      exact d_augf k h1 ((sndE o k.toKx k.tk hN h3).1 rfl) ((sndE v k.toKx k.tk hN h4).1 rfl)
    · cases h
  | .expr e, x, k, hN, h => by
    simp only [mS] at h
    split at h
    · simp only [Bool.and_eq_true, Bool.not_eq_true'] at h
      exact d_expr ((sndE e k.toKx k.tk hN h.2).1 rfl) h.1
    · cases h
  | .ret e, x, k, hN, h => by
    simp only [mS] at h
    split at h
    · exact d_ret ((sndE e k.toKx k.tk hN h).1 rfl)
    · cases h
  | .retN, x, k, hN, h => by
    simp only [mS] at h
    split at h
    · exact d_retN
    · cases h
  | .ifs c a b, x, k, hN, h => by
    simp only [mS] at h
    split at h
    · simp only [Bool.and_eq_true] at h
      exact d_ifs ((sndE c k.toKx k.tk hN h.1.1).2 rfl) (sndSs a k hN h.1.2) (sndSs b k hN h.2)
    · cases h
  | .for_ tg it body, x, k, hN, h => by
    simp only [mS] at h
    split at h
    · simp only [Bool.and_eq_true, Bool.not_eq_true'] at h
      obtain ⟨⟨⟨h1, h2⟩, h3⟩, h4⟩ := h
      exact d_for k (sndI it k.toKx k.tk hN h3) (by rw [hN]; exact h1) (sndSs body k hN h4) h2
    · cases h
  | .while_ c body, x, k, hN, h => by
    simp only [mS] at h
    split at h
    · simp only [Bool.and_eq_true] at h
      exact d_while k ((sndE c k.toKx k.tk hN h.1).2 rfl) (sndSs body k hN h.2)
    · cases h
  | .brk, x, k, hN, h => by
    simp only [mS] at h
    split at h
    · exact d_brk
    · cases h
  | .cont, x, k, hN, h => by
    simp only [mS] at h
    split at h
    · exact d_cont
    · cases h
  | .pass, x, k, hN, h => by
    simp only [mS] at h
    split at h
    · exact d_pass
    · cases h
  | .raise _ _ _, x, k, hN, h => by simp only [mS] at h; cases h
  | .raise0 _, x, k, hN, h => by simp only [mS] at h; cases h
theorem sndSs : ∀ (ss : List S) {xs : List Stmt}, Kd N ats cf X sc W → X.N = ns → mSs N ats ns ss sc xs = true → PSs X xs (rdSs N X.K cf ss W)
  | [], xs, k, hN, h => by
    cases xs with
    | nil => exact d_nil
    | cons x xs => simp [mSs] at h
  | s :: ss, xs, k, hN, h => by
    cases xs with
    | nil => simp [mSs] at h
    | cons x xs =>
      rw [mSs] at h
      simp only [Bool.and_eq_true] at h
      exact d_cons (sndS s k hN h.1) (sndSs ss k hN h.2)
end
end
end Pv

/-! Ev17: the table of defs; what the written part says, as a Bool. -/
set_option linter.all false
set_option Elab.async false
set_option maxRecDepth 100000
set_option maxHeartbeats 4000000
namespace Pv
open PySem PySem.Spec PyProof.Rows L2
/-- a def: its text, its names, its compact form -/
structure Row where
  d : He.DefD
  ns : List Str
  fn : Fn
def Row.ps (r : Row) : List Str := r.ns.take r.fn.np
def scB (ns ps : List Str) (sc : Scope) : Bool := (match sc.kind with
  | .function => true
  | _ => false) && !sc.isCoroutine && !sc.isGenerator && decide ns.Nodup && decide (ns.take ps.length = ps) && ps.all (fun x => match sc.names.lookup x with
    | some .local => true | some .cell => true
    | _ => false) && sc.names.all (fun y => match y.2 with
    | .free => false
    | _ => true)
theorem scB_ok {ns ps : List Str} {sc : Scope} (h : scB ns ps sc = true) : FnScope ns ps sc := by
  unfold scB at h
  simp only [Bool.and_eq_true, Bool.not_eq_true', decide_eq_true_eq, List.all_eq_true] at h
  obtain ⟨⟨⟨⟨⟨⟨h1, h2⟩, h3⟩, h4⟩, h5⟩, h6⟩, h7⟩ := h
  refine ⟨?_, h2, h3, h4, h5, fun x hx => ?_, fun y hy e => ?_⟩
  · split at h1
    · assumption
    · cases h1
  · have := h6 x hx
    split at this
    · rename_i q; exact .inl q
    · rename_i q; exact .inr q
    · cases this
  · have := h7 y hy
    rw [e] at this
    cases this
def rowB (N : Nm) (ats : List At) (r : Row) : Bool := scB r.ns r.ps r.d.scope && decide (r.fn.np ≤ r.ns.length) && decide (r.fn.nn = r.ns.length) && r.d.dfl.isEmpty && r.d.kwd.isEmpty && mSs N ats r.ns r.fn.body r.d.scope r.d.body
structure RowOk (N : Nm) (ats : List At) (r : Row) : Prop where
  b : rowB N ats r = true
  bind : ∀ (kV doc pm : Value) (an : Option Addr) (cdv ct : Value) (us : List Value), us.length = r.ps.length → bindArgs (PySem.W.fnOf r.d.name r.d.qual r.d.params r.d.body r.d.scope .none kV doc pm an cdv ct) ⟨us, []⟩ = pure (r.ps.zip us)
/-- the module's facts -/
structure Fx (N : Nm) (ats : List At) (K : PySem.W.Frag) (mg : Str → Option Value) : Prop where
  tx : Tx N K mg
  glf : ∀ (f : Nat) (x : Str), ats[f]? = some ((x, none) : At) → mg x = some (.ref (He.ga K x))
  mt : ∀ (f : Nat) (x m : Str), ats[f]? = some ((x, some m) : At) → Meth K (He.ga K x) m (He.ma K (He.ga K x) m)
  mkr : ∀ (f c : Nat), c < N.nC → ats[f]? = some ((N.cls c, some "__init__") : At) → Mk K (He.ga K (N.cls c)) (He.ma K (He.ga K (N.cls c)) "__init__")
section
variable {N : Nm} {P : Program} {w : World} {K : PySem.W.Frag} {mg : Str → Option Value} {base : Heap}
/-- what a def's call leaves, as its body's end -/
theorem post_call {F : Fr} {m : List Addr} {H : Hp} {o : Out} {Q : VK} {E : XK} (q : PostG N K (RV N K) F m H (match o with
        | .nx _ h' => Res.ok Val.non h'
        | .rt v h' => .ok v h'
        | .ex c a _ h' => .ex c a h'
        | _ => .no) Q E) : PostS N K F m H o { nx := fun _ H' => Q .non H', rt := Q } (fun cls d _ H => E cls d H) := by
  cases o with
  | nx e h' => exact fun F' m' H' σ' t R re => q F' m' H' .non t R (by simp only [RV])
  | rt v h' => exact fun F' m' H' u t R r => q F' m' H' u t R r
  | ex c a e h' => exact fun F' m' H' σ' cls d t R re x => q F' m' H' cls d t R x
  | bk e h' => exact False.elim q
  | ct e h' => exact False.elim q
  | no => exact q
theorem start_env {F : Fr} {m : List Addr} {H : Hp} {ns : List Str} {args : List Val} {vs : List V} (r : RVs N K F m H args vs) : REnv N K F m H (args.map some ++ List.replicate (ns.length - args.length) none) (L2.start ns vs) where
  len := by
    unfold L2.start
    rw [List.length_append, List.length_append, List.length_map, List.length_map, List.length_replicate, List.length_replicate, r.length]
  at_ := fun i x hx => by
    unfold L2.start
    by_cases hi : i < args.length
    · rw [List.getElem?_append_left (by rw [List.length_map]; exact hi), List.getElem?_map] at hx
      cases hq : args[i]? with
      | none => rw [hq] at hx; cases hx
      | some y =>
        rw [hq] at hx
        cases hx
        obtain ⟨v, h1, h2⟩ := r.get hq
        refine ⟨v, ?_, h2⟩
        rw [List.getElem?_append_left (by rw [List.length_map, ← r.length]; exact hi), List.getElem?_map, h1]
        rfl
    · rw [List.getElem?_append_right (by rw [List.length_map]; omega), List.getElem?_replicate] at hx
      split at hx <;> cases hx
theorem tab_ok {rows : List Row} (hr : ∀ r ∈ rows, RowOk N (rows.map (·.d.at_)) r) (fx : Fx N (rows.map (·.d.at_)) K mg) (hF : ∀ r ∈ rows, ∃ fd, FunD K r.d.name r.d.qual r.d.params r.d.body r.d.scope (r.d.dvs K) (r.d.kws K) (He.fAd K r.d.at_) fd) :
    ∀ (n f : Nat) (r : Row), rows[f]? = some r → ∀ fd, FunD K r.d.name r.d.qual r.d.params r.d.body r.d.scope (r.d.dvs K) (r.d.kws K) (He.fAd K r.d.at_) fd →
      FnOk P w K mg base (L2.CX P w) (2 * n) (He.fAd K r.d.at_) fd r.ps (spC N K (runF (rows.map (·.fn)) n) f) ∧ Binds K fd r.ps [] ∧ PySem.W.keepIn K (.ref (He.fAd K r.d.at_)) = true
  | n, f, r, hf, fd, FD => by
    have R := hr r (List.mem_of_getElem? hf)
    have RB := R.b
    unfold rowB at RB
    simp only [Bool.and_eq_true, decide_eq_true_eq, List.isEmpty_iff] at RB
    obtain ⟨⟨⟨⟨⟨b1, b2⟩, b3⟩, b4⟩, b5⟩, b6⟩ := RB
    have S := scB_ok b1
    have FD0 : FunD K r.d.name r.d.qual r.d.params r.d.body r.d.scope [] [] (He.fAd K r.d.at_) fd := by
      have e1 : r.d.dvs K = [] := by unfold He.DefD.dvs; rw [b4]; rfl
      have e2 : r.d.kws K = [] := by unfold He.DefD.kws; rw [b5]; rfl
      rw [e1, e2] at FD
      exact FD
    have hnp : r.ps.length = r.fn.np := by unfold Row.ps; rw [List.length_take]; omega
    have hfn : (rows.map (·.fn))[f]? = some r.fn := by rw [List.getElem?_map, hf]; rfl
    refine ⟨?_, FD0.bindsN R.bind, FD0.kp⟩
    cases n with
    | zero =>
      have no : ∀ vs H Q E, spC N K (runF (rows.map (·.fn)) 0) f vs H Q E → False := fun vs H Q E ⟨F, m, h, args, R, r, q⟩ => by
        simp only [runF] at q
        exact q
      exact ⟨fun vs H Q E h => (no vs H Q E h).elim, fun A outer s H args us vs Q E _ _ _ _ h => (no vs H Q E h).elim⟩
    | succ n =>
      have un : ∀ {F m H h args vs Q E}, RVs N K F m H args vs → PostG N K (RV N K) F m H (runF (rows.map (·.fn)) (n + 1) f args h) Q E → args.length = r.fn.np ∧ PostG N K (RV N K) F m H (match exSs (runF (rows.map (·.fn)) n) r.fn.body (args.map some ++ List.replicate (r.fn.nn - r.fn.np) none) h with
        | .nx _ h' => Res.ok Val.non h'
        | .rt v h' => .ok v h'
        | .ex c a _ h' => .ex c a h'
        | _ => .no) Q E := fun rv q => by
        rw [runF, hfn] at q
        dsimp only at q
        split at q
        · rename_i hl
          exact ⟨hl, q⟩
        · exact False.elim q
      refine FunD.ok (k := 2 * n + 1) FD0 S (fun vs H Q E ⟨F, m, h, args, R, rv, q⟩ => ?_) fun cdv A outer s H vs Q E hr0 ⟨F, m, h, args, R0, rv, q⟩ => ?_
      · rw [hnp, ← (un rv q).1, rv.length]
      · obtain ⟨hl, q⟩ := un rv q
        have kd : Kd N (rows.map (·.d.at_)) (runF (rows.map (·.fn)) n) (cxOf (L2.CX P w) P w K mg base r.ns r.d.qual r.d.scope (He.fAd K r.d.at_) cdv A outer s H E) r.d.scope (fun cls d _ H => E cls d H) := {
          nd := S.nd
          calm := rfl
          vis := fun x hx => visB_iff hx
          gl := fun x hx => glB_iff hx
          loc := fun x hx => ⟨locB_iff hx, .inl rfl⟩
          lcl := fun x hx => hx
          fre := fun x hx => hx
          tx := fx.tx
          fnok := fun f' p hp => by
            rw [List.getElem?_map] at hp
            cases hq : rows[f']? with
            | none => rw [hq] at hp; cases hp
            | some r' =>
              rw [hq] at hp
              cases hp
              obtain ⟨fd', FD'⟩ := hF r' (List.mem_of_getElem? hq)
              obtain ⟨a1, a2, a3⟩ := tab_ok hr fx hF n f' r' hq fd' FD'
              exact ⟨2 * n, fd', r'.ps, hr0, a1, a2, a3⟩
          glf := fx.glf
          mt := fx.mt
          mkr := fx.mkr
          units := by
            have := hr0.un
            show (A.deeper _).units + 65 < cLine
            omega
          env := rfl
          kind := S.kind
          po := passes_of rfl
          tk := takes_of rfl rfl rfl rfl }
        refine ⟨_, sndSs r.fn.body kd rfl b6, F, m, h, _, R0, ?_, post_call q⟩
        have := start_env (ns := r.ns) rv
        rw [hl, ← b3] at this
        exact this
end
/-! ### the facts as a Bool -/
def seqB (l : List Bool) : Bool := l.all id
/-- names of classes, of attributes -/
def txB (N : Nm) (K : PySem.W.Frag) : Bool :=
  freeNames.all (fun x => (He.Fa.free x).ok K) && (List.range N.nC).all (fun c => (He.Fa.cls (N.cls c)).ok K && (He.Fa.glo (N.cls c)).ok K && (List.range N.nF).all (fun f => (He.Fa.noat (N.cls c) (N.fld f)).ok K)
    && decide (PySem.W.findIn K (.ref (He.ga K (N.cls c))) "__class__" = some (some (.builtin "object.__class__"))) && decide (PySem.W.mroIn K (He.ga K (N.cls c)) (.type "object") = some true)
    && ["int", "bool", "str", "list", "tuple", "dict"].all (fun t => decide (PySem.W.kitOne K (.ref (He.ga K (N.cls c))) (.type t) = some false))
    && (List.range N.nC).all (fun d => decide (PySem.W.kitOne K (.ref (He.ga K (N.cls c))) (.ref (He.ga K (N.cls d))) = some (decide (c = d))))
    && tyNames.all (fun a => decide (PySem.W.kitOne K (.type a) (.ref (He.ga K (N.cls c))) = some false)))
  && decide (PySem.W.specialIn K (.builtin "object.__class__") "__get__" = some (some (.builtin "getset_descriptor.__get__"))) && decide (PySem.W.takesIn K (.builtin "object.__class__") = some true)
def atB (K : PySem.W.Frag) (p : At) : Bool := match p with
  | (x, none) => (He.Fa.glo x).ok K
  | (x, some m) => (He.Fa.meth x m).ok K && (if m = ("__init__" : Str) then (He.Fa.mkr x).ok K else true)
def fxB (N : Nm) (ats : List At) (K : PySem.W.Frag) : Bool := txB N K && ats.all (atB K)
theorem fx_ok {N : Nm} {ats : List At} {K : PySem.W.Frag} {mg : Str → Option Value} {h : Heap} (X : K.In h) (G : h.Ns mainGlobals mg) (b : fxB N ats K = true) : Fx N ats K mg := by
  unfold fxB txB at b
  simp only [Bool.and_eq_true, List.all_eq_true, decide_eq_true_eq, List.mem_range] at b
  obtain ⟨⟨⟨⟨h1, h2⟩, h3⟩, h4⟩, h5⟩ := b
  refine ⟨⟨fun x hx => He.free_ok X G (h1 x hx), fun c hc => He.cls_ok (h2 c hc).1.1.1.1.1.1.1, fun c hc => He.glo_ok X G (h2 c hc).1.1.1.1.1.1.2, fun c f hc hf => He.noat_ok ((h2 c hc).1.1.1.1.1.2 f hf), fun c hc => ⟨(h2 c hc).1.1.1.1.2, (h2 c hc).1.1.1.2⟩, ⟨h3, h4⟩, fun c t hc ht => ?_, fun c d hc hd => (h2 c hc).1.2 d hd, fun a ha c hc => (h2 c hc).2 a ha⟩, fun f x hf => ?_, fun f x m hf => ?_, fun f c hc hf => ?_⟩
  · refine (h2 c hc).1.1.2 t.nm ?_
    cases t <;> first | exact absurd rfl (ht _) | (simp [Tn.nm]; done)
  · have := h5 _ (List.mem_of_getElem? hf)
    exact He.glo_ok X G this
  · have := h5 _ (List.mem_of_getElem? hf)
    simp only [atB, Bool.and_eq_true] at this
    exact He.meth_ok this.1
  · have := h5 _ (List.mem_of_getElem? hf)
    simp only [atB, Bool.and_eq_true, if_true] at this
    exact He.mkr_ok this.2
end Pv

/-! Ev18: names from lists; a law's end. -/
set_option linter.all false
set_option Elab.async false
set_option maxRecDepth 100000
set_option maxHeartbeats 4000000
namespace Pv
open PySem PySem.Spec PyProof.Rows L2
/-- a class's statements -/
def inCls : Stmt → List Stmt
  | .ClassDef _ _ _ b _ _ _ _ _ _ _ => b
  | _ => []
def fldOf (fs : List Str) (i : Nat) : Str := match fs[i]? with
  | some f => f
  | none => ⟨(List.replicate (100 + i) 0).toArray⟩
theorem fldOf_far {fs : List Str} {i : Nat} (h : fs.length ≤ i) : (fldOf fs i).cps.size = 100 + i := by
  unfold fldOf
  rw [List.getElem?_eq_none h]
  simp
def mkNm (cs fs : List Str) (h1 : decide fs.Nodup = true) (h2 : (fs.all fun f => decide (f.cps.size < 100)) = true) : Nm where
  cls := fun i => cs.getD i ⟨#[]⟩
  fld := fldOf fs
  nC := cs.length
  nF := fs.length
  finj := fun i j e => by
    have nd := of_decide_eq_true h1
    rw [List.all_eq_true] at h2
    have near : ∀ i, i < fs.length → fs[i]? = some (fldOf fs i) ∧ (fldOf fs i).cps.size < 100 := fun i hi => by
      unfold fldOf
      rw [List.getElem?_eq_getElem hi]
      exact ⟨rfl, of_decide_eq_true (h2 _ (List.getElem_mem hi))⟩
    by_cases hi : i < fs.length
    · by_cases hj : j < fs.length
      · have a := (near i hi).1
        rw [e, ← (near j hj).1] at a
        rw [List.getElem?_eq_getElem hi, List.getElem?_eq_getElem hj] at a
        have a := Option.some.inj a
        have pw := List.pairwise_iff_getElem.mp nd
        rcases Nat.lt_trichotomy i j with z | z | z
        · exact absurd a (pw i j hi hj z)
        · exact z
        · exact absurd a.symm (pw j i hj hi z)
      · have a := (near i hi).2
        rw [e, fldOf_far (by omega)] at a
        omega
    · by_cases hj : j < fs.length
      · have a := (near j hj).2
        rw [← e, fldOf_far (by omega)] at a
        omega
      · have a := fldOf_far (fs := fs) (i := i) (by omega)
        rw [e, fldOf_far (by omega)] at a
        omega
  far := fun i hi => by
    rw [fldOf_far hi]
    omega
  xf := fun _ => none
theorem rvs_ints {N : Nm} {K : PySem.W.Frag} {F : Fr} {m : List Addr} {H : Hp} : ∀ ns : List Int, RVs N K F m H (ns.map .int) (ns.map V.int)
  | [] => .nil
  | i :: ns => .cons (by simp only [RV]) (rvs_ints ns)
theorem law_end {N : Nm} {rows : List Row} {P : Program} {w : World} {K : PySem.W.Frag} {mg : Str → Option Value} {h : Heap} {fa : Addr} {ex : PySem.W.Frag → Bool} (hr : ∀ r ∈ rows, RowOk N (rows.map (·.d.at_)) r) (X : K.In h) (G : h.Ns mainGlobals mg) (c : He.SaysX [] (rows.map (·.d)) [] [] ex w h K)
    (hex : ∀ K, ex K = true → fxB N (rows.map (·.d.at_)) K = true) (f : Nat) (r : Row) (hf : rows[f]? = some r) (hat : r.d.at_ = (("law" : Str), none)) {x : Str} (hps : r.ps = [x]) (n : Nat) (M : List Int → Prop) (math : ∀ ns : List Int, M ns → ∃ h, runF (rows.map (·.fn)) n f [.frz (ns.map .int)] [] = .ok (.bl true) h)
    (hfa : mg ("law" : Str) = some (.ref fa)) :
    ∃ (fd : FuncData) (sp : Sp), (∀ (s : Shared) (u : Value), BindsTo s fd ⟨[u], []⟩ [(x, u)]) ∧ (∀ (H : Hp) (a : Addr) (ns : List Int), M ns → Only H → SqL K H a (ns.map V.int) → sp [.ref a] H (fun v _ => v = .bl true) fun _ _ _ => False) ∧
      ∀ base : Heap, K.In base → base.Ns mainGlobals mg → FnOk P w K mg base (L2.CX P w) (2 * n) fa fd [x] sp := by
  have fx : Fx N (rows.map (·.d.at_)) K mg := fx_ok X G (hex K c.more)
  have hF : ∀ r ∈ rows, ∃ fd, FunD K r.d.name r.d.qual r.d.params r.d.body r.d.scope (r.d.dvs K) (r.d.kws K) (He.fAd K r.d.at_) fd := fun r hr => He.SaysD.defs c.t.d (List.mem_map_of_mem hr)
  obtain ⟨fd, FD⟩ := hF r (List.mem_of_getElem? hf)
  have efa : He.fAd K r.d.at_ = fa := by
    have := fx.glf f "law" (by rw [List.getElem?_map, hf, ← hat]; rfl)
    rw [hfa] at this
    cases this
    rw [hat]
    rfl
  have R := hr r (List.mem_of_getElem? hf)
  have RB := R.b
  unfold rowB at RB
  simp only [Bool.and_eq_true, decide_eq_true_eq, List.isEmpty_iff] at RB
  have FD0 : FunD K r.d.name r.d.qual r.d.params r.d.body r.d.scope [] [] (He.fAd K r.d.at_) fd := by
    have e1 : r.d.dvs K = [] := by unfold He.DefD.dvs; rw [RB.1.1.2]; rfl
    have e2 : r.d.kws K = [] := by unfold He.DefD.kws; rw [RB.1.2]; rfl
    rw [e1, e2] at FD
    exact FD
  have bd := FD0.bindsA R.bind
  refine ⟨fd, spC N K (runF (rows.map (·.fn)) n) f, fun s u => ?_, fun H a ns hl hO hS => ?_, fun base hB hG => ?_⟩
  · have := bd s [u] (by rw [hps]; rfl)
    rw [hps] at this
    exact this
  · refine ⟨fun _ => False, [], [], [.frz (ns.map .int)], ⟨rfl, List.nodup_nil, fun a ha => (by cases ha), fun a z => z.elim, fun n c a h1 => (by simp at h1)⟩, .cons ?_ .nil, ?_⟩
    · simp only [RV]
      refine ⟨a, _, rfl, ?_, rvs_ints ns⟩
      rcases hS with (hS | ⟨o, hS⟩) | hS
      · rcases hO a with z | ⟨o, xs, z⟩
        · rw [z] at hS; cases hS
        · rw [z] at hS; cases hS
      · exact .inl ⟨fun z => z, o, hS⟩
      · exact .inr hS
    · obtain ⟨h', e⟩ := math ns hl
      rw [e]
      exact fun F' m' H' v _ _ rv => by simpa only [RV] using rv
  · obtain ⟨a1, _, _⟩ := tab_ok (P := P) (w := w) (base := base) hr fx hF n f r hf fd FD
    rw [efa, hps] at a1
    exact a1
theorem cx_false {P : Program} {w : World} : ∀ (H : Hp) (s : Shared) (e : Value) (s' : Shared), L2.CX P w [] H s (fun _ _ _ => False) e s' → False := fun H s e s' ⟨_, _, _, _, _, _, _, _, _, _, _, _, z⟩ => z
/-- the law's walk, from what the evaluator says -/
theorem walk_end {l : PySem.W.OpenLaw} {rows : List Row} {N : Nm} {q : Program} {loose : List Str} {XP : (Str → Option Value) → Heap → Prop} {d : DefRec} {ex : PySem.W.Frag → Bool} {x : Str} {m f n : Nat} {r : Row}
    (hn : l.most = some 63) (hdf : d.params.defaults = []) (hname : d.name = ("law" : Str)) (hroom : Room (2 * n) callerA) (hr : ∀ r ∈ rows, RowOk N (rows.map (·.d.at_)) r) (hex : ∀ K, ex K = true → fxB N (rows.map (·.d.at_)) K = true) (hf : rows[f]? = some r) (hat : r.d.at_ = (("law" : Str), none)) (hps : r.ps = [x])
    (math : ∀ ns : List Int, ns.length ≤ 63 → (∀ k ∈ ns, Builtin.Int.intBits k ≤ 1048576) → ∃ h, runF (rows.map (·.fn)) n f [.frz (ns.map .int)] [] = .ok (.bl true) h) :
    PySem.W.WalkO q loose XP (He.hookX m [] (rows.map (·.d)) [] [] ex).says l.row.toRowW d [] (fun f vs => PySem.call f vs) := by
  refine Att.attach_callB hn hdf fun w s₀ s₁ mg mb fa o pm cd doc a vs ns G Y ho hd hcd hmg hobj hints hlen hbits hg => ?_
  obtain ⟨K, KX, c⟩ := Y
  rw [hname] at hmg
  have bits1 : ns.length ≤ sizeLine := Nat.le_trans hlen (by rw [sizeLine_eq]; decide)
  obtain ⟨fd, sp, hb, hsp, hF⟩ := law_end (P := l.prog) (w := w) hr KX G.T.g c hex f r hf hat hps n (fun z => z = ns) (fun ms e => by subst e; exact math _ hlen hbits) hmg
  exact law_call KX G.T.g G.T.b G.T.builtins G.T.nolimit hg hobj hints bits1 hroom hF hb (fun H hO hS => hsp H a ns rfl hO hS) fun H e s' => cx_false H s₁ e s'
end Pv

/-! Ev19: tools for the plain part: calls, loops, comprehensions. -/
set_option linter.all false
set_option Elab.async false
set_option maxRecDepth 100000
set_option maxHeartbeats 1000000
namespace Pv
open PySem
/-! ### a call -/
def fin : Out → Res Val
  | .nx _ h => .ok .non h
  | .rt v h => .ok v h
  | .ex c a _ h => .ex c a h
  | _ => .no
theorem runF_at {T : List Fn} {n f : Nat} {fn : Fn} {args : List Val} {h : Hv} (hf : T[f]? = some fn) (hl : args.length = fn.np) : runF T (n + 1) f args h = fin (exSs (runF T n) fn.body (args.map some ++ List.replicate (fn.nn - fn.np) none) h) := by
  rw [runF, hf]
  dsimp only
  rw [if_pos hl]
  cases exSs (runF T n) fn.body (args.map some ++ List.replicate (fn.nn - fn.np) none) h <;> rfl
mutual
theorem cells_data : ∀ (x : Val), isData x = true → cellsV x = []
  | .non, _ => rfl
  | .bl _, _ => rfl
  | .int _, _ => rfl
  | .str _, _ => rfl
  | .dct0, _ => rfl
  | .lst xs, h => by simp only [isData] at h; simp only [cellsV]; exact cellsL_data xs h
  | .tup xs, h => by simp only [isData] at h; simp only [cellsV]; exact cellsL_data xs h
  | .ins _ _ xs, h => by simp only [isData] at h; simp only [cellsV]; exact cellsL_data xs h
  | .frz xs, h => by simp only [isData] at h; simp only [cellsV]; exact cellsL_data xs h
  | .cell _, h => by simp [isData] at h
theorem cellsL_data : ∀ (xs : List Val), allData xs = true → cellsL xs = []
  | [], _ => by simp only [cellsL]
  | x :: xs, h => by
    simp only [allData, Bool.and_eq_true] at h
    simp only [cellsL]
    rw [cells_data x h.1, cellsL_data xs h.2]
    rfl
end
mutual
theorem rn_data {f : Nat → Option Nat} : ∀ (x : Val), isData x = true → rnV f x = some x
  | .non, _ => rfl
  | .bl _, _ => rfl
  | .int _, _ => rfl
  | .str _, _ => rfl
  | .dct0, _ => rfl
  | .lst xs, h => by simp only [isData] at h; simp only [rnV]; rw [rnL_data xs h]; rfl
  | .tup xs, h => by simp only [isData] at h; simp only [rnV]; rw [rnL_data xs h]; rfl
  | .ins _ _ xs, h => by simp only [isData] at h; simp only [rnV]; rw [rnL_data xs h]; rfl
  | .frz xs, h => by simp only [isData] at h; simp only [rnV]; rw [rnL_data xs h]; rfl
  | .cell _, h => by simp [isData] at h
theorem rnL_data {f : Nat → Option Nat} : ∀ (xs : List Val), allData xs = true → rnL f xs = some xs
  | [], _ => by simp only [rnL]
  | x :: xs, h => by
    simp only [allData, Bool.and_eq_true] at h
    simp only [rnL]
    rw [rn_data x h.1, rnL_data xs h.2]
end
theorem outV_data {s : Nat → Option Nat} {h : Hv} : ∀ (k : Nat) {x : Val}, isData x = true → outV s h k x = some x
  | 0, x, d => by simp only [outV, d, if_true]
  | k + 1, x, d => by cases x <;> simp only [outV, d, if_true]
theorem reach_nil (h : Hv) : ∀ k, reach h k [] = []
  | 0 => rfl
  | k + 1 => by rw [reach]; exact reach_nil h k
/-- of data arguments -/
theorem region_data {cf : CF} {f : Nat} {args : List Val} {h : Hv} (hd : allData args = true) : region cf f none args h = (match cf f args [] with
      | .ok x h' => (match leave [] h h' [x] with
        | some ([y], h2) => Res.ok y h2
        | _ => .no)
      | .ex c xs h' => (match leave [] h h' xs with
        | some (ys, h2) => .ex c ys h2
        | _ => .no)
      | .no => .no) := by
  unfold region
  rw [cellsL_data args hd]
  simp only [dedup, reach_nil]
  rw [rnL_data args hd]
  rfl
/-- a call that gives y and leaves nothing -/
def Gives (cf : CF) (f : Nat) (args : List Val) (y : Val) : Prop := ∀ h, region cf f none args h = .ok y h
theorem gives_of {cf : CF} {f : Nat} {args : List Val} {x y : Val} {h' : Hv} (hd : allData args = true) (e : cf f args [] = .ok x h') (hs : stays h' 0 = []) (ho : ∀ s, (∀ n, s n = none) → outV s h' 8 x = some y) : Gives cf f args y := fun h => by
  rw [region_data hd, e]
  have hn : ∀ n, nameOf [] [] h.length n = none := fun n => by unfold nameOf; simp [posOf]
  have : leave [] h h' [x] = some ([y], h) := by
    unfold leave
    simp only [List.length_nil, List.drop_zero, List.take_zero, hs, mapO]
    rw [ho _ hn]
    simp [putCs]
  dsimp only
  rw [this]
theorem gives_data {cf : CF} {f : Nat} {args : List Val} {x : Val} {h' : Hv} (hd : allData args = true) (e : cf f args [] = .ok x h') (hs : stays h' 0 = []) (hx : isData x = true) : Gives cf f args x := gives_of hd e hs fun s _ => outV_data 8 hx
/-- a local list's content -/
theorem gives_cell {cf : CF} {f : Nat} {args : List Val} {n : Nat} {g : Bool} {xs : List Val} {h' : Hv} (hd : allData args = true) (e : cf f args [] = .ok (.cell n) h') (hs : stays h' 0 = []) (hc : h'[n]? = some (.lst g xs)) (hx : allData xs = true) : Gives cf f args (.lst xs) := gives_of hd e hs fun s hn => by
  have hm : ∀ (k : Nat) (l : List Val), allData l = true → mapO (outV s h' k) l = some l := fun k l => by
    induction l with
    | nil => intro _; rfl
    | cons a l ih =>
      intro hl
      simp only [allData, Bool.and_eq_true] at hl
      simp only [mapO]
      rw [outV_data k hl.1, ih hl.2]
  rw [outV]
  simp only [isData, Bool.false_eq_true, if_false, hn, hc]
  rw [hm 7 xs hx]
  rfl
theorem stays_noexp : ∀ (l : Hv) (i : Nat), (∀ c ∈ l, exported c = false) → stays l i = []
  | [], _, _ => rfl
  | c :: l, i, h => by
    rw [stays, h c (List.mem_cons_self ..)]
    simp only [Bool.false_eq_true, if_false]
    exact stays_noexp l (i + 1) fun d hd => h d (List.mem_cons_of_mem _ hd)
/-! ### loops over what does not change -/
/-- a for over xs -/
def forS (bind : Val → Env → Hv → Option Env) (body : Env → Hv → Out) : List Val → Env → Hv → Out
  | [], e, h => .nx e h
  | x :: r, e, h => match bind x e h with
    | none => .no
    | some e1 => match body e1 h with
      | .nx e2 h2 => forS bind body r e2 h2
      | .ct e2 h2 => forS bind body r e2 h2
      | .bk e2 h2 => .nx e2 h2
      | o => o
theorem srcAt_fix {xs : List Val} {h : Hv} {i : Nat} (hi : i ≤ xs.length) : srcAt (fun _ => some xs) h i = some xs[i]? := by
  unfold srcAt
  dsimp only
  rw [if_pos hi]
theorem forL_fix0 {bind : Val → Env → Hv → Option Env} {body : Env → Hv → Out} {xs : List Val} : ∀ (k i : Nat) (e : Env) (h : Hv), i ≤ xs.length → xs.length + 1 ≤ i + k → forL bind body (fun _ => some xs) k i e h = forS bind body (xs.drop i) e h
  | 0, i, e, h, h1, h2 => by omega
  | k + 1, i, e, h, h1, h2 => by
    rw [forL, srcAt_fix h1]
    by_cases hi : i < xs.length
    · rw [List.getElem?_eq_getElem hi, List.drop_eq_getElem_cons hi]
      dsimp only
      rw [forS]
      cases bind xs[i] e h with
      | none => rfl
      | some e1 =>
        dsimp only
        cases body e1 h with
        | nx e2 h2 => exact forL_fix0 k (i + 1) e2 h2 hi (by omega)
        | ct e2 h2 => exact forL_fix0 k (i + 1) e2 h2 hi (by omega)
        | bk e2 h2 => rfl
        | rt v h2 => rfl
        | ex c a e2 h2 => rfl
        | no => rfl
    · have : i = xs.length := by omega
      subst this
      rw [List.getElem?_eq_none (Nat.le_refl _), List.drop_length]
      rfl
theorem forL_fix {bind : Val → Env → Hv → Option Env} {body : Env → Hv → Out} {xs : List Val} {k : Nat} {e : Env} {h : Hv} (hk : xs.length + 1 ≤ k) : forL bind body (fun _ => some xs) k 0 e h = forS bind body xs e h := by
  have := forL_fix0 (bind := bind) (body := body) (xs := xs) k 0 e h (Nat.zero_le _) (by omega)
  simpa using this
/-- a for that runs through -/
theorem forS_thru {bind : Val → Env → Hv → Option Env} {body : Env → Hv → Out} (P : List Val → Env → Hv → Prop) : ∀ (done xs : List Val) (e : Env) (h : Hv), P done e h → (∀ (d : List Val) (x : Val) (r : List Val) (e : Env) (h : Hv), done ++ xs = d ++ x :: r → P d e h → ∃ e1 e2 h2, bind x e h = some e1 ∧ (body e1 h = .nx e2 h2 ∨ body e1 h = .ct e2 h2) ∧ P (d ++ [x]) e2 h2) →
    ∃ e' h', forS bind body xs e h = .nx e' h' ∧ P (done ++ xs) e' h'
  | done, [], e, h, p, st => ⟨e, h, rfl, by rw [List.append_nil]; exact p⟩
  | done, x :: r, e, h, p, st => by
    obtain ⟨e1, e2, h2, b1, b2, p2⟩ := st done x r e h rfl p
    obtain ⟨e', h', c1, c2⟩ := forS_thru P (done ++ [x]) r e2 h2 p2 (fun d y s e h hd q => st d y s e h (by rw [← hd]; simp) q)
    refine ⟨e', h', ?_, by simpa using c2⟩
    rw [forS, b1]
    dsimp only
    rcases b2 with b2 | b2 <;> rw [b2] <;> exact c1
theorem for_thru {bind : Val → Env → Hv → Option Env} {body : Env → Hv → Out} {xs : List Val} {e : Env} {h : Hv} (P : List Val → Env → Hv → Prop) (h0 : P [] e h) (st : ∀ (d : List Val) (x : Val) (r : List Val) (e : Env) (h : Hv), xs = d ++ x :: r → P d e h → ∃ e1 e2 h2, bind x e h = some e1 ∧ (body e1 h = .nx e2 h2 ∨ body e1 h = .ct e2 h2) ∧ P (d ++ [x]) e2 h2) :
    ∃ e' h', forS bind body xs e h = .nx e' h' ∧ P xs e' h' := by
  have := forS_thru (bind := bind) (body := body) P [] xs e h h0 (fun d x r e h hd q => st d x r e h (by simpa using hd) q)
  simpa using this
/-! ### comprehensions over what does not change -/
theorem lcL_fix0 {f : Val → Hv → Res (Option Val)} {xs : List Val} {h : Hv} (g : Val → Val) (hf : ∀ x ∈ xs, f x h = .ok (some (g x)) h) (hl : xs.length ≤ lim) : ∀ (k i : Nat) (acc : List Val), i ≤ xs.length → acc.length ≤ i → xs.length + 1 ≤ i + k → lcL f (fun _ => some xs) k i h acc = .ok (.lst (acc ++ (xs.drop i).map g)) h
  | 0, i, acc, h1, h2, h3 => by omega
  | k + 1, i, acc, h1, h2, h3 => by
    rw [lcL, srcAt_fix h1]
    by_cases hi : i < xs.length
    · rw [List.getElem?_eq_getElem hi, List.drop_eq_getElem_cons hi]
      dsimp only
      rw [hf _ (List.getElem_mem hi)]
      dsimp only
      rw [if_pos (by omega), lcL_fix0 g hf hl k (i + 1) (acc ++ [g xs[i]]) hi (by rw [List.length_append]; simp only [List.length_singleton]; omega) (by omega)]
      rw [List.map_cons, List.append_assoc]
      rfl
    · have : i = xs.length := by omega
      subst this
      rw [List.getElem?_eq_none (Nat.le_refl _), List.drop_length]
      simp
/-- a comprehension that only reads -/
theorem lcL_map {f : Val → Hv → Res (Option Val)} {xs : List Val} {k : Nat} {h : Hv} (g : Val → Val) (hf : ∀ x ∈ xs, f x h = .ok (some (g x)) h) (hl : xs.length ≤ lim) (hk : xs.length + 1 ≤ k) : lcL f (fun _ => some xs) k 0 h [] = .ok (.lst (xs.map g)) h := by
  have := lcL_fix0 g hf hl k 0 [] (Nat.zero_le _) (Nat.le_refl _) (by omega)
  simpa using this
end Pv

/-! Ev20: the evaluator's equations, loops kept folded. -/
set_option linter.all false
set_option Elab.async false
set_option maxRecDepth 100000
set_option maxHeartbeats 1000000
namespace Pv
open PySem
section
variable {cf : CF} {e : Env} {h h1 : Hv}
@[simp] theorem evE_var {i : Nat} : evE cf (.var i) e h = (match e[i]? with
    | some (some v) => .ok v h
    | _ => .no) := by rw [evE] <;> rfl
@[simp] theorem evE_con {c : Cst} : evE cf (.con c) e h = .ok c.val h := by rw [evE]
@[simp] theorem evE_bin {op : Bop} {a b : E} : evE cf (.bin op a b) e h = (evE cf a e h).bind fun x h1 => (evE cf b e h1).bind fun y h2 => ofO (binV h2 op x y) h2 := by rw [evE]
@[simp] theorem evE_cmp {op : Cop} {a b : E} : evE cf (.cmp op a b) e h = (evE cf a e h).bind fun x h1 => (evE cf b e h1).bind fun y h2 => ofO ((cmpV h2 op x y).map .bl) h2 := by rw [evE]
@[simp] theorem evE_chain {op op' : Cop} {a b c : E} : evE cf (.chain op op' a b c) e h = (evE cf a e h).bind fun x h1 => (evE cf b e h1).bind fun y h2 => match cmpV h2 op x y with
    | some true => (evE cf c e h2).bind fun z h3 => ofO ((cmpV h3 op' y z).map .bl) h3
    | some false => .ok (.bl false) h2
    | none => .no := by rw [evE] <;> rfl
@[simp] theorem evE_bop {f : Bool} {es : List E} : evE cf (.bop f es) e h = evB cf f es e h := by rw [evE]
@[simp] theorem evE_not {a : E} : evE cf (.not a) e h = (evE cf a e h).bind fun x h1 => match x with
    | .bl c => .ok (.bl (!c)) h1
    | _ => .no := by rw [evE] <;> rfl
@[simp] theorem evE_neg {a : E} : evE cf (.neg a) e h = (evE cf a e h).bind fun x h1 => match x with
    | .int c => .ok (.int (-c)) h1
    | _ => .no := by rw [evE] <;> rfl
@[simp] theorem evE_ite {c a b : E} : evE cf (.ite c a b) e h = (evE cf c e h).bind fun x h1 => match x with
    | .bl true => evE cf a e h1
    | .bl false => evE cf b e h1
    | _ => .no := by rw [evE] <;> rfl
@[simp] theorem evE_lst {es : List E} : evE cf (.lst es) e h = (evEs cf es e h).bind fun xs h1 => if xs.length ≤ lim then .ok (.lst xs) h1 else .no := by rw [evE]
@[simp] theorem evE_tup {es : List E} : evE cf (.tup es) e h = (evEs cf es e h).bind fun xs h1 => if xs.length ≤ lim then .ok (.tup xs) h1 else .no := by rw [evE]
@[simp] theorem evE_dct0 : evE cf .dct0 e h = .ok .dct0 h := by rw [evE]
@[simp] theorem evE_keep {f : Bool} {a : E} : evE cf (.keep f a) e h = (evE cf a e h).bind (keepR f) := by rw [evE]
@[simp] theorem evE_ix {a b : E} : evE cf (.ix a b) e h = (evE cf a e h).bind fun x h1 => (evE cf b e h1).bind fun y h2 => ofO (atV h2 x y) h2 := by rw [evE]
@[simp] theorem evE_sl {a lo hi : E} : evE cf (.sl a lo hi) e h = (evE cf a e h).bind fun x h1 => (evE cf lo e h1).bind fun y h2 => match partE lo y with
    | none => .no
    | some l => (evE cf hi e h2).bind fun z h3 => match partE hi z with
      | none => .no
      | some u => ofO (slV h3 x l u) h3 := by rw [evE] <;> rfl
@[simp] theorem evE_fld {a : E} {f : Nat} : evE cf (.fld a f) e h = (evE cf a e h).bind fun x h1 => ofO (fldV h1 x f) h1 := by rw [evE]
@[simp] theorem evE_call {f : Nat} {es : List E} : evE cf (.call f es) e h = (evEs cf es e h).bind fun xs h1 => region cf f none xs h1 := by rw [evE]
@[simp] theorem evE_new {c f : Nat} {mu : Bool} {es : List E} : evE cf (.new c f mu es) e h = (evEs cf es e h).bind fun xs h1 => region cf f (some (c, mu)) xs h1 := by rw [evE]
@[simp] theorem evE_meth {c f : Nat} {o : E} {es : List E} : evE cf (.meth c f o es) e h = (evE cf o e h).bind fun x h1 => if clsV h1 x = some c then (evEs cf es e h1).bind fun xs h2 => region cf f none (x :: xs) h2 else .no := by rw [evE]
@[simp] theorem evE_blt {b : Blt} {es : List E} : evE cf (.blt b es) e h = (evEs cf es e h).bind fun xs h1 => ofO (bltV h1 b xs) h1 := by rw [evE]
@[simp] theorem evE_bm {b : Bm} {o : E} {es : List E} : evE cf (.bm b o es) e h = (evE cf o e h).bind fun x h1 => if bmTy b h1 x then (evEs cf es e h1).bind fun xs h2 => bmV b x xs h2 else .no := by rw [evE]
@[simp] theorem evE_isi {a : E} {t : Tn} : evE cf (.isi a t) e h = (evE cf a e h).bind fun x h1 => ofO ((isiV h1 x t).map .bl) h1 := by rw [evE]
theorem evE_lc {vs : List Nat} {elt tst : E} {tg : Tg} {it : It} : evE cf (.lc vs elt tg it tst) e h = (evI cf it e h).bind fun xs h1 => lcL (lcF (fun e h => evE cf tst e h) (fun e h => evE cf elt e h) vs tg e) xs.2 xs.1 0 h1 [] := by rw [evE]
theorem evE_lc2 {vs vs1 : List Nat} {elt : E} {tg tg1 : Tg} {it it1 : It} : evE cf (.lc2 vs vs1 elt tg it tg1 it1) e h = (evI cf it e h).bind fun xs h1 => lcEnd (lc2L (lcO (fun e h => evI cf it1 e h) (fun e h => evE cf elt e h) vs vs1 tg tg1 e) xs.2 xs.1 0 h1 []) := by rw [evE]
@[simp] theorem evEs_nil : evEs cf [] e h = .ok [] h := by rw [evEs]
@[simp] theorem evEs_star {a : E} {r : List E} : evEs cf (.star a :: r) e h = (evE cf a e h).bind fun x h1 => match seqs h1 x with
    | some xs => (evEs cf r e h1).bind fun ys h2 => .ok (xs ++ ys) h2
    | none => .no := by rw [evEs] <;> rfl
@[simp] theorem evEs_one {a : E} {r : List E} (ha : isStarE a = false) : evEs cf (a :: r) e h = (evE cf a e h).bind fun x h1 => (evEs cf r e h1).bind fun ys h2 => .ok (x :: ys) h2 := evEs_cons ha
@[simp] theorem evB_one {f : Bool} {a : E} : evB cf f [a] e h = evE cf a e h := by rw [evB]
@[simp] theorem evB_more {f : Bool} {a b : E} {r : List E} : evB cf f (a :: b :: r) e h = (evE cf a e h).bind fun x h1 => match x with
    | .bl c => if c = f then evB cf f (b :: r) e h1 else .ok (.bl c) h1
    | _ => .no := evB_two
@[simp] theorem evI_seq {a : E} : evI cf (.seq a) e h = (evE cf a e h).bind fun x h1 => match seqs h1 x with
    | some xs => .ok (fuelV x xs, fun h => seqs h x) h1
    | none => .no := by rw [evI] <;> rfl
@[simp] theorem evI_rng {a : E} : evI cf (.rng a) e h = Res.bind (β := Src) (evE cf a e h) fun x h1 => match x with
    | .int i => if -1000000 ≤ i ∧ i ≤ 1000000 then .ok (i.toNat + 1, fun _ => some (rngV 0 i.toNat)) h1 else .no
    | _ => .no := by rw [evI] <;> rfl
@[simp] theorem evI_rng2 {a b : E} : evI cf (.rng2 a b) e h = Res.bind (β := Src) (evE cf a e h) fun x h1 => Res.bind (β := Src) (evE cf b e h1) fun y h2 => match x, y with
    | .int i, .int j => if -1000000 ≤ i ∧ i ≤ 1000000 ∧ -1000000 ≤ j ∧ j ≤ 1000000 then .ok ((j - i).toNat + 1, fun _ => some (rngV i (j - i).toNat)) h2 else .no
    | _, _ => .no := by rw [evI] <;> rfl
@[simp] theorem evI_enum {a : E} : evI cf (.enum a) e h = (evE cf a e h).bind fun x h1 => match items h1 x with
    | some xs => .ok (fuelV x xs, fun h => (items h x).map fun xs => enumV xs 0) h1
    | none => .no := by rw [evI] <;> rfl
@[simp] theorem evI_zip {a b : E} : evI cf (.zip a b) e h = (evE cf a e h).bind fun x h1 => (evE cf b e h1).bind fun y h2 => match items h2 x, items h2 y with
    | some xs, some ys => .ok (fuelV x xs + fuelV y ys, fun h => match items h x, items h y with
      | some xs, some ys => some (zipV xs ys)
      | _, _ => none) h2
    | _, _ => .no := by rw [evI] <;> rfl
/-! ### statements -/
@[simp] theorem exS_set {i : Nat} {a : E} : exS cf (.set i a) e h = (evE cf a e h).out e fun v h1 => .nx (e.set i (some v)) h1 := by rw [exS]
@[simp] theorem exS_unp {is : List Tg} {a : E} : exS cf (.unp is a) e h = (evE cf a e h).out e fun v h1 => match bindT h1 (.t is) v e with
    | some e1 => .nx e1 h1
    | none => .no := by rw [exS] <;> rfl
@[simp] theorem exS_aug {i : Nat} {op : Bop} {a : E} : exS cf (.aug i op a) e h = (match e[i]? with
    | some (some (.int x)) => (evE cf a e h).out e fun y h1 => match augV op x y with
      | some z => .nx (e.set i (some (.int z))) h1
      | none => .no
    | _ => .no) := by rw [exS] <;> rfl
@[simp] theorem exS_seti {o i v : E} : exS cf (.seti o i v) e h = (evE cf v e h).out e fun y h1 => (evE cf o e h1).out e fun x h2 => (evE cf i e h2).out e fun k h3 => match setV h3 x k y with
    | some h4 => .nx e h4
    | none => .no := by rw [exS] <;> rfl
@[simp] theorem exS_setf {o v : E} {f : Nat} : exS cf (.setf o f v) e h = (evE cf v e h).out e fun y h1 => (evE cf o e h1).out e fun x h2 => match setfV h2 x f y with
    | some h3 => .nx e h3
    | none => .no := by rw [exS] <;> rfl
@[simp] theorem exS_augf {o v : E} {f : Nat} : exS cf (.augf o f v) e h = (evE cf o e h).out e fun x h1 => match fldV h1 x f with
    | some (.int i) => (evE cf v e h1).out e fun y h2 => (match y with
      | .int j => if clsV h1 x = clsV h2 x then (match setfV h2 x f (.int (i + j)) with
        | some h3 => .nx e h3
        | none => .no) else .no
      | _ => .no)
    | _ => .no := by rw [exS] <;> rfl
@[simp] theorem exS_expr {a : E} : exS cf (.expr a) e h = (evE cf a e h).out e fun _ h1 => .nx e h1 := by rw [exS]
@[simp] theorem exS_ret {a : E} : exS cf (.ret a) e h = (evE cf a e h).out e fun v h1 => .rt v h1 := by rw [exS]
@[simp] theorem exS_retN : exS cf .retN e h = .rt .non h := by rw [exS]
@[simp] theorem exS_ifs {c : E} {a b : List S} : exS cf (.ifs c a b) e h = (evE cf c e h).out e fun x h1 => match x with
    | .bl true => exSs cf a e h1
    | .bl false => exSs cf b e h1
    | _ => .no := by rw [exS] <;> rfl
theorem exS_for {tg : Tg} {it : It} {body : List S} : exS cf (.for_ tg it body) e h = (evI cf it e h).out e fun xs h1 => forL (fun x e h => bindT h tg x e) (fun e h => exSs cf body e h) xs.2 xs.1 0 e h1 := by rw [exS]
theorem exS_while {c : E} {body : List S} : exS cf (.while_ c body) e h = whileL (fun e h => evE cf c e h) (fun e h => exSs cf body e h) wturns e h := by rw [exS]
@[simp] theorem exS_brk : exS cf .brk e h = .bk e h := by rw [exS]
@[simp] theorem exS_cont : exS cf .cont e h = .ct e h := by rw [exS]
@[simp] theorem exS_pass : exS cf .pass e h = .nx e h := by rw [exS]
@[simp] theorem exSs_nil : exSs cf [] e h = .nx e h := by rw [exSs]
@[simp] theorem exSs_cons {s : S} {r : List S} : exSs cf (s :: r) e h = (match exS cf s e h with
    | .nx e1 h1 => exSs cf r e1 h1
    | o => o) := by rw [exSs] <;> rfl
@[simp] theorem seqs_lst {xs : List Val} : seqs h (.lst xs) = some xs := rfl
@[simp] theorem seqs_frz {xs : List Val} : seqs h (.frz xs) = some xs := rfl
@[simp] theorem seqs_tup {xs : List Val} : seqs h (.tup xs) = some xs := rfl
@[simp] theorem items_lst {xs : List Val} : items h (.lst xs) = some xs := rfl
@[simp] theorem items_frz {xs : List Val} : items h (.frz xs) = some xs := rfl
@[simp] theorem fin_nx : fin (.nx e h) = .ok .non h := rfl
@[simp] theorem fin_rt {v : Val} : fin (.rt v h) = .ok v h := rfl
@[simp] theorem fuelV_lst {x xs : List Val} : fuelV (.lst x) xs = xs.length + 1 := rfl
@[simp] theorem fuelV_frz {x xs : List Val} : fuelV (.frz x) xs = xs.length + 1 := rfl
@[simp] theorem fuelV_tup {x xs : List Val} : fuelV (.tup x) xs = xs.length + 1 := rfl
/-- a for over what does not change, given its loop -/
theorem for_fix {tg : Tg} {it : It} {body : List S} {xs : List Val} {k : Nat} (hi : evI cf it e h = .ok (k, fun _ => some xs) h1) (hk : xs.length + 1 ≤ k) : exS cf (.for_ tg it body) e h = forS (fun x e h => bindT h tg x e) (fun e h => exSs cf body e h) xs e h1 := by
  rw [exS_for, hi, Res.out_ok, forL_fix hk]
/-- a comprehension that only reads -/
theorem lc_map {vs : List Nat} {elt : E} {tg : Tg} {it : It} {xs : List Val} {k : Nat} (hi : evI cf it e h = .ok (k, fun _ => some xs) h1) (hk : xs.length + 1 ≤ k) (hl : xs.length ≤ lim) (g : Val → Val) (hg : ∀ x ∈ xs, ∃ e', bindT h1 tg x (wipeE e vs) = some e' ∧ evE cf elt e' h1 = .ok (g x) h1) : evE cf (.lc vs elt tg it (.con (.bl true))) e h = .ok (.lst (xs.map g)) h1 := by
  rw [evE_lc, hi, Res.bind_ok]
  refine lcL_map g (fun x hx => ?_) hl hk
  obtain ⟨e', h2, h3⟩ := hg x hx
  unfold lcF
  rw [h2]
  simp [Cst.val, h3]
end
end Pv

/-! Ev21: calls with one cell. -/
set_option linter.all false
set_option Elab.async false
set_option maxRecDepth 100000
set_option maxHeartbeats 1000000
namespace Pv
open PySem
def dataC : Cell → Bool
  | .lst _ xs => allData xs
  | .ins _ _ _ xs => allData xs
theorem inC_data {C : Cell} (h : dataC C = true) : inC C = [] := by
  cases C with
  | lst g xs => exact cellsL_data xs h
  | ins g c ks xs => exact cellsL_data xs h
theorem rnC_data {C : Cell} {f : Nat → Option Nat} (h : dataC C = true) : rnC f C = some C := by
  cases C with
  | lst g xs => simp only [rnC]; rw [rnL_data xs h]; rfl
  | ins g c ks xs => simp only [rnC]; rw [rnL_data xs h]; rfl
theorem mapO_data {s : Nat → Option Nat} {h : Hv} {k : Nat} : ∀ {l : List Val}, allData l = true → mapO (outV s h k) l = some l
  | [], _ => rfl
  | a :: l, hl => by
    simp only [allData, Bool.and_eq_true] at hl
    simp only [mapO]
    rw [outV_data k hl.1, mapO_data hl.2]
theorem outC_data {C : Cell} {s : Nat → Option Nat} {h : Hv} (d : dataC C = true) : outC true s h C = some C := by
  cases C with
  | lst g xs => simp only [outC]; rw [mapO_data d]; rfl
  | ins g c ks xs => simp only [outC]; rw [mapO_data d]; rfl
theorem reach_one {h : Hv} {c : Nat} {C : Cell} (hc : h[c]? = some C) (d : dataC C = true) : ∀ k, reach h k [c] = [c]
  | 0 => rfl
  | k + 1 => by
    rw [reach]
    simp only [List.flatMap_cons, List.flatMap_nil, hc, inC_data d, List.append_nil, dedup]
    exact reach_one hc d k
theorem region_cell {cf : CF} {f c : Nat} {ds : List Val} {h ls : Hv} {C C2 : Cell} {x y : Val} (hd : allData ds = true) (hc : h[c]? = some C) (dC : dataC C = true) (e : cf f (.cell 0 :: ds) [C] = .ok x (C2 :: ls)) (d2 : dataC C2 = true) (hs : stays ls 1 = []) (ho : ∀ s, s 0 = some c → (∀ n, s (n + 1) = none) → outV s (C2 :: ls) 8 x = some y) :
    region cf f none (.cell c :: ds) h = .ok y (h.set c C2) := by
  have e1 : cellsL (.cell c :: ds) = [c] := by simp only [cellsL, cellsV]; rw [cellsL_data ds hd]; rfl
  have e2 : dedup [] [c] = [c] := by simp [dedup]
  unfold region
  simp only [e1, e2, reach_one hc dC]
  have e3 : getCs h (fun n => posOf n [c] 0) [c] = some [C] := by
    unfold getCs
    simp [mapO, hc, rnC_data dC]
  have e4 : rnL (fun n => posOf n [c] 0) (.cell c :: ds) = some (.cell 0 :: ds) := by
    simp only [rnL]
    rw [rnL_data ds hd]
    simp [rnV, posOf]
  rw [e3, e4]
  simp only [List.nodup_cons, List.not_mem_nil, not_false_eq_true, List.nodup_nil, and_self, decide_true, if_true]
  rw [e]
  have s0 : nameOf [c] [] h.length 0 = some c := by simp [nameOf]
  have s1 : ∀ n, nameOf [c] [] h.length (n + 1) = none := fun n => by simp [nameOf, posOf]
  have e5 : leave [c] h (C2 :: ls) [x] = some ([y], h.set c C2) := by
    unfold leave
    simp only [List.length_cons, List.length_nil, Nat.zero_add, List.drop_succ_cons, List.drop_zero, hs, mapO, List.take_succ_cons, List.take_zero]
    rw [ho _ s0 s1, outC_data d2]
    simp [putCs]
  dsimp only
  rw [e5]
/-- .. that gives data -/
theorem region_cell_data {cf : CF} {f c : Nat} {ds : List Val} {h ls : Hv} {C C2 : Cell} {x : Val} (hd : allData ds = true) (hc : h[c]? = some C) (dC : dataC C = true) (e : cf f (.cell 0 :: ds) [C] = .ok x (C2 :: ls)) (d2 : dataC C2 = true) (hs : stays ls 1 = []) (hx : isData x = true) : region cf f none (.cell c :: ds) h = .ok x (h.set c C2) :=
  region_cell hd hc dC e d2 hs fun s _ _ => outV_data 8 hx
/-- .. that gives a local list's content -/
theorem region_cell_lst {cf : CF} {f c n : Nat} {g : Bool} {ds xs : List Val} {h ls : Hv} {C C2 : Cell} (hd : allData ds = true) (hc : h[c]? = some C) (dC : dataC C = true) (e : cf f (.cell 0 :: ds) [C] = .ok (.cell (n + 1)) (C2 :: ls)) (d2 : dataC C2 = true) (hs : stays ls 1 = []) (hl : ls[n]? = some (.lst g xs)) (hx : allData xs = true) : region cf f none (.cell c :: ds) h = .ok (.lst xs) (h.set c C2) :=
  region_cell hd hc dC e d2 hs fun s _ hn => by
    rw [outV]
    simp only [isData, Bool.false_eq_true, if_false, hn, List.getElem?_cons_succ, hl]
    rw [mapO_data hx]
    rfl
end Pv

set_option linter.all false
set_option Elab.async false
set_option maxRecDepth 100000
set_option maxHeartbeats 0
namespace LawT
open PySem PySem.Spec PyProof.Rows L2 Pv
def top (i : Nat) : Stmt := PySem.Challenge.pw_latecomers_k92_text_of_a_sender.main.body.getD i (.Pass ⟨0, 0, 0, 0⟩)
def cs : List Str := ["Sender", "Lines"]
def fs : List Str := ["roads", "lines", "at"]
def nm : Nm := mkNm cs fs (by decide +kernel) (by decide +kernel)
/-- is_integer -/
def f0 : List S := [
  (.ret (.bop true [(.isi (.var 0) .int), (.not (.isi (.var 0) .bool))]))]
abbrev s0 : Stmt := (top 8)
def r0 : Pv.Row := ⟨⟨("is_integer", none), "is_integer", "is_integer", defArgs s0, defBody s0, defScope s0, [], []⟩, ["value"], ⟨1, 1, f0⟩⟩
/-- is_index -/
def f1 : List S := [
  (.ret (.bop true [(.call 0 [(.var 0)]), (.chain .le .lt (.con (.int 0)) (.var 0) (.var 1))]))]
abbrev s1 : Stmt := (top 9)
def r1 : Pv.Row := ⟨⟨("is_index", none), "is_index", "is_index", defArgs s1, defBody s1, defScope s1, [], []⟩, ["value", "many"], ⟨2, 2, f1⟩⟩
/-- are_kinds -/
def f2 : List S := [
  (.ifs (.not (.isi (.var 0) .list)) [(.ret (.con (.bl false)))] []),
  (.for_ (.n 2) (.seq (.var 0)) [(.ifs (.not (.call 1 [(.var 2), (.var 1)])) [(.ret (.con (.bl false)))] [])]),
  (.ret (.con (.bl true)))]
abbrev s2 : Stmt := (top 10)
def r2 : Pv.Row := ⟨⟨("are_kinds", none), "are_kinds", "are_kinds", defArgs s2, defBody s2, defScope s2, [], []⟩, ["value", "kinds", "item"], ⟨2, 3, f2⟩⟩
/-- are_ways -/
def f3 : List S := [
  (.ifs (.bop false [(.not (.isi (.var 0) .list)), (.cmp .eq (.blt .len [(.var 0)]) (.con (.int 0)))]) [(.ret (.con (.bl false)))] []),
  (.set 2 (.tup [(.neg (.con (.int 1))), (.neg (.con (.int 1)))])),
  (.for_ (.n 3) (.seq (.var 0)) [(.ifs (.bop false [(.not (.isi (.var 3) .tuple)), (.cmp .ne (.blt .len [(.var 3)]) (.con (.int 2)))]) [(.ret (.con (.bl false)))] []), (.ifs (.bop false [(.not (.call 1 [(.ix (.var 3) (.con (.int 0))), (.con (.int 3))])), (.not (.call 1 [(.ix (.var 3) (.con (.int 1))), (.var 1)])), (.cmp .le (.var 3) (.var 2))]) [(.ret (.con (.bl false)))] []), (.set 2 (.var 3))]),
  (.ret (.con (.bl true)))]
abbrev s3 : Stmt := (top 12)
def r3 : Pv.Row := ⟨⟨("are_ways", none), "are_ways", "are_ways", defArgs s3, defBody s3, defScope s3, [], []⟩, ["value", "states", "last", "way"], ⟨2, 4, f3⟩⟩
/-- Sender.__init__ -/
def f4 : List S := [
  (.ifs (.bop false [(.not (.isi (.var 1) .list)), (.not (.chain .le .le (.con (.int 1)) (.blt .len [(.var 1)]) (.con (.int 2))))]) [.dead] []),
  (.for_ (.t [(.n 2), (.n 3)]) (.enum (.var 1)) [(.ifs (.not (.call 3 [(.var 3), (.blt .len [(.var 1)])])) [.dead] [])]),
  (.setf (.var 0) 0 (.lc [3] (.blt .list [(.var 3)]) (.n 3) (.seq (.var 1)) (.con (.bl true))))]
abbrev s4 : Stmt := ((inCls (top 13)).getD 0 (.Pass ⟨0, 0, 0, 0⟩))
def r4 : Pv.Row := ⟨⟨("Sender", some ("__init__" : Str)), "__init__", "Sender.__init__", defArgs s4, defBody s4, defScope s4, [], []⟩, ["self", "ways", "state", "line"], ⟨2, 4, f4⟩⟩
/-- Sender.state_count -/
def f5 : List S := [
  (.ret (.blt .len [(.fld (.var 0) 0)]))]
abbrev s5 : Stmt := ((inCls (top 13)).getD 1 (.Pass ⟨0, 0, 0, 0⟩))
def r5 : Pv.Row := ⟨⟨("Sender", some ("state_count" : Str)), "state_count", "Sender.state_count", defArgs s5, defBody s5, defScope s5, [], []⟩, ["self"], ⟨1, 1, f5⟩⟩
/-- Sender.ways -/
def f6 : List S := [
  (.ifs (.not (.call 1 [(.var 1), (.blt .len [(.fld (.var 0) 0)])])) [.dead] []),
  (.ret (.blt .list [(.ix (.fld (.var 0) 0) (.var 1))]))]
abbrev s6 : Stmt := ((inCls (top 13)).getD 2 (.Pass ⟨0, 0, 0, 0⟩))
def r6 : Pv.Row := ⟨⟨("Sender", some ("ways" : Str)), "ways", "Sender.ways", defArgs s6, defBody s6, defScope s6, [], []⟩, ["self", "state"], ⟨2, 2, f6⟩⟩
/-- Sender.states_behind -/
def f7 : List S := [
  (.ifs (.not (.call 1 [(.var 1), (.blt .len [(.fld (.var 0) 0)])])) [.dead] []),
  (.ifs (.not (.call 2 [(.var 2), (.con (.int 3))])) [.dead] []),
  (.set 3 (.lst [(.var 1)])),
  (.for_ (.n 4) (.seq (.var 2)) [(.set 3 (.call 9 [(.var 0), (.var 3), (.var 4)]))]),
  (.ret (.var 3))]
abbrev s7 : Stmt := ((inCls (top 13)).getD 3 (.Pass ⟨0, 0, 0, 0⟩))
def r7 : Pv.Row := ⟨⟨("Sender", some ("states_behind" : Str)), "states_behind", "Sender.states_behind", defArgs s7, defBody s7, defScope s7, [], []⟩, ["self", "state", "word", "states", "kind"], ⟨3, 5, f7⟩⟩
/-- Sender.lets -/
def f8 : List S := [
  (.ret (.cmp .gt (.blt .len [(.meth 0 7 (.var 0) [(.con (.int 0)), (.var 1)])]) (.con (.int 0))))]
abbrev s8 : Stmt := ((inCls (top 13)).getD 4 (.Pass ⟨0, 0, 0, 0⟩))
def r8 : Pv.Row := ⟨⟨("Sender", some ("lets" : Str)), "lets", "Sender.lets", defArgs s8, defBody s8, defScope s8, [], []⟩, ["self", "word"], ⟨2, 2, f8⟩⟩
/-- states_after -/
def f9 : List S := [
  (.set 3 (.keep false (.lst []))),
  (.for_ (.n 4) (.rng (.blt .len [(.fld (.var 0) 0)])) [(.ifs (.cmp .isIn (.tup [(.var 2), (.var 4)]) (.lc2 [5, 6] [6] (.var 6) (.n 5) (.seq (.var 1)) (.n 6) (.seq (.ix (.fld (.var 0) 0) (.var 5))))) [(.expr (.bm .append (.var 3) [(.var 4)]))] [])]),
  (.ret (.var 3))]
abbrev s9 : Stmt := (top 14)
def r9 : Pv.Row := ⟨⟨("states_after", none), "states_after", "states_after", defArgs s9, defBody s9, defScope s9, [], []⟩, ["sender", "states", "kind", "result", "state", "before", "way"], ⟨3, 7, f9⟩⟩
/-- line_of -/
def f10 : List S := [
  (.ret (.bm .join (.con (.str " ")) [(.lc [1] (.blt .str [(.var 1)]) (.n 1) (.seq (.var 0)) (.con (.bl true)))]))]
abbrev s10 : Stmt := (top 16)
def r10 : Pv.Row := ⟨⟨("line_of", none), "line_of", "line_of", defArgs s10, defBody s10, defScope s10, [], []⟩, ["words", "word"], ⟨1, 2, f10⟩⟩
/-- sender_text -/
def f11 : List S := [
  (.set 1 (.keep false (.lst [(.con (.str "sender")), (.call 10 [(.lst [(.con (.str "states")), (.meth 0 5 (.var 0) [])])])]))),
  (.for_ (.n 2) (.rng (.meth 0 5 (.var 0) [])) [(.for_ (.t [(.n 3), (.n 4)]) (.seq (.meth 0 6 (.var 0) [(.var 2)])) [(.expr (.bm .append (.var 1) [(.call 10 [(.lst [(.con (.str "way")), (.var 2), (.var 3), (.var 4)])])]))])]),
  (.ret (.bm .join (.con (.str "\n")) [(.var 1)]))]
abbrev s11 : Stmt := (top 17)
def r11 : Pv.Row := ⟨⟨("sender_text", none), "sender_text", "sender_text", defArgs s11, defBody s11, defScope s11, [], []⟩, ["sender", "lines", "state", "kind", "target"], ⟨1, 5, f11⟩⟩
/-- number_of -/
def f12 : List S := [
  (.for_ (.n 3) (.rng2 (.var 1) (.bin .add (.var 2) (.con (.int 1)))) [(.ifs (.cmp .eq (.blt .str [(.var 3)]) (.var 0)) [(.ret (.var 3))] [])]),
  (.ret (.con .non))]
abbrev s12 : Stmt := (top 18)
def r12 : Pv.Row := ⟨⟨("number_of", none), "number_of", "number_of", defArgs s12, defBody s12, defScope s12, [], []⟩, ["word", "low", "high", "number"], ⟨3, 4, f12⟩⟩
/-- Lines.__init__ -/
def f13 : List S := [
  (.ifs (.not (.isi (.var 1) .str)) [.dead] []),
  (.setf (.var 0) 1 (.bm .split (.var 1) [(.con (.str "\n"))])),
  (.setf (.var 0) 2 (.con (.int 0)))]
abbrev s13 : Stmt := ((inCls (top 19)).getD 0 (.Pass ⟨0, 0, 0, 0⟩))
def r13 : Pv.Row := ⟨⟨("Lines", some ("__init__" : Str)), "__init__", "Lines.__init__", defArgs s13, defBody s13, defScope s13, [], []⟩, ["self", "text"], ⟨2, 2, f13⟩⟩
/-- Lines.ended -/
def f14 : List S := [
  (.ret (.cmp .eq (.fld (.var 0) 2) (.blt .len [(.fld (.var 0) 1)])))]
abbrev s14 : Stmt := ((inCls (top 19)).getD 1 (.Pass ⟨0, 0, 0, 0⟩))
def r14 : Pv.Row := ⟨⟨("Lines", some ("ended" : Str)), "ended", "Lines.ended", defArgs s14, defBody s14, defScope s14, [], []⟩, ["self"], ⟨1, 1, f14⟩⟩
/-- Lines.take -/
def f15 : List S := [
  (.ifs (.meth 1 14 (.var 0) []) [.dead] []),
  (.set 3 (.bm .split (.ix (.fld (.var 0) 1) (.fld (.var 0) 2)) [(.con (.str " "))])),
  (.ifs (.bop false [(.cmp .ne (.blt .len [(.var 3)]) (.bin .add (.con (.int 1)) (.blt .len [(.var 2)]))), (.cmp .ne (.ix (.var 3) (.con (.int 0))) (.var 1))]) [.dead] []),
  (.set 4 (.keep false (.lst []))),
  (.for_ (.t [(.n 5), (.t [(.n 7), (.n 8)])]) (.zip (.sl (.var 3) (.con (.int 1)) (.con .non)) (.var 2)) [(.set 6 (.call 12 [(.var 5), (.var 7), (.var 8)])), (.ifs (.cmp .isN (.var 6) (.con .non)) [.dead] []), (.expr (.bm .append (.var 4) [(.var 6)]))]),
  (.augf (.var 0) 2 (.con (.int 1))),
  (.ret (.var 4))]
abbrev s15 : Stmt := ((inCls (top 19)).getD 3 (.Pass ⟨0, 0, 0, 0⟩))
def r15 : Pv.Row := ⟨⟨("Lines", some ("take" : Str)), "take", "Lines.take", defArgs s15, defBody s15, defScope s15, [], []⟩, ["self", "head", "ranges", "words", "numbers", "word", "number", "low", "high"], ⟨3, 9, f15⟩⟩
/-- read_sender -/
def f16 : List S := [
  (.set 1 (.new 1 13 true [(.var 0)])),
  (.expr (.meth 1 15 (.var 1) [(.con (.str "sender")), (.lst [])])),
  (.set 2 (.ix (.meth 1 15 (.var 1) [(.con (.str "states")), (.lst [(.tup [(.con (.int 1)), (.con (.int 2))])])]) (.con (.int 0)))),
  (.set 3 (.lc [4] (.keep false (.lst [])) (.n 4) (.rng (.var 2)) (.con (.bl true)))),
  (.set 4 (.con (.int 0))),
  (.while_ (.bop false [(.not (.meth 1 14 (.var 1) [])), (.cmp .eq (.blt .len [(.ix (.var 3) (.neg (.con (.int 1))))]) (.con (.int 0)))]) [(.set 5 (.var 4)), (.set 6 (.blt .min2 [(.bin .sub (.var 2) (.con (.int 1))), (.bin .add (.var 4) (.blt .int [(.cmp .gt (.blt .len [(.ix (.var 3) (.var 4))]) (.con (.int 0)))]))])), (.set 7 (.fld (.var 1) 2)), (.set 8 (.meth 1 15 (.var 1) [(.con (.str "way")), (.lst [(.tup [(.var 5), (.var 6)]), (.tup [(.con (.int 0)), (.con (.int 2))]), (.tup [(.con (.int 0)), (.bin .sub (.var 2) (.con (.int 1)))])])])), (.set 9 (.tup [(.ix (.var 8) (.con (.int 1))), (.ix (.var 8) (.con (.int 2)))])), (.set 4 (.ix (.var 8) (.con (.int 0)))), (.ifs (.bop true [(.cmp .gt (.blt .len [(.ix (.var 3) (.var 4))]) (.con (.int 0))), (.cmp .le (.var 9) (.ix (.ix (.var 3) (.var 4)) (.neg (.con (.int 1)))))]) [.dead] []), (.expr (.bm .append (.ix (.var 3) (.var 4)) [(.var 9)]))]),
  (.ret (.new 0 4 false [(.var 3)]))]
abbrev s16 : Stmt := (top 20)
def r16 : Pv.Row := ⟨⟨("read_sender", none), "read_sender", "read_sender", defArgs s16, defBody s16, defScope s16, [], []⟩, ["text", "lines", "states", "ways", "state", "start", "high", "at", "numbers", "way"], ⟨1, 10, f16⟩⟩
/-- _law_pool -/
def f17 : List S := [
  (.set 2 (.con (.int 0))),
  (.ifs (.cmp .lt (.var 1) (.blt .len [(.var 0)])) [(.set 2 (.ix (.var 0) (.var 1)))] []),
  (.ifs (.cmp .ge (.var 2) (.bin .pow (.con (.int 10)) (.con (.int 18)))) [(.ret (.keep true (.lst [(.bin .sub (.var 2) (.bin .pow (.con (.int 10)) (.con (.int 18)))), (.con (.int 0)), (.con (.int 0)), (.con (.int 1))])))] []),
  (.ret (.keep true (.lst [(.con (.int 0)), (.con (.int 0)), (.bin .mod (.blt .int [(.bin .add (.var 2) (.bin .mul (.con (.int 104729)) (.var 1)))]) (.con (.int 2147483647))), (.con (.int 0))])))]
abbrev s17 : Stmt := (top 22)
def r17 : Pv.Row := ⟨⟨("_law_pool", none), "_law_pool", "_law_pool", defArgs s17, defBody s17, defScope s17, [], []⟩, ["_law_script", "_law_place", "_law_cell"], ⟨2, 3, f17⟩⟩
/-- _law_draw -/
def f18 : List S := [
  (.ifs (.cmp .eq (.ix (.var 0) (.con (.int 3))) (.con (.int 1))) [(.set 3 (.bin .mod (.blt .int [(.ix (.var 0) (.con (.int 0)))]) (.var 1))), (.seti (.var 0) (.con (.int 0)) (.bin .fdiv (.blt .int [(.ix (.var 0) (.con (.int 0)))]) (.var 1))), (.ret (.var 3))] []),
  (.seti (.var 0) (.con (.int 1)) (.bin .add (.ix (.var 0) (.con (.int 1))) (.con (.int 1)))),
  (.set 2 (.bin .mod (.bin .mul (.blt .int [(.bin .add (.bin .add (.ix (.var 0) (.con (.int 2))) (.bin .mul (.con (.int 7919)) (.ix (.var 0) (.con (.int 1))))) (.con (.int 1)))]) (.con (.int 48271))) (.con (.int 2147483647)))),
  (.set 2 (.bin .mod (.bin .mul (.var 2) (.bin .add (.bin .fdiv (.var 2) (.con (.int 1009))) (.con (.int 69621)))) (.con (.int 2147483647)))),
  (.set 2 (.bin .mod (.bin .mul (.var 2) (.bin .add (.bin .fdiv (.var 2) (.con (.int 2003))) (.con (.int 40692)))) (.con (.int 2147483399)))),
  (.ret (.bin .mod (.bin .fdiv (.var 2) (.con (.int 16))) (.var 1)))]
abbrev s18 : Stmt := (top 23)
def r18 : Pv.Row := ⟨⟨("_law_draw", none), "_law_draw", "_law_draw", defArgs s18, defBody s18, defScope s18, [], []⟩, ["_law_pool_here", "_law_many", "_law_number", "_law_drawn"], ⟨2, 4, f18⟩⟩
/-- _law_ways -/
def f19 : List S := [
  (.set 2 (.bin .add (.con (.int 1)) (.call 18 [(.var 0), (.con (.int 2))]))),
  (.set 3 (.call 18 [(.var 0), (.con (.int 3))])),
  (.set 4 (.keep false (.lst []))),
  (.for_ (.n 5) (.rng (.var 2)) [(.set 6 (.keep false (.lst []))), (.for_ (.n 7) (.rng (.var 1)) [(.for_ (.n 8) (.rng (.var 2)) [(.ifs (.cmp .le (.call 18 [(.var 0), (.con (.int 4))]) (.var 3)) [(.expr (.bm .append (.var 6) [(.tup [(.var 7), (.var 8)])]))] [])])]), (.ifs (.cmp .eq (.blt .len [(.var 6)]) (.con (.int 0))) [(.expr (.bm .append (.var 6) [(.tup [(.call 18 [(.var 0), (.var 1)]), (.call 18 [(.var 0), (.var 2)])])]))] []), (.expr (.bm .append (.var 4) [(.var 6)]))]),
  (.ret (.var 4))]
abbrev s19 : Stmt := (top 24)
def r19 : Pv.Row := ⟨⟨("_law_ways", none), "_law_ways", "_law_ways", defArgs s19, defBody s19, defScope s19, [], []⟩, ["_law_pool_here", "_law_kinds", "_law_states", "_law_share", "_law_ways_here", "_law_state", "_law_line", "_law_kind", "_law_target"], ⟨2, 9, f19⟩⟩
/-- law -/
def f20 : List S := [
  (.set 1 (.call 17 [(.var 0), (.con (.int 0))])),
  (.set 2 (.call 19 [(.var 1), (.bin .add (.con (.int 1)) (.call 18 [(.var 1), (.con (.int 3))]))])),
  (.set 3 (.new 0 4 false [(.lc [12] (.blt .list [(.var 12)]) (.n 12) (.seq (.var 2)) (.con (.bl true)))])),
  (.set 4 (.keep false (.lst [(.con (.str "sender")), (.bin .add (.con (.str "states ")) (.blt .str [(.blt .len [(.var 2)])]))]))),
  (.for_ (.n 5) (.rng (.blt .len [(.var 2)])) [(.for_ (.n 9) (.seq (.ix (.var 2) (.var 5))) [(.expr (.bm .append (.var 4) [(.bin .add (.bin .add (.bin .add (.bin .add (.bin .add (.con (.str "way ")) (.blt .str [(.var 5)])) (.con (.str " "))) (.blt .str [(.ix (.var 9) (.con (.int 0)))])) (.con (.str " "))) (.blt .str [(.ix (.var 9) (.con (.int 1)))]))]))])]),
  (.set 6 (.bm .join (.con (.str "\n")) [(.var 4)])),
  (.ifs (.cmp .ne (.call 11 [(.var 3)]) (.var 6)) [(.ret (.con (.bl false)))] []),
  (.set 7 (.call 16 [(.var 6)])),
  (.ifs (.bop false [(.cmp .ne (.meth 0 5 (.var 7) []) (.blt .len [(.var 2)])), (.cmp .ne (.call 11 [(.var 7)]) (.var 6))]) [(.ret (.con (.bl false)))] []),
  (.for_ (.n 5) (.rng (.blt .len [(.var 2)])) [(.ifs (.cmp .ne (.meth 0 6 (.var 7) [(.var 5)]) (.ix (.var 2) (.var 5))) [(.ret (.con (.bl false)))] [])]),
  (.for_ (.n 8) (.rng (.con (.int 12))) [(.set 10 (.call 17 [(.var 0), (.bin .add (.con (.int 1)) (.var 8))])), (.set 11 (.lc [13] (.call 18 [(.var 10), (.con (.int 3))]) (.n 13) (.rng (.call 18 [(.var 10), (.con (.int 10))])) (.con (.bl true)))), (.ifs (.cmp .ne (.meth 0 8 (.var 7) [(.var 11)]) (.meth 0 8 (.var 3) [(.var 11)])) [(.ret (.con (.bl false)))] []), (.ifs (.cmp .ne (.meth 0 7 (.var 7) [(.bin .mod (.var 8) (.blt .len [(.var 2)])), (.var 11)]) (.meth 0 7 (.var 3) [(.bin .mod (.var 8) (.blt .len [(.var 2)])), (.var 11)])) [(.ret (.con (.bl false)))] [])]),
  (.ret (.con (.bl true)))]
abbrev s20 : Stmt := (top 25)
def r20 : Pv.Row := ⟨⟨("law", none), "law", "law", defArgs s20, defBody s20, defScope s20, [], []⟩, ["_law_script", "_law_pool_here", "_law_ways_here", "_law_sender", "_law_lines", "_law_state", "_law_due", "_law_back", "_law_k", "_law_way", "_law_source", "_law_word", "_law_line", "_law_j"], ⟨1, 14, f20⟩⟩
def rows : List Pv.Row := [r0, r1, r2, r3, r4, r5, r6, r7, r8, r9, r10, r11, r12, r13, r14, r15, r16, r17, r18, r19, r20]
def ats : List At := [r0.d.at_, r1.d.at_, r2.d.at_, r3.d.at_, r4.d.at_, r5.d.at_, r6.d.at_, r7.d.at_, r8.d.at_, r9.d.at_, r10.d.at_, r11.d.at_, r12.d.at_, r13.d.at_, r14.d.at_, r15.d.at_, r16.d.at_, r17.d.at_, r18.d.at_, r19.d.at_, r20.d.at_]
theorem ats_eq : rows.map (·.d.at_) = ats := rfl
theorem o0 : RowOk nm ats r0 := ⟨by kernel_rfl, fun _ _ _ _ _ _ us hl => match us, (hl : us.length = 1) with | [_], _ => by kernel_rfl⟩
theorem o1 : RowOk nm ats r1 := ⟨by kernel_rfl, fun _ _ _ _ _ _ us hl => match us, (hl : us.length = 2) with | [_, _], _ => by kernel_rfl⟩
theorem o2 : RowOk nm ats r2 := ⟨by kernel_rfl, fun _ _ _ _ _ _ us hl => match us, (hl : us.length = 2) with | [_, _], _ => by kernel_rfl⟩
theorem o3 : RowOk nm ats r3 := ⟨by kernel_rfl, fun _ _ _ _ _ _ us hl => match us, (hl : us.length = 2) with | [_, _], _ => by kernel_rfl⟩
theorem o4 : RowOk nm ats r4 := ⟨by kernel_rfl, fun _ _ _ _ _ _ us hl => match us, (hl : us.length = 2) with | [_, _], _ => by kernel_rfl⟩
theorem o5 : RowOk nm ats r5 := ⟨by kernel_rfl, fun _ _ _ _ _ _ us hl => match us, (hl : us.length = 1) with | [_], _ => by kernel_rfl⟩
theorem o6 : RowOk nm ats r6 := ⟨by kernel_rfl, fun _ _ _ _ _ _ us hl => match us, (hl : us.length = 2) with | [_, _], _ => by kernel_rfl⟩
theorem o7 : RowOk nm ats r7 := ⟨by kernel_rfl, fun _ _ _ _ _ _ us hl => match us, (hl : us.length = 3) with | [_, _, _], _ => by kernel_rfl⟩
theorem o8 : RowOk nm ats r8 := ⟨by kernel_rfl, fun _ _ _ _ _ _ us hl => match us, (hl : us.length = 2) with | [_, _], _ => by kernel_rfl⟩
theorem o9 : RowOk nm ats r9 := ⟨by kernel_rfl, fun _ _ _ _ _ _ us hl => match us, (hl : us.length = 3) with | [_, _, _], _ => by kernel_rfl⟩
theorem o10 : RowOk nm ats r10 := ⟨by kernel_rfl, fun _ _ _ _ _ _ us hl => match us, (hl : us.length = 1) with | [_], _ => by kernel_rfl⟩
theorem o11 : RowOk nm ats r11 := ⟨by kernel_rfl, fun _ _ _ _ _ _ us hl => match us, (hl : us.length = 1) with | [_], _ => by kernel_rfl⟩
theorem o12 : RowOk nm ats r12 := ⟨by kernel_rfl, fun _ _ _ _ _ _ us hl => match us, (hl : us.length = 3) with | [_, _, _], _ => by kernel_rfl⟩
theorem o13 : RowOk nm ats r13 := ⟨by kernel_rfl, fun _ _ _ _ _ _ us hl => match us, (hl : us.length = 2) with | [_, _], _ => by kernel_rfl⟩
theorem o14 : RowOk nm ats r14 := ⟨by kernel_rfl, fun _ _ _ _ _ _ us hl => match us, (hl : us.length = 1) with | [_], _ => by kernel_rfl⟩
theorem o15 : RowOk nm ats r15 := ⟨by kernel_rfl, fun _ _ _ _ _ _ us hl => match us, (hl : us.length = 3) with | [_, _, _], _ => by kernel_rfl⟩
theorem o16 : RowOk nm ats r16 := ⟨by kernel_rfl, fun _ _ _ _ _ _ us hl => match us, (hl : us.length = 1) with | [_], _ => by kernel_rfl⟩
theorem o17 : RowOk nm ats r17 := ⟨by kernel_rfl, fun _ _ _ _ _ _ us hl => match us, (hl : us.length = 2) with | [_, _], _ => by kernel_rfl⟩
theorem o18 : RowOk nm ats r18 := ⟨by kernel_rfl, fun _ _ _ _ _ _ us hl => match us, (hl : us.length = 2) with | [_, _], _ => by kernel_rfl⟩
theorem o19 : RowOk nm ats r19 := ⟨by kernel_rfl, fun _ _ _ _ _ _ us hl => match us, (hl : us.length = 2) with | [_, _], _ => by kernel_rfl⟩
theorem o20 : RowOk nm ats r20 := ⟨by kernel_rfl, fun _ _ _ _ _ _ us hl => match us, (hl : us.length = 1) with | [_], _ => by kernel_rfl⟩
theorem rows_ok : ∀ r ∈ rows, RowOk nm ats r := by
  intro r hr
  simp only [rows, List.mem_cons, List.not_mem_nil, or_false] at hr
  rcases hr with rfl | rfl | rfl | rfl | rfl | rfl | rfl | rfl | rfl | rfl | rfl | rfl | rfl | rfl | rfl | rfl | rfl | rfl | rfl | rfl | rfl
  · exact o0
  · exact o1
  · exact o2
  · exact o3
  · exact o4
  · exact o5
  · exact o6
  · exact o7
  · exact o8
  · exact o9
  · exact o10
  · exact o11
  · exact o12
  · exact o13
  · exact o14
  · exact o15
  · exact o16
  · exact o17
  · exact o18
  · exact o19
  · exact o20
def loose0 : List Str := ["_wall", "LateError", "NoWord", "NoSender", "NoState", "NoText", "is_integer", "is_index", "are_kinds", "are_ways", "Sender", "states_after", "line_of", "sender_text", "number_of", "Lines", "read_sender", "_law_pool", "_law_draw", "_law_ways"]
def loose : List Str := loose0
def lawAt : Nat := 25
def lawF : Nat := 20
abbrev rLaw : Pv.Row := r20
end LawT

set_option linter.all false
set_option Elab.async false
set_option maxRecDepth 100000
set_option maxHeartbeats 1000000
namespace LawT
open PySem PySem.Spec PyProof.Rows L2 Pv
abbrev T : List Fn := rows.map (·.fn)
abbrev okIx (x : Int) (m : Int) : Bool := decide (0 ≤ x) && decide (x < m)
theorem g0 {n : Nat} {i : Int} : Gives (runF T (n + 1)) 0 [.int i] (.bl true) := by
  refine gives_data (h' := []) rfl ?_ rfl rfl
  rw [runF_at (fn := r0.fn) rfl rfl]
  simp [r0, f0, isiV, evEs]
theorem g1 {n : Nat} {i m : Int} : Gives (runF T (n + 2)) 1 [.int i, .int m] (.bl (okIx i m)) := by
  refine gives_data (h' := []) rfl ?_ rfl rfl
  rw [runF_at (fn := r1.fn) rfl rfl]
  have h0 := @g0 n i []
  by_cases h1 : 0 ≤ i
  · simp [r1, f1, evEs, h0, cmpV, h1, Cst.val]
  · simp [r1, f1, evEs, h0, cmpV, h1, Cst.val]
theorem ints_data : ∀ w : List Int, allData (w.map Val.int) = true
  | [] => rfl
  | i :: w => by simp only [List.map_cons, allData, isData, ints_data w]; rfl
theorem g2 {n : Nat} {w : List Int} {m : Int} (hw : ∀ i ∈ w, okIx i m = true) : Gives (runF T (n + 3)) 2 [.lst (w.map Val.int), .int m] (.bl true) := by
  obtain ⟨e', h', c1, rfl, o, rfl⟩ := for_thru (bind := fun x e h => bindT h (.n 2) x e) (body := fun e h => exSs (runF T (n + 2)) [(.ifs (.not (.call 1 [(.var 2), (.var 1)])) [(.ret (.con (.bl false)))] [])] e h) (xs := w.map Val.int) (e := [some (.lst (w.map Val.int)), some (.int m), none]) (h := [])
    (fun d e h => h = [] ∧ ∃ o, e = [some (.lst (w.map Val.int)), some (.int m), o]) ⟨rfl, none, rfl⟩ (fun d x r e h hd ⟨h0, o, he⟩ => by
      have hx : x ∈ w.map Val.int := by rw [hd]; simp
      obtain ⟨i, hi, rfl⟩ := List.mem_map.mp hx
      subst h0 he
      have q := @g1 n i m []
      rw [hw i hi] at q
      refine ⟨_, _, _, rfl, .inl ?_, rfl, some (.int i), rfl⟩
      simp [evEs, q])
  have hfor := for_fix (xs := w.map Val.int) (k := (w.map Val.int).length + 1) (h1 := []) (cf := runF T (n + 2)) (tg := .n 2) (it := .seq (.var 0)) (body := [(.ifs (.not (.call 1 [(.var 2), (.var 1)])) [(.ret (.con (.bl false)))] [])]) (e := [some (.lst (w.map Val.int)), some (.int m), none]) (h := []) (by simp) (Nat.le_refl _)
  rw [c1] at hfor
  refine gives_data (h' := []) (by simp only [allData, isData, ints_data]; rfl) ?_ rfl rfl
  rw [runF_at (fn := r2.fn) rfl rfl]
  simp [r2, f2, evEs, isiV, hfor, Cst.val]

def numS (i : Int) : Str := Str.ofString (toString i)
def pairV (p : Int × Int) : Val := .tup [.int p.1, .int p.2]
def trip : List (Int × Int × Int) := [(0, 0, 0), (0, 0, 1), (1, 0, 1), (0, 0, 2), (1, 0, 2), (2, 0, 2), (1, 1, 1), (1, 1, 2), (2, 1, 2)]
def chkN (m : Nat) (p : Int × Int × Int) : Bool := match runF T (m + 1) 12 [.str (numS p.1), .int p.2.1, .int p.2.2] [] with
  | .ok (.int r) [] => decide (r = p.1)
  | _ => false
theorem n12a (m : Nat) : (trip.all (chkN m)) = true := by kernel_rfl
theorem n12 {m : Nat} {n lo hi : Int} (h : (n, lo, hi) ∈ trip) : Gives (runF T (m + 1)) 12 [.str (numS n), .int lo, .int hi] (.int n) := by
  have a := n12a m
  rw [List.all_eq_true] at a
  have b := a _ h
  unfold chkN at b
  split at b
  · rename_i r e
    have := of_decide_eq_true b
    simp only at this e
    subst this
    exact gives_data rfl e rfl rfl
  · cases b
theorem eqD_int {h : Hv} {a b : Int} : eqD h (.int a) (.int b) = some (decide (a = b)) := by
  simp [eqD, toPD, sclPD, PyData.eqv]
  rfl
theorem eqD_str {h : Hv} {a b : Str} (ha : PyData.strOk a = true) (hb : PyData.strOk b = true) : eqD h (.str a) (.str b) = some (decide (a = b)) := by
  simp [eqD, toPD, sclPD, PyData.eqv, ha, hb]
  rfl

theorem strs_data : ∀ w : List Str, allData (w.map Val.str) = true
  | [] => rfl
  | i :: w => by simp only [List.map_cons, allData, isData, strs_data w]; rfl
theorem pairs_data : ∀ w : List (Int × Int), allData (w.map pairV) = true
  | [] => rfl
  | i :: w => by simp only [List.map_cons, allData, isData, pairV, pairs_data w]; rfl
def linesC (g : Bool) (L : List Str) (k : Int) : Cell := .ins g 1 [1, 2] [.lst (L.map .str), .int k]
theorem linesC_data {g : Bool} {L : List Str} {k : Int} : dataC (linesC g L k) = true := by
  simp only [linesC, dataC, allData, isData, strs_data]
  rfl
theorem set_self {α : Type} {l : List α} {c : Nat} {x : α} (h : l[c]? = some x) : l.set c x = l := by
  obtain ⟨hl, he⟩ := List.getElem?_eq_some_iff.mp h
  rw [← he]
  exact List.set_getElem_self hl
/-- ended() -/
theorem ended_ok {m c : Nat} {h : Hv} {g : Bool} {L : List Str} {k : Nat} (hc : h[c]? = some (linesC g L k)) : region (runF T (m + 1)) 14 none [.cell c] h = .ok (.bl (decide (k = L.length))) h := by
  have e : runF T (m + 1) 14 [.cell 0] [linesC g L k] = .ok (.bl (decide (k = L.length))) [linesC g L k] := by
    rw [runF_at (fn := r14.fn) rfl rfl]
    simp [r14, f14, linesC, evEs, fldV, lookK, bltV, lenV, cmpV, eqD_int, Int.natCast_inj]
  have := region_cell_data (ds := []) (ls := []) rfl hc linesC_data e linesC_data rfl rfl
  rw [this]
  congr 1
  exact set_self hc
theorem atI_nat {α : Type} {xs : List α} {k : Nat} {x : α} (h : xs[k]? = some x) : L2.atI xs (k : Int) = some x := by
  have hl := (List.getElem?_eq_some_iff.mp h).1
  unfold L2.atI L2.ixN
  rw [if_pos (by omega), if_pos (by omega)]
  simpa using h
theorem cut_tail {α : Type} (a : α) (l : List α) : cutL (a :: l) (some 1) none = l := by
  unfold cutL HT.sIx
  simp

/-- a line's parts: word, range, number -/
abbrev Part := Str × (Int × Int) × Int
theorem zip_parts (ts : List Part) : zipV (ts.map fun p => Val.str p.1) (ts.map fun p => pairV p.2.1) = ts.map fun p => .tup [.str p.1, pairV p.2.1] := by
  induction ts with
  | nil => rfl
  | cons p ts ih => simp only [List.map_cons, zipV, ih]
def takeBody : List S := [(.set 6 (.call 12 [(.var 5), (.var 7), (.var 8)])), (.ifs (.cmp .isN (.var 6) (.con .non)) [.dead] []), (.expr (.bm .append (.var 4) [(.var 6)]))]
theorem take_loop {m : Nat} {C : Cell} {v0 v1 v2 v3 : Val} : ∀ {ts : List Part} {acc : List Val} {o5 o6 o7 o8 : Option Val}, (∀ p ∈ ts, (p.2.2, p.2.1.1, p.2.1.2) ∈ trip ∧ p.1 = numS p.2.2) → acc.length + ts.length ≤ lim →
    ∃ q5 q6 q7 q8, forS (fun x e h => bindT h (.t [(.n 5), (.t [(.n 7), (.n 8)])]) x e) (fun e h => exSs (runF T (m + 1)) takeBody e h) (ts.map fun p => .tup [.str p.1, pairV p.2.1]) [some v0, some v1, some v2, some v3, some (.cell 1), o5, o6, o7, o8] [C, .lst false acc] =
      .nx [some v0, some v1, some v2, some v3, some (.cell 1), q5, q6, q7, q8] [C, .lst false (acc ++ ts.map fun p => .int p.2.2)]
  | [], acc, o5, o6, o7, o8, hn, hl => ⟨o5, o6, o7, o8, by simp [forS]⟩
  | p :: ts, acc, o5, o6, o7, o8, hn, hl => by
    obtain ⟨n1, n2⟩ := hn p (List.mem_cons_self ..)
    have q := n12 (m := m) n1 [C, .lst false acc]
    rw [← n2] at q
    have hacc : acc.length < lim := by simp at hl; omega
    obtain ⟨q5, q6, q7, q8, ih⟩ := take_loop (m := m) (C := C) (v0 := v0) (v1 := v1) (v2 := v2) (v3 := v3) (ts := ts) (acc := acc ++ [.int p.2.2]) (o5 := some (.str p.1)) (o6 := some (.int p.2.2)) (o7 := some (.int p.2.1.1)) (o8 := some (.int p.2.1.2)) (fun r hr => hn r (List.mem_cons_of_mem _ hr)) (by simp at hl ⊢; omega)
    refine ⟨q5, q6, q7, q8, ?_⟩
    rw [List.map_cons, forS]
    have hb : bindT [C, .lst false acc] (.t [(.n 5), (.t [(.n 7), (.n 8)])]) (.tup [.str p.1, pairV p.2.1]) [some v0, some v1, some v2, some v3, some (.cell 1), o5, o6, o7, o8] = some [some v0, some v1, some v2, some v3, some (.cell 1), some (.str p.1), o6, some (.int p.2.1.1), some (.int p.2.1.2)] := rfl
    have hbody : exSs (runF T (m + 1)) takeBody [some v0, some v1, some v2, some v3, some (.cell 1), some (.str p.1), o6, some (.int p.2.1.1), some (.int p.2.1.2)] [C, .lst false acc] = .nx [some v0, some v1, some v2, some v3, some (.cell 1), some (.str p.1), some (.int p.2.2), some (.int p.2.1.1), some (.int p.2.1.2)] [C, .lst false (acc ++ [.int p.2.2])] := by
      simp [takeBody, evEs, q, cmpV, bmTy, bmV, bmL, Cst.val, hacc]
    rw [hb]
    dsimp only
    rw [hbody]
    dsimp only
    rw [ih]
    simp
theorem take_ok {m : Nat} {g : Bool} {L : List Str} {k : Nat} {hd s : Str} {ts : List Part} (hk : L[k]? = some s) (hs : Txt.split s (" " : Str) = hd :: ts.map (·.1)) (hsl : s.length + 2 ≤ lim) (hok : PyData.strOk hd = true) (hn : ∀ p ∈ ts, (p.2.2, p.2.1.1, p.2.1.2) ∈ trip ∧ p.1 = numS p.2.2) (hl : ts.length ≤ lim) :
    runF T (m + 2) 15 [.cell 0, .str hd, .lst (ts.map fun p => pairV p.2.1)] [linesC g L k] = .ok (.cell 1) [linesC g L (k + 1 : Nat), .lst false (ts.map fun p => .int p.2.2)] := by
  have hk2 := (List.getElem?_eq_some_iff.mp hk).1
  obtain ⟨q5, q6, q7, q8, lp⟩ := take_loop (m := m) (C := linesC g L k) (v0 := .cell 0) (v1 := .str hd) (v2 := .lst (ts.map fun p => pairV p.2.1)) (v3 := .lst (.str hd :: ts.map fun p => .str p.1)) (acc := []) (o5 := none) (o6 := none) (o7 := none) (o8 := none) hn (by simpa using hl)
  rw [runF_at (fn := ⟨3, 9, f15⟩) rfl rfl]
  have he := ended_ok (m := m) (c := 0) (h := [linesC g L k]) rfl
  have hne : decide (k = L.length) = false := by simp; omega
  rw [hne] at he
  have hf1 : ∀ r, fldV (linesC g L k :: r) (.cell 0) 1 = some (.lst (L.map .str)) := fun _ => rfl
  have hf2 : ∀ r, fldV (linesC g L k :: r) (.cell 0) 2 = some (.int k) := fun _ => rfl
  have hcl : ∀ r, clsV (linesC g L k :: r) (.cell 0) = some 1 := fun _ => rfl
  have ha : ∀ h, atV h (.lst (L.map Val.str)) (.int (k : Int)) = some (.str s) := fun h => by
    simp only [atV, seqs_lst]
    exact atI_nat (by rw [List.getElem?_map, hk]; rfl)
  have ha0 : ∀ h (x : Val) (r : List Val), atV h (.lst (x :: r)) (.int 0) = some x := fun h x r => by
    simp only [atV, seqs_lst]
    exact atI_nat (k := 0) rfl
  have hsp : ((" " : Str).length == 0) = false := by decide +kernel
  have s1 : exS (runF T (m + 1)) (.ifs (.meth 1 14 (.var 0) []) [.dead] []) [some (.cell 0), some (.str hd), some (.lst (ts.map fun p => pairV p.2.1)), none, none, none, none, none, none] [linesC g L k] = .nx [some (.cell 0), some (.str hd), some (.lst (ts.map fun p => pairV p.2.1)), none, none, none, none, none, none] [linesC g L k] := by
    simp [hcl, he]
  have s2 : exS (runF T (m + 1)) (.set 3 (.bm .split (.ix (.fld (.var 0) 1) (.fld (.var 0) 2)) [(.con (.str " "))])) [some (.cell 0), some (.str hd), some (.lst (ts.map fun p => pairV p.2.1)), none, none, none, none, none, none] [linesC g L k] = .nx [some (.cell 0), some (.str hd), some (.lst (ts.map fun p => pairV p.2.1)), some (.lst (.str hd :: ts.map fun p => .str p.1)), none, none, none, none, none] [linesC g L k] := by
    simp [evEs, hf1, hf2, ha, bmTy, bmV, Cst.val, hs, hsp, hsl]
    rfl
  have s3 : exS (runF T (m + 1)) (.ifs (.bop false [(.cmp .ne (.blt .len [(.var 3)]) (.bin .add (.con (.int 1)) (.blt .len [(.var 2)]))), (.cmp .ne (.ix (.var 3) (.con (.int 0))) (.var 1))]) [.dead] []) [some (.cell 0), some (.str hd), some (.lst (ts.map fun p => pairV p.2.1)), some (.lst (.str hd :: ts.map fun p => .str p.1)), none, none, none, none, none] [linesC g L k] = .nx [some (.cell 0), some (.str hd), some (.lst (ts.map fun p => pairV p.2.1)), some (.lst (.str hd :: ts.map fun p => .str p.1)), none, none, none, none, none] [linesC g L k] := by
    have e1 : ((ts.length : Int) + 1 = 1 + ts.length) := by omega
    simp [evEs, bltV, lenV, binV, cmpV, eqD_int, ha0, eqD_str hok hok, Cst.val, e1]
  have s4 : exS (runF T (m + 1)) (.set 4 (.keep false (.lst []))) [some (.cell 0), some (.str hd), some (.lst (ts.map fun p => pairV p.2.1)), some (.lst (.str hd :: ts.map fun p => .str p.1)), none, none, none, none, none] [linesC g L k] = .nx [some (.cell 0), some (.str hd), some (.lst (ts.map fun p => pairV p.2.1)), some (.lst (.str hd :: ts.map fun p => .str p.1)), some (.cell 1), none, none, none, none] [linesC g L k, .lst false []] := by
    simp [keepR]
  have s5 : exS (runF T (m + 1)) (.for_ (.t [(.n 5), (.t [(.n 7), (.n 8)])]) (.zip (.sl (.var 3) (.con (.int 1)) (.con .non)) (.var 2)) takeBody) [some (.cell 0), some (.str hd), some (.lst (ts.map fun p => pairV p.2.1)), some (.lst (.str hd :: ts.map fun p => .str p.1)), some (.cell 1), none, none, none, none] [linesC g L k, .lst false []] = .nx [some (.cell 0), some (.str hd), some (.lst (ts.map fun p => pairV p.2.1)), some (.lst (.str hd :: ts.map fun p => .str p.1)), some (.cell 1), q5, q6, q7, q8] [linesC g L k, .lst false (ts.map fun p => .int p.2.2)] := by
    rw [for_fix (xs := ts.map fun p => .tup [.str p.1, pairV p.2.1]) (k := (ts.length + 1) + (ts.length + 1)) (h1 := [linesC g L k, .lst false []]) ?_ (by simp)]
    · simpa using lp
    · simp [slV, partE, cut_tail, Cst.val, zip_parts]
  have s6 : exS (runF T (m + 1)) (.augf (.var 0) 2 (.con (.int 1))) [some (.cell 0), some (.str hd), some (.lst (ts.map fun p => pairV p.2.1)), some (.lst (.str hd :: ts.map fun p => .str p.1)), some (.cell 1), q5, q6, q7, q8] [linesC g L k, .lst false (ts.map fun p => .int p.2.2)] = .nx [some (.cell 0), some (.str hd), some (.lst (ts.map fun p => pairV p.2.1)), some (.lst (.str hd :: ts.map fun p => .str p.1)), some (.cell 1), q5, q6, q7, q8] [linesC g L (k + 1 : Nat), .lst false (ts.map fun p => .int p.2.2)] := by
    have hset : setfV [linesC g L k, .lst false (ts.map fun p => .int p.2.2)] (.cell 0) 2 (.int ((k : Int) + 1)) = some [linesC g L (k + 1 : Nat), .lst false (ts.map fun p => .int p.2.2)] := rfl
    simp [hf2, Cst.val, hset]
  have hrep : List.replicate (9 - 3) (none : Option Val) = [none, none, none, none, none, none] := rfl
  unfold takeBody at s5
  simp only [f15, hrep, List.map_cons, List.map_nil, List.cons_append, List.nil_append, exSs_cons, s1, s2, s3, s4, s5, s6, exS_ret, evE_var]
  simp
end LawT

set_option linter.all false
set_option Elab.async false
set_option maxRecDepth 100000
set_option maxHeartbeats 1000000
namespace LawT
open PySem PySem.Spec PyProof.Rows L2 Pv
theorem ints_data2 : ∀ ts : List Part, allData (ts.map fun p => Val.int p.2.2) = true
  | [] => rfl
  | i :: w => by simp only [List.map_cons, allData, isData, ints_data2 w]; rfl
theorem pairs_data2 (ts : List Part) : allData (ts.map fun p => pairV p.2.1) = true := by
  have := pairs_data (ts.map (·.2.1))
  rw [List.map_map] at this
  exact this
theorem take_call {m c : Nat} {h : Hv} {g : Bool} {L : List Str} {k : Nat} {hd s : Str} {ts : List Part} (hc : h[c]? = some (linesC g L k)) (hk : L[k]? = some s) (hs : Txt.split s (" " : Str) = hd :: ts.map (·.1)) (hsl : s.length + 2 ≤ lim) (hok : PyData.strOk hd = true) (hn : ∀ p ∈ ts, (p.2.2, p.2.1.1, p.2.1.2) ∈ trip ∧ p.1 = numS p.2.2) (hl : ts.length ≤ lim) :
    region (runF T (m + 2)) 15 none [.cell c, .str hd, .lst (ts.map fun p => pairV p.2.1)] h = .ok (.lst (ts.map fun p => .int p.2.2)) (h.set c (linesC g L (k + 1 : Nat))) :=
  region_cell_lst (n := 0) (g := false) (by simp only [allData, isData, pairs_data2]; rfl) hc linesC_data (take_ok hk hs hsl hok hn hl) linesC_data rfl rfl (ints_data2 ts)
/-- Lines(text) -/
theorem lines_init {m : Nat} {t : Str} (hl : t.length + 2 ≤ lim) : runF T (m + 1) 13 [.cell 0, .str t] [.ins true 1 [] []] = .ok .non [linesC true (Txt.split t ("\n" : Str)) 0] := by
  have hsp : ¬ (("\n" : Str).length = 0) := by decide +kernel
  have hs1 : ∀ x, setfV [.ins true 1 [] []] (.cell 0) 1 x = some [.ins true 1 [1] [x]] := fun _ => rfl
  have hs2 : ∀ x y, setfV [.ins true 1 [1] [x]] (.cell 0) 2 y = some [.ins true 1 [1, 2] [x, y]] := fun _ _ => rfl
  rw [runF_at (fn := ⟨2, 2, f13⟩) rfl rfl]
  simp [f13, evEs, isiV, bmTy, bmV, Cst.val, hsp, hl, hs1, hs2, linesC]
theorem outV_cell {s : Nat → Option Nat} {h : Hv} {k n q : Nat} (e : s n = some q) : outV s h (k + 1) (.cell n) = some (.cell q) := by
  rw [outV]
  simp only [isData, Bool.false_eq_true, if_false, e]
/-- a new instance that stays one -/
theorem region_new1 {cf : CF} {f c : Nat} {ds : List Val} {h : Hv} {ks : List Nat} {vs : List Val} (hd : allData ds = true) (e : cf f (.cell 0 :: ds) [.ins true c [] []] = .ok .non [.ins true c ks vs]) (dv : allData vs = true) : region cf f (some (c, true)) ds h = .ok (.cell h.length) (h ++ [.ins false c ks vs]) := by
  have e2 : dedup [] ([] : List Nat) = [] := rfl
  unfold region
  simp only [cellsL_data ds hd, e2, reach_nil]
  have e3 : getCs h (fun n => posOf n [] 0) [] = some [] := rfl
  rw [e3, rnL_data ds hd]
  simp only [List.nodup_nil, decide_true, if_true, List.length_nil, List.nil_append]
  rw [e]
  have e5 : leave [] h [.ins true c ks vs] [.cell 0] = some ([.cell h.length], h ++ [.ins false c ks vs]) := by
    have st : stays (([.ins true c ks vs] : Hv).drop 0) 0 = [0] := rfl
    have s0 : nameOf [] [0] h.length 0 = some h.length := by simp [nameOf, posOf]
    have o1 : outV (nameOf [] [0] h.length) [.ins true c ks vs] 8 (.cell 0) = some (.cell h.length) := outV_cell s0
    have o2 : outC false (nameOf [] [0] h.length) [.ins true c ks vs] (.ins true c ks vs) = some (.ins false c ks vs) := by
      simp only [outC, mapO_data dv]
      rfl
    unfold leave
    simp only [List.length_nil, st, mapO, o1, List.getElem?_cons_zero, Option.bind_some, o2, List.take_zero]
    rfl
  dsimp only
  rw [e5]
theorem lines_new {m : Nat} {t : Str} {h : Hv} (hl : t.length + 2 ≤ lim) : region (runF T (m + 1)) 13 (some (1, true)) [.str t] h = .ok (.cell h.length) (h ++ [linesC false (Txt.split t ("\n" : Str)) 0]) :=
  region_new1 rfl (lines_init hl) (by simp only [allData, isData, strs_data]; rfl)
end LawT

set_option linter.all false
set_option Elab.async false
set_option maxRecDepth 100000
set_option maxHeartbeats 1000000
namespace LawT
open PySem PySem.Spec PyProof.Rows L2 Pv
/-- a way's line -/
def lineW (s : Int) (p : Int × Int) : Str := Txt.join (" " : Str) [("way" : Str), numS s, numS p.1, numS p.2]
def allW : List (Int × (Int × Int)) := [(0, (0, 0)), (0, (0, 1)), (0, (1, 0)), (0, (1, 1)), (0, (2, 0)), (0, (2, 1)), (1, (0, 0)), (1, (0, 1)), (1, (1, 0)), (1, (1, 1)), (1, (2, 0)), (1, (2, 1))]
def chkW (q : Int × (Int × Int)) : Bool := decide (Txt.split (lineW q.1 q.2) (" " : Str) = [("way" : Str), numS q.1, numS q.2.1, numS q.2.2]) && decide ((lineW q.1 q.2).length ≤ 9) && PyData.strOk (lineW q.1 q.2) && decide (10 ∉ (lineW q.1 q.2).cps.toList)
theorem allW_ok : (allW.all chkW) = true := by kernel_rfl
theorem lineW_ok {q : Int × (Int × Int)} (h : q ∈ allW) : Txt.split (lineW q.1 q.2) (" " : Str) = [("way" : Str), numS q.1, numS q.2.1, numS q.2.2] ∧ (lineW q.1 q.2).length ≤ 9 ∧ PyData.strOk (lineW q.1 q.2) = true ∧ 10 ∉ (lineW q.1 q.2).cps.toList := by
  have a := allW_ok
  rw [List.all_eq_true] at a
  have b := a q h
  simp only [chkW, Bool.and_eq_true, decide_eq_true_eq] at b
  exact ⟨b.1.1.1, b.1.1.2, b.1.2, b.2⟩
def cellsN (S : Nat) : List Val := (List.range S).map fun i => .cell (i + 1)
def fC (A : List (Int × Int)) : Cell := .lst false (A.map pairV)
theorem cellsN_at {h : Hv} {S i : Nat} (hi : i < S) : atV h (.lst (cellsN S)) (.int (i : Int)) = some (.cell (i + 1)) := by
  simp only [atV, seqs_lst]
  refine atI_nat ?_
  unfold cellsN
  rw [List.getElem?_map, List.getElem?_range hi]
  rfl
theorem atI_neg1 {α : Type} {xs : List α} {x : α} (hx : xs[xs.length - 1]? = some x) : L2.atI xs (-1) = some x := by
  have hl := (List.getElem?_eq_some_iff.mp hx).1
  unfold L2.atI L2.ixN
  rw [if_neg (by omega), if_pos (by omega)]
  have : (-1 + (xs.length : Int)).toNat = xs.length - 1 := by omega
  rw [this]
  exact hx
theorem cellsN_last {h : Hv} {S : Nat} (hS : 0 < S) : atV h (.lst (cellsN S)) (.int (-1)) = some (.cell S) := by
  simp only [atV, seqs_lst]
  refine atI_neg1 ?_
  unfold cellsN
  rw [List.length_map, List.length_range, List.getElem?_map, List.getElem?_range (by omega)]
  show some (Val.cell (S - 1 + 1)) = _
  rw [Nat.sub_add_cancel hS]
theorem seqs_cell {h : Hv} {n : Nat} {g : Bool} {xs : List Val} (e : h[n]? = some (.lst g xs)) : seqs h (.cell n) = some xs := by
  simp only [seqs, items, e]
/-- p <= q of pairs -/
def leP (p q : Int × Int) : Bool := leT [p.1, p.2] [q.1, q.2]
def highOf (S st : Nat) (A : List (Int × Int)) : Nat := min (S - 1) (st + if A.length > 0 then 1 else 0)
def readBody : List S := [(.set 5 (.var 4)), (.set 6 (.blt .min2 [(.bin .sub (.var 2) (.con (.int 1))), (.bin .add (.var 4) (.blt .int [(.cmp .gt (.blt .len [(.ix (.var 3) (.var 4))]) (.con (.int 0)))]))])), (.set 7 (.fld (.var 1) 2)), (.set 8 (.meth 1 15 (.var 1) [(.con (.str "way")), (.lst [(.tup [(.var 5), (.var 6)]), (.tup [(.con (.int 0)), (.con (.int 2))]), (.tup [(.con (.int 0)), (.bin .sub (.var 2) (.con (.int 1)))])])])), (.set 9 (.tup [(.ix (.var 8) (.con (.int 1))), (.ix (.var 8) (.con (.int 2)))])), (.set 4 (.ix (.var 8) (.con (.int 0)))), (.ifs (.bop true [(.cmp .gt (.blt .len [(.ix (.var 3) (.var 4))]) (.con (.int 0))), (.cmp .le (.var 9) (.ix (.ix (.var 3) (.var 4)) (.neg (.con (.int 1)))))]) [.dead] []), (.expr (.bm .append (.ix (.var 3) (.var 4)) [(.var 9)]))]
theorem trip_mem {n lo hi : Int} (h0 : 0 ≤ lo) (h1 : lo ≤ n) (h2 : n ≤ hi) (h3 : hi ≤ 2) (h4 : lo ≤ 1) : (n, lo, hi) ∈ trip := by
  have a : lo = 0 ∨ lo = 1 := by omega
  have b : hi = 0 ∨ hi = 1 ∨ hi = 2 := by omega
  have c : n = 0 ∨ n = 1 ∨ n = 2 := by omega
  rcases a with rfl | rfl <;> rcases b with rfl | rfl | rfl <;> rcases c with rfl | rfl | rfl <;> first | decide | omega
theorem allW_in : ∀ q ∈ allW, 0 ≤ q.1 ∧ q.1 ≤ 1 ∧ 0 ≤ q.2.1 ∧ q.2.1 ≤ 2 ∧ 0 ≤ q.2.2 ∧ q.2.2 ≤ 1 := by decide
theorem at3 {h : Hv} {a b c : Val} : atV h (.lst [a, b, c]) (.int 0) = some a ∧ atV h (.lst [a, b, c]) (.int 1) = some b ∧ atV h (.lst [a, b, c]) (.int 2) = some c := ⟨rfl, rfl, rfl⟩
theorem read_body {m : Nat} {L : List Str} {k S st s : Nat} {p : Int × Int} {ws : List (List (Int × Int))} {A0 A : List (Int × Int)} {t : Val} {o5 o6 o7 o8 o9 : Option Val} (hS : S = 1 ∨ S = 2) (hst : st < S) (hws : ws.length = S) (hA0 : ws[st]? = some A0) (hA : ws[s]? = some A) (hk : L[k]? = some (lineW s p)) (hq : ((s : Int), p) ∈ allW) (hp2 : p.2 < S)
    (h1 : st ≤ s) (h2 : s ≤ highOf S st A0) (hle : ∀ q, A[A.length - 1]? = some q → leP p q = false) (hl : A.length < lim) :
    ∃ q5 q6 q7 q8 q9, exSs (runF T (m + 2)) readBody [some t, some (.cell 0), some (.int S), some (.lst (cellsN S)), some (.int st), o5, o6, o7, o8, o9] (linesC false L k :: ws.map fC) = .nx [some t, some (.cell 0), some (.int S), some (.lst (cellsN S)), some (.int s), q5, q6, q7, q8, q9] (linesC false L (k + 1 : Nat) :: (ws.set s (A ++ [p])).map fC) := by
  have hs : s < S := by rw [← hws]; exact (List.getElem?_eq_some_iff.mp hA).1
  have hc0 : (linesC false L k :: ws.map fC)[st + 1]? = some (fC A0) := by rw [List.getElem?_cons_succ, List.getElem?_map, hA0]; rfl
  have hc1 : ∀ C : Cell, (C :: ws.map fC)[s + 1]? = some (fC A) := fun C => by rw [List.getElem?_cons_succ, List.getElem?_map, hA]; rfl
  obtain ⟨w1, w2, w3, w4⟩ := lineW_ok hq
  have hx0 : seqs (linesC false L k :: ws.map fC) (.cell (st + 1)) = some (A0.map pairV) := seqs_cell hc0
  have e2 : exS (runF T (m + 2)) (.set 6 (.blt .min2 [(.bin .sub (.var 2) (.con (.int 1))), (.bin .add (.var 4) (.blt .int [(.cmp .gt (.blt .len [(.ix (.var 3) (.var 4))]) (.con (.int 0)))]))])) [some t, some (.cell 0), some (.int S), some (.lst (cellsN S)), some (.int st), some (.int st), o6, o7, o8, o9] (linesC false L k :: ws.map fC) = .nx [some t, some (.cell 0), some (.int S), some (.lst (cellsN S)), some (.int st), some (.int st), some (.int (highOf S st A0 : Nat)), o7, o8, o9] (linesC false L k :: ws.map fC) := by
    have hh : (if (st : Int) + (if 0 < A0.length then 1 else 0) < (S : Int) - 1 then (st : Int) + (if 0 < A0.length then 1 else 0) else (S : Int) - 1) = ((highOf S st A0 : Nat) : Int) := by
      unfold highOf
      by_cases hz : 0 < A0.length
      · simp only [if_pos hz, gt_iff_lt]
        split <;> omega
      · simp only [if_neg hz, gt_iff_lt]
        split <;> omega
    simp [evEs, binV, bltV, lenV, cmpV, cellsN_at hst, hx0, Cst.val, hh]
  have hi1 : highOf S st A0 ≤ 1 := by unfold highOf; omega
  obtain ⟨a1, a2, a3, a4, a5, a6⟩ := allW_in _ hq
  simp only at a1 a2 a3 a4 a5 a6 w1 w2
  have tk := take_call (m := m) (c := 0) (h := linesC false L k :: ws.map fC) (g := false) (L := L) (k := k) (hd := "way") (s := lineW s p) (ts := [(numS s, ((st : Int), ((highOf S st A0 : Nat) : Int)), (s : Int)), (numS p.1, (0, 2), p.1), (numS p.2, (0, (S : Int) - 1), p.2)]) rfl hk (by simpa using w1) (by rw [show lim = 1000000 from rfl]; omega) (by decide +kernel) (fun q hqm => by
    simp only [List.mem_cons, List.not_mem_nil, or_false] at hqm
    rcases hqm with rfl | rfl | rfl
    · have : ((s : Int), (st : Int), ((highOf S st A0 : Nat) : Int)) ∈ trip := trip_mem (by omega) (by omega) (by omega) (by omega) (by omega)
      exact ⟨this, rfl⟩
    · have : (p.1, (0 : Int), (2 : Int)) ∈ trip := trip_mem (by omega) a3 a4 (by omega) (by omega)
      exact ⟨this, rfl⟩
    · have : (p.2, (0 : Int), (S : Int) - 1) ∈ trip := trip_mem (by omega) a5 (by omega) (by omega) (by omega)
      exact ⟨this, rfl⟩) (by show (3 : Nat) ≤ lim; decide)
  simp only [List.map_cons, List.map_nil, pairV, List.set_cons_zero] at tk
  generalize hC1 : linesC false L ((k + 1 : Nat) : Int) = C1 at tk ⊢
  have hcl : clsV (linesC false L k :: ws.map fC) (.cell 0) = some 1 := rfl
  have e4 : exS (runF T (m + 2)) (.set 8 (.meth 1 15 (.var 1) [(.con (.str "way")), (.lst [(.tup [(.var 5), (.var 6)]), (.tup [(.con (.int 0)), (.con (.int 2))]), (.tup [(.con (.int 0)), (.bin .sub (.var 2) (.con (.int 1)))])])])) [some t, some (.cell 0), some (.int S), some (.lst (cellsN S)), some (.int st), some (.int st), some (.int (highOf S st A0 : Nat)), some (.int k), o8, o9] (linesC false L k :: ws.map fC) = .nx [some t, some (.cell 0), some (.int S), some (.lst (cellsN S)), some (.int st), some (.int st), some (.int (highOf S st A0 : Nat)), some (.int k), some (.lst [.int s, .int p.1, .int p.2]), o9] (C1 :: ws.map fC) := by
    have l1 : (1 : Nat) ≤ lim := by decide
    have l2 : (2 : Nat) ≤ lim := by decide
    have l3 : (3 : Nat) ≤ lim := by decide
    simp [evEs, hcl, Cst.val, binV, tk, l2, l3]
  have e3 : exS (runF T (m + 2)) (.set 7 (.fld (.var 1) 2)) [some t, some (.cell 0), some (.int S), some (.lst (cellsN S)), some (.int st), some (.int st), some (.int (highOf S st A0 : Nat)), o7, o8, o9] (linesC false L k :: ws.map fC) = .nx [some t, some (.cell 0), some (.int S), some (.lst (cellsN S)), some (.int st), some (.int st), some (.int (highOf S st A0 : Nat)), some (.int k), o8, o9] (linesC false L k :: ws.map fC) := by
    have hf2 : fldV (linesC false L k :: ws.map fC) (.cell 0) 2 = some (.int k) := rfl
    simp [hf2]
  have e5 : exS (runF T (m + 2)) (.set 9 (.tup [(.ix (.var 8) (.con (.int 1))), (.ix (.var 8) (.con (.int 2)))])) [some t, some (.cell 0), some (.int S), some (.lst (cellsN S)), some (.int st), some (.int st), some (.int (highOf S st A0 : Nat)), some (.int k), some (.lst [.int s, .int p.1, .int p.2]), o9] (C1 :: ws.map fC) = .nx [some t, some (.cell 0), some (.int S), some (.lst (cellsN S)), some (.int st), some (.int st), some (.int (highOf S st A0 : Nat)), some (.int k), some (.lst [.int s, .int p.1, .int p.2]), some (pairV p)] (C1 :: ws.map fC) := by
    have l2 : (2 : Nat) ≤ lim := by decide
    simp [evEs, Cst.val, at3, l2, pairV]
  have e6 : exS (runF T (m + 2)) (.set 4 (.ix (.var 8) (.con (.int 0)))) [some t, some (.cell 0), some (.int S), some (.lst (cellsN S)), some (.int st), some (.int st), some (.int (highOf S st A0 : Nat)), some (.int k), some (.lst [.int s, .int p.1, .int p.2]), some (pairV p)] (C1 :: ws.map fC) = .nx [some t, some (.cell 0), some (.int S), some (.lst (cellsN S)), some (.int s), some (.int st), some (.int (highOf S st A0 : Nat)), some (.int k), some (.lst [.int s, .int p.1, .int p.2]), some (pairV p)] (C1 :: ws.map fC) := by
    simp [evEs, Cst.val, at3]
  have hx1 : seqs (C1 :: ws.map fC) (.cell (s + 1)) = some (A.map pairV) := seqs_cell (hc1 _)
  have e7 : exS (runF T (m + 2)) (.ifs (.bop true [(.cmp .gt (.blt .len [(.ix (.var 3) (.var 4))]) (.con (.int 0))), (.cmp .le (.var 9) (.ix (.ix (.var 3) (.var 4)) (.neg (.con (.int 1)))))]) [.dead] []) [some t, some (.cell 0), some (.int S), some (.lst (cellsN S)), some (.int s), some (.int st), some (.int (highOf S st A0 : Nat)), some (.int k), some (.lst [.int s, .int p.1, .int p.2]), some (pairV p)] (C1 :: ws.map fC) = .nx [some t, some (.cell 0), some (.int S), some (.lst (cellsN S)), some (.int s), some (.int st), some (.int (highOf S st A0 : Nat)), some (.int k), some (.lst [.int s, .int p.1, .int p.2]), some (pairV p)] (C1 :: ws.map fC) := by
    cases hA' : A[A.length - 1]? with
    | none =>
      have : A.length = 0 := by
        have := List.getElem?_eq_none_iff.mp hA'
        omega
      have : A = [] := List.eq_nil_of_length_eq_zero this
      subst this
      simp [evEs, Cst.val, bltV, lenV, cmpV, cellsN_at hs, hx1]
    | some q =>
      have hlt : 0 < A.length := by
        have := (List.getElem?_eq_some_iff.mp hA').1
        omega
      have hq2 : ∀ h, seqs h (.cell (s + 1)) = some (A.map pairV) → atV h (.cell (s + 1)) (.int (-1)) = some (pairV q) := fun h hh => by
        simp only [atV, hh]
        refine atI_neg1 ?_
        rw [List.length_map, List.getElem?_map, hA']
        rfl
      have hcmp : ∀ h, cmpV h .le (pairV p) (pairV q) = some false := fun h => by
        have := hle q hA'
        simp only [leP] at this
        simp [cmpV, pairV, intsOf, this]
      simp [evEs, Cst.val, bltV, lenV, cellsN_at hs, hx1, hq2 _ hx1, hcmp, show ∀ h a b, cmpV h .gt (.int a) (.int b) = some (decide (b < a)) from fun _ _ _ => rfl, hlt]
  have e8 : exS (runF T (m + 2)) (.expr (.bm .append (.ix (.var 3) (.var 4)) [(.var 9)])) [some t, some (.cell 0), some (.int S), some (.lst (cellsN S)), some (.int s), some (.int st), some (.int (highOf S st A0 : Nat)), some (.int k), some (.lst [.int s, .int p.1, .int p.2]), some (pairV p)] (C1 :: ws.map fC) = .nx [some t, some (.cell 0), some (.int S), some (.lst (cellsN S)), some (.int s), some (.int st), some (.int (highOf S st A0 : Nat)), some (.int k), some (.lst [.int s, .int p.1, .int p.2]), some (pairV p)] (C1 :: (ws.set s (A ++ [p])).map fC) := by
    have g1 : (C1 :: ws.map fC)[s + 1]? = some (.lst false (A.map pairV)) := hc1 _
    have g2 : (C1 :: ws.map fC).set (s + 1) (.lst false (A.map pairV ++ [pairV p])) = C1 :: (ws.set s (A ++ [p])).map fC := by
      rw [List.set_cons_succ, List.map_set]
      simp [fC]
    have g3 : bmTy .append (C1 :: ws.map fC) (.cell (s + 1)) = true := by
      simp only [bmTy, g1]
    have g4 : bmV .append (.cell (s + 1)) [pairV p] (C1 :: ws.map fC) = .ok .non (C1 :: (ws.set s (A ++ [p])).map fC) := by
      rw [← g2]
      simp only [bmV, g1, bmL, List.length_map, if_pos hl]
    simp [evEs, cellsN_at hs, g3, g4]
  have e1 : exS (runF T (m + 2)) (.set 5 (.var 4)) [some t, some (.cell 0), some (.int S), some (.lst (cellsN S)), some (.int st), o5, o6, o7, o8, o9] (linesC false L k :: ws.map fC) = .nx [some t, some (.cell 0), some (.int S), some (.lst (cellsN S)), some (.int st), some (.int st), o6, o7, o8, o9] (linesC false L k :: ws.map fC) := by
    simp
  refine ⟨some (.int st), some (.int (highOf S st A0 : Nat)), some (.int k), some (.lst [.int s, .int p.1, .int p.2]), some (pairV p), ?_⟩
  · simp only [readBody, exSs_cons, exSs_nil, e1, e2, e3, e4, e5, e6, e7, e8]
end LawT

set_option linter.all false
set_option Elab.async false
set_option maxRecDepth 100000
set_option maxHeartbeats 1000000
namespace LawT
open PySem PySem.Spec PyProof.Rows L2 Pv
def okRest (S : Nat) : List (List (Int × Int)) → Nat → List (Nat × (Int × Int)) → Prop
  | ws, _, [] => ∃ A, ws[S - 1]? = some A ∧ 0 < A.length
  | ws, st, (s, p) :: r => ((s : Int), p) ∈ allW ∧ p.2 < S ∧ st ≤ s ∧ ∃ A0 A, ws[st]? = some A0 ∧ ws[s]? = some A ∧ s ≤ highOf S st A0 ∧ (∀ q, A[A.length - 1]? = some q → leP p q = false) ∧ A.length < lim ∧ okRest S (ws.set s (A ++ [p])) s r
def pushAll : List (List (Int × Int)) → List (Nat × (Int × Int)) → List (List (Int × Int))
  | ws, [] => ws
  | ws, (s, p) :: r => pushAll (ws.set s (ws.getD s [] ++ [p])) r
def readCond : E := .bop false [(.not (.meth 1 14 (.var 1) [])), (.cmp .eq (.blt .len [(.ix (.var 3) (.neg (.con (.int 1))))]) (.con (.int 0)))]
theorem read_cond {m : Nat} {L : List Str} {k S : Nat} {ws : List (List (Int × Int))} {A : List (Int × Int)} {t st : Val} {o5 o6 o7 o8 o9 : Option Val} (hS : 0 < S) (hA : ws[S - 1]? = some A) :
    evE (runF T (m + 2)) readCond [some t, some (.cell 0), some (.int S), some (.lst (cellsN S)), some st, o5, o6, o7, o8, o9] (linesC false L k :: ws.map fC) = .ok (.bl (!decide (k = L.length) || decide (A.length = 0))) (linesC false L k :: ws.map fC) := by
  have he := ended_ok (m := m + 1) (c := 0) (h := linesC false L k :: ws.map fC) (g := false) (L := L) (k := k) rfl
  have hcl : clsV (linesC false L k :: ws.map fC) (.cell 0) = some 1 := rfl
  have hc : (linesC false L k :: ws.map fC)[S]? = some (fC A) := by
    obtain ⟨j, rfl⟩ : ∃ j, S = j + 1 := ⟨S - 1, by omega⟩
    rw [List.getElem?_cons_succ, List.getElem?_map]
    simp at hA
    rw [hA]
    rfl
  have hx : seqs (linesC false L k :: ws.map fC) (.cell S) = some (A.map pairV) := seqs_cell hc
  by_cases hk : k = L.length
  · rw [decide_eq_true hk] at he ⊢
    simp [readCond, hcl, he, evEs, Cst.val, bltV, lenV, cmpV, cellsN_last hS, hx, eqD_int]
  · rw [decide_eq_false hk] at he ⊢
    simp [readCond, hcl, he]
theorem read_loop {m S : Nat} {L : List Str} {t : Val} (hS : S = 1 ∨ S = 2) : ∀ (rest : List (Nat × (Int × Int))) (n k st : Nat) (ws : List (List (Int × Int))) (o5 o6 o7 o8 o9 : Option Val), ws.length = S → st < S → L.drop k = rest.map (fun q => lineW q.1 q.2) → k ≤ L.length → rest.length + 1 ≤ n → okRest S ws st rest →
    ∃ st' q5 q6 q7 q8 q9, whileL (fun e h => evE (runF T (m + 2)) readCond e h) (fun e h => exSs (runF T (m + 2)) readBody e h) n [some t, some (.cell 0), some (.int S), some (.lst (cellsN S)), some (.int st), o5, o6, o7, o8, o9] (linesC false L k :: ws.map fC) =
      .nx [some t, some (.cell 0), some (.int S), some (.lst (cellsN S)), some st', q5, q6, q7, q8, q9] (linesC false L L.length :: (pushAll ws rest).map fC)
  | [], n, k, st, ws, o5, o6, o7, o8, o9, hws, hst, hL, hkl, hn, hok => by
    obtain ⟨A, hA, hp⟩ := hok
    have hk : k = L.length := by
      have := congrArg List.length hL
      simp at this
      omega
    subst hk
    obtain ⟨n', rfl⟩ : ∃ n', n = n' + 1 := ⟨n - 1, by simp at hn; omega⟩
    refine ⟨.int st, o5, o6, o7, o8, o9, ?_⟩
    rw [whileL, read_cond (by omega) hA]
    have : ¬ A.length = 0 := by omega
    simp [this, pushAll]
  | (s, p) :: r, n, k, st, ws, o5, o6, o7, o8, o9, hws, hst, hL, hkl, hn, hok => by
    obtain ⟨b1, b2, b3, A0, A, b4, b5, b6, b7, b8, b9⟩ := hok
    obtain ⟨n', rfl⟩ : ∃ n', n = n' + 1 := ⟨n - 1, by simp at hn; omega⟩
    have hlt : k < L.length := by
      have := congrArg List.length hL
      simp at this
      omega
    have hk : L[k]? = some (lineW s p) := by
      rw [List.drop_eq_getElem_cons hlt, List.map_cons] at hL
      rw [List.getElem?_eq_getElem hlt]
      exact congrArg some (List.cons.inj hL).1
    have hL2 : L.drop (k + 1) = r.map (fun q => lineW q.1 q.2) := by
      rw [List.drop_eq_getElem_cons hlt, List.map_cons] at hL
      exact (List.cons.inj hL).2
    have hs : s < S := by rw [← hws]; exact (List.getElem?_eq_some_iff.mp b5).1
    obtain ⟨q5, q6, q7, q8, q9, hb⟩ := read_body (m := m) (L := L) (k := k) (t := t) (o5 := o5) (o6 := o6) (o7 := o7) (o8 := o8) (o9 := o9) hS hst hws b4 b5 hk b1 b2 b3 b6 b7 b8
    obtain ⟨st', r5, r6, r7, r8, r9, ih⟩ := read_loop (m := m) (L := L) (t := t) hS r n' (k + 1) s (ws.set s (A ++ [p])) q5 q6 q7 q8 q9 (by rw [List.length_set]; exact hws) hs hL2 hlt (by simp at hn; omega) b9
    refine ⟨st', r5, r6, r7, r8, r9, ?_⟩
    obtain ⟨Z, hZ⟩ : ∃ Z, ws[S - 1]? = some Z := ⟨_, List.getElem?_eq_getElem (by omega)⟩
    have hne : decide (k = L.length) = false := by simp; omega
    rw [whileL, read_cond (by omega) hZ, hne]
    have hg : ws.getD s [] = A := by rw [List.getD_eq_getElem?_getD, b5]; rfl
    simp only [Bool.not_false, Bool.true_or, Res.out_ok, hb, ih, pushAll, hg]
end LawT

set_option linter.all false
set_option Elab.async false
set_option maxRecDepth 100000
set_option maxHeartbeats 1000000
namespace LawT
open PySem PySem.Spec PyProof.Rows L2 Pv
/-- a for whose turns keep the heap: the slots by the turn -/
theorem forL_steps {bind : Val → Pv.Env → Hv → Option Pv.Env} {body : Pv.Env → Hv → Out} {cur : Hv → Option (List Val)} {h : Hv} {xs : List Val} (hc : cur h = some xs) (E : Nat → Pv.Env) (hstep : ∀ (i : Nat) (x : Val), xs[i]? = some x → ∃ e1, bind x (E i) h = some e1 ∧ body e1 h = .nx (E (i + 1)) h) :
    ∀ (k i : Nat), i ≤ xs.length → xs.length + 1 ≤ i + k → forL bind body cur k i (E i) h = .nx (E xs.length) h
  | 0, i, h1, h2 => by omega
  | k + 1, i, h1, h2 => by
    rw [forL]
    have hs : srcAt cur h i = some xs[i]? := by
      unfold srcAt
      rw [hc]
      dsimp only
      rw [if_pos h1]
    rw [hs]
    cases hx : xs[i]? with
    | none =>
      have := List.getElem?_eq_none_iff.mp hx
      have : i = xs.length := by omega
      subst this
      rfl
    | some x =>
      obtain ⟨e1, a1, a2⟩ := hstep i x hx
      have hl := (List.getElem?_eq_some_iff.mp hx).1
      dsimp only
      rw [a1]
      dsimp only
      rw [a2]
      exact forL_steps hc E hstep k (i + 1) hl (by omega)
def lastOf (l : List (Int × Int)) : Nat → Int × Int
  | 0 => (-1, -1)
  | i + 1 => l.getD i (-1, -1)
def okLine (S : Int) (l : List (Int × Int)) : Prop := l ≠ [] ∧ ∀ (i : Nat) (p : Int × Int), l[i]? = some p → okIx p.1 3 = true ∧ okIx p.2 S = true ∧ leP p (lastOf l i) = false
def awBody : List S := [(.ifs (.bop false [(.not (.isi (.var 3) .tuple)), (.cmp .ne (.blt .len [(.var 3)]) (.con (.int 2)))]) [(.ret (.con (.bl false)))] []), (.ifs (.bop false [(.not (.call 1 [(.ix (.var 3) (.con (.int 0))), (.con (.int 3))])), (.not (.call 1 [(.ix (.var 3) (.con (.int 1))), (.var 1)])), (.cmp .le (.var 3) (.var 2))]) [(.ret (.con (.bl false)))] []), (.set 2 (.var 3))]
theorem at2 {h : Hv} {a b : Val} : atV h (.tup [a, b]) (.int 0) = some a ∧ atV h (.tup [a, b]) (.int 1) = some b := ⟨rfl, rfl⟩
theorem aw_turn {m : Nat} {S : Int} {v : Val} {h : Hv} {p q : Int × Int} (h1 : okIx p.1 3 = true) (h2 : okIx p.2 S = true) (h3 : leP p q = false) : exSs (runF T (m + 2)) awBody [some v, some (.int S), some (pairV q), some (pairV p)] h = .nx [some v, some (.int S), some (pairV p), some (pairV p)] h := by
  have ga := @g1 m p.1 3 h
  have gb := @g1 m p.2 S h
  rw [h1] at ga
  rw [h2] at gb
  have hcmp : cmpV h .le (.tup [.int p.1, .int p.2]) (.tup [.int q.1, .int q.2]) = some false := by
    simp only [leP] at h3
    simp [cmpV, intsOf, h3]
  have hne : ∀ a b : Int, cmpV h .ne (.int a) (.int b) = some (!decide (a = b)) := fun a b => by
    show (eqD h (.int a) (.int b)).map (!·) = _
    rw [eqD_int]
    rfl
  simp [awBody, evEs, isiV, pairV, bltV, lenV, hne, Cst.val, at2, ga, gb, hcmp]
/-- the slots of are_ways by the turn -/
def awE (v : Val) (S : Int) (l : List (Int × Int)) (i : Nat) : Pv.Env := [some v, some (.int S), some (pairV (lastOf l i)), if i = 0 then none else some (pairV (lastOf l i))]
theorem aw_run {m : Nat} {S : Int} {l : List (Int × Int)} {v : Val} {h : Hv} (hv : seqs h v = some (l.map pairV)) (hi : isiV h v .list = some true) (ok : okLine S l) (hl : l.length < 1000) : runF T (m + 3) 3 [v, .int S] h = .ok (.bl true) h := by
  obtain ⟨ne, ok⟩ := ok
  have hk : (l.map pairV).length + 1 ≤ 0 + fuelV v (l.map pairV) := by
    unfold fuelV
    split
    · rw [List.length_map]
      show l.length + 1 ≤ 0 + 100000
      omega
    · omega
  have lp := forL_steps (bind := fun x e h => bindT h (.n 3) x e) (body := fun e h => exSs (runF T (m + 2)) awBody e h) (cur := fun h => seqs h v) hv (awE v S l) (fun i x hx => by
    rw [List.getElem?_map] at hx
    cases hp : l[i]? with
    | none => rw [hp] at hx; cases hx
    | some p =>
      rw [hp] at hx
      cases hx
      obtain ⟨a1, a2, a3⟩ := ok i p hp
      refine ⟨[some v, some (.int S), some (pairV (lastOf l i)), some (pairV p)], by simp [bindT, awE], ?_⟩
      rw [aw_turn a1 a2 a3]
      have : lastOf l (i + 1) = p := by
        show l.getD i (-1, -1) = p
        rw [List.getD_eq_getElem?_getD, hp]
        rfl
      simp [awE, this]) (fuelV v (l.map pairV)) 0 (Nat.zero_le _) hk
  have hfor : exS (runF T (m + 2)) (.for_ (.n 3) (.seq (.var 0)) awBody) (awE v S l 0) h = .nx (awE v S l (l.map pairV).length) h := by
    rw [exS_for]
    simp only [evI_seq, evE_var]
    simp only [awE, List.getElem?_cons_zero, Res.bind_ok, hv, Res.out_ok]
    exact lp
  have hlen : bltV h .len [v] = some (.int l.length) := by
    cases v with
    | str s => simp [seqs, items] at hv
    | _ => simp [bltV, lenV, hv]
  have hz : ¬ (l.length = 0) := fun z => ne (List.eq_nil_of_length_eq_zero z)
  have heq : ∀ a b : Int, cmpV h .eq (.int a) (.int b) = some (decide (a = b)) := fun a b => eqD_int (h := h)
  rw [runF_at (fn := ⟨2, 4, f3⟩) rfl rfl]
  have hrep : List.replicate (4 - 2) (none : Option Val) = [none, none] := rfl
  have s1 : exS (runF T (m + 2)) (.ifs (.bop false [(.not (.isi (.var 0) .list)), (.cmp .eq (.blt .len [(.var 0)]) (.con (.int 0)))]) [(.ret (.con (.bl false)))] []) [some v, some (.int S), none, none] h = .nx [some v, some (.int S), none, none] h := by
    simp [evEs, hi, hlen, heq, Cst.val, hz]
  have s2 : exS (runF T (m + 2)) (.set 2 (.tup [(.neg (.con (.int 1))), (.neg (.con (.int 1)))])) [some v, some (.int S), none, none] h = .nx (awE v S l 0) h := by
    have l2 : (2 : Nat) ≤ lim := by decide
    simp [evEs, Cst.val, l2, awE, lastOf, pairV]
  unfold awBody at hfor
  simp only [f3, hrep, List.map_cons, List.map_nil, List.cons_append, List.nil_append, exSs_cons, s1, s2, hfor, exS_ret, evE_con]
  simp [Cst.val]
end LawT

set_option linter.all false
set_option Elab.async false
set_option maxRecDepth 100000
set_option maxHeartbeats 1000000
namespace LawT
open PySem PySem.Spec PyProof.Rows L2 Pv
/-- the slots of Sender.__init__ by the turn -/
def siE (c : Nat) (vals : List Val) (i : Nat) : Pv.Env := [some (.cell c), some (.lst vals), if i = 0 then none else some (.int ((i - 1 : Nat) : Int)), if i = 0 then none else vals[i - 1]?]
theorem enumV_at : ∀ {xs : List Val} {k i : Nat} {x : Val}, (enumV xs k)[i]? = some x → ∃ y, xs[i]? = some y ∧ x = .tup [.int ((k + i : Nat) : Int), y] := fun h => enum_at h
theorem init_run {m c : Nat} {vals : List Val} {h : Hv} {g : Bool} {f : Val → Val} (hc : h[c]? = some (.ins g 0 [] [])) (hS : vals.length = 1 ∨ vals.length = 2) (hcall : ∀ v ∈ vals, region (runF T (m + 3)) 3 none [v, .int vals.length] h = .ok (.bl true) h) (hf : ∀ v ∈ vals, bltV h .list [v] = some (f v)) :
    runF T (m + 4) 4 [.cell c, .lst vals] h = .ok .non (h.set c (.ins g 0 [0] [.lst (vals.map f)])) := by
  rw [runF_at (fn := ⟨2, 4, f4⟩) rfl rfl]
  have hrep : List.replicate (4 - 2) (none : Option Val) = [none, none] := rfl
  have hlen : ∀ h, bltV h .len [.lst vals] = some (.int vals.length) := fun h => by simp [bltV, lenV]
  have s1 : exS (runF T (m + 3)) (.ifs (.bop false [(.not (.isi (.var 1) .list)), (.not (.chain .le .le (.con (.int 1)) (.blt .len [(.var 1)]) (.con (.int 2))))]) [.dead] []) [some (.cell c), some (.lst vals), none, none] h = .nx (siE c vals 0) h := by
    have a : (1 : Int) ≤ vals.length := by omega
    have b : (vals.length : Int) ≤ 2 := by omega
    simp [evEs, isiV, hlen, cmpV, Cst.val, a, b, siE]
  have hcur : (fun h => (items h (.lst vals)).map fun xs => enumV xs 0) h = some (enumV vals 0) := by simp
  have lp := forL_steps (bind := fun x e h => bindT h (.t [(.n 2), (.n 3)]) x e) (body := fun e h => exSs (runF T (m + 3)) [(.ifs (.not (.call 3 [(.var 3), (.blt .len [(.var 1)])])) [.dead] [])] e h) (cur := fun h => (items h (.lst vals)).map fun xs => enumV xs 0) hcur (siE c vals) (fun i x hx => by
    obtain ⟨y, h1, rfl⟩ := enumV_at hx
    refine ⟨[some (.cell c), some (.lst vals), some (.int ((0 + i : Nat) : Int)), some y], by simp [bindT, bindTs, siE], ?_⟩
    have q := hcall y (List.mem_of_getElem? h1)
    simp [evEs, hlen, q, siE, h1]) (vals.length + 1) 0 (Nat.zero_le _) (by rw [enum_len]; omega)
  rw [enum_len] at lp
  have s2 : exS (runF T (m + 3)) (.for_ (.t [(.n 2), (.n 3)]) (.enum (.var 1)) [(.ifs (.not (.call 3 [(.var 3), (.blt .len [(.var 1)])])) [.dead] [])]) (siE c vals 0) h = .nx (siE c vals vals.length) h := by
    rw [exS_for]
    have he : evI (runF T (m + 3)) (.enum (.var 1)) (siE c vals 0) h = .ok (vals.length + 1, fun h => (items h (.lst vals)).map fun xs => enumV xs 0) h := by
      simp [siE]
    rw [he]
    exact lp
  have s3 : exS (runF T (m + 3)) (.setf (.var 0) 0 (.lc [3] (.blt .list [(.var 3)]) (.n 3) (.seq (.var 1)) (.con (.bl true)))) (siE c vals vals.length) h = .nx (siE c vals vals.length) (h.set c (.ins g 0 [0] [.lst (vals.map f)])) := by
    have hl : evE (runF T (m + 3)) (.lc [3] (.blt .list [(.var 3)]) (.n 3) (.seq (.var 1)) (.con (.bl true))) (siE c vals vals.length) h = .ok (.lst (vals.map f)) h := by
      refine lc_map (xs := vals) (k := vals.length + 1) (by simp [siE]) (Nat.le_refl _) (by rw [show lim = 1000000 from rfl]; omega) f (fun x hx => ?_)
      refine ⟨[some (.cell c), some (.lst vals), (siE c vals vals.length)[2]!, some x], by simp [bindT, wipeE, siE], ?_⟩
      simp [evEs, hf x hx]
    have hset : setfV h (.cell c) 0 (.lst (vals.map f)) = some (h.set c (.ins g 0 [0] [.lst (vals.map f)])) := by
      simp [setfV, hc, Pv.putK]
    have hv : (siE c vals vals.length)[0]? = some (some (.cell c)) := rfl
    rw [exS_setf, hl]
    simp [hv, hset]
  simp only [f4, hrep, List.map_cons, List.map_nil, List.cons_append, List.nil_append, exSs_cons, s1, s2, s3, exSs_nil]
  rfl

def valW (l : List (Int × Int)) : Val := .lst (l.map pairV)
def sndV (ws : List (List (Int × Int))) : Val := .ins 0 [0] [.lst (ws.map valW)]
theorem valW_data : ∀ ws : List (List (Int × Int)), allData (ws.map valW) = true
  | [] => rfl
  | l :: ws => by simp only [List.map_cons, allData, isData, valW, pairs_data]; exact valW_data ws
theorem region_new0 {cf : CF} {f c : Nat} {ds : List Val} {h : Hv} {ks : List Nat} {vs : List Val} (hd : allData ds = true) (e : cf f (.cell 0 :: ds) [.ins false c [] []] = .ok .non [.ins false c ks vs]) (dv : allData vs = true) : region cf f (some (c, false)) ds h = .ok (.ins c ks vs) h := by
  have e2 : dedup [] ([] : List Nat) = [] := rfl
  unfold region
  simp only [cellsL_data ds hd, e2, reach_nil]
  have e3 : getCs h (fun n => posOf n [] 0) [] = some [] := rfl
  rw [e3, rnL_data ds hd]
  simp only [List.nodup_nil, decide_true, if_true, List.length_nil, List.nil_append]
  rw [e]
  have e5 : leave [] h [.ins false c ks vs] [.cell 0] = some ([.ins c ks vs], h) := by
    have st : stays (([.ins false c ks vs] : Hv).drop 0) 0 = [] := rfl
    have s0 : nameOf [] [] h.length 0 = none := rfl
    have o1 : outV (nameOf [] [] h.length) [.ins false c ks vs] 8 (.cell 0) = some (.ins c ks vs) := by
      rw [outV]
      simp only [isData, Bool.false_eq_true, if_false, s0, List.getElem?_cons_zero]
      rw [mapO_data dv]
      rfl
    unfold leave
    simp only [List.length_nil, st, mapO, o1, List.take_zero]
    simp [putCs]
  dsimp only
  rw [e5]
/-- the ways of a sender -/
structure OkW (ws : List (List (Int × Int))) : Prop where
  len : ws.length = 1 ∨ ws.length = 2
  line : ∀ l ∈ ws, okLine ws.length l
  few : ∀ l ∈ ws, l.length < 1000
theorem sender_new {m : Nat} {h : Hv} {ws : List (List (Int × Int))} (ok : OkW ws) : region (runF T (m + 4)) 4 (some (0, false)) [.lst (ws.map valW)] h = .ok (sndV ws) h := by
  have r := init_run (m := m) (c := 0) (vals := ws.map valW) (h := [.ins false 0 [] []]) (g := false) (f := id) rfl (by simpa using ok.len) (fun v hv => by
    obtain ⟨l, hl, rfl⟩ := List.mem_map.mp hv
    have q := aw_run (m := m) (S := ws.length) (l := l) (v := valW l) (h := []) rfl rfl (ok.line l hl) (ok.few l hl)
    rw [List.length_map]
    exact gives_data (by simp only [allData, isData, valW, pairs_data]; rfl) q rfl rfl _) (fun v hv => by
    obtain ⟨l, hl, rfl⟩ := List.mem_map.mp hv
    rfl)
  rw [List.map_id] at r
  refine region_new0 (by simp only [allData, isData, valW_data]; rfl) r (by simp only [allData, isData, valW_data]; rfl)
end LawT

set_option linter.all false
set_option Elab.async false
set_option maxRecDepth 100000
set_option maxHeartbeats 1000000
namespace LawT
open PySem PySem.Spec PyProof.Rows L2 Pv
theorem fC_data (A : List (Int × Int)) : dataC (fC A) = true := pairs_data A
theorem aw_cell {m n : Nat} {S : Int} {l : List (Int × Int)} {h : Hv} (hc : h[n]? = some (fC l)) (ok : okLine S l) (hl : l.length < 1000) : region (runF T (m + 3)) 3 none [.cell n, .int S] h = .ok (.bl true) h := by
  have q := aw_run (m := m) (S := S) (l := l) (v := .cell 0) (h := [fC l]) rfl rfl ok hl
  have := region_cell_data (ds := [.int S]) (ls := []) rfl hc (fC_data l) q (fC_data l) rfl rfl
  rw [this, set_self hc]
theorem sender_cells2 {m : Nat} {C : Cell} {A B : List (Int × Int)} (ok : OkW [A, B]) : region (runF T (m + 4)) 4 (some (0, false)) [.lst [.cell 1, .cell 2]] [C, fC A, fC B] = .ok (sndV [A, B]) [C, fC A, fC B] := by
  have r := init_run (m := m) (c := 2) (vals := [.cell 0, .cell 1]) (h := [fC A, fC B, .ins false 0 [] []]) (g := false) (f := fun v => match v with
    | .cell 0 => valW A
    | _ => valW B) rfl (.inr rfl) (fun v hv => by
    simp only [List.mem_cons, List.not_mem_nil, or_false] at hv
    rcases hv with rfl | rfl
    · exact aw_cell rfl (ok.line A (by simp)) (ok.few A (by simp))
    · exact aw_cell rfl (ok.line B (by simp)) (ok.few B (by simp))) (fun v hv => by
    simp only [List.mem_cons, List.not_mem_nil, or_false] at hv
    rcases hv with rfl | rfl <;> rfl)
  have i1 : inC (fC A) = [] := inC_data (fC_data A)
  have i2 : inC (fC B) = [] := inC_data (fC_data B)
  have e1 : dedup [] (cellsL [.lst [.cell 1, .cell 2]]) = [1, 2] := rfl
  have e0 : ∀ k, reach [C, fC A, fC B] k [1, 2] = [1, 2] := fun k => by
    induction k with
    | zero => rfl
    | succ k ih =>
      rw [reach]
      simp only [List.flatMap_cons, List.flatMap_nil, List.getElem?_cons_succ, List.getElem?_cons_zero, i1, i2, List.append_nil, dedup]
      exact ih
  unfold region
  simp only [e1, e0]
  have e3 : getCs [C, fC A, fC B] (fun n => posOf n [1, 2] 0) [1, 2] = some [fC A, fC B] := by
    unfold getCs
    simp [mapO, rnC_data (fC_data A), rnC_data (fC_data B)]
  have e4 : rnL (fun n => posOf n [1, 2] 0) [.lst [.cell 1, .cell 2]] = some [.lst [.cell 0, .cell 1]] := rfl
  rw [e3, e4]
  have hnd : decide ([1, 2] : List Nat).Nodup = true := by decide
  simp only [hnd, if_true, List.length_cons, List.length_nil, List.cons_append, List.nil_append]
  rw [r]
  have e5 : leave [1, 2] [C, fC A, fC B] [fC A, fC B, .ins false 0 [0] [.lst [valW A, valW B]]] [.cell 2] = some ([sndV [A, B]], [C, fC A, fC B]) := by
    have st : stays (([fC A, fC B, .ins false 0 [0] [.lst [valW A, valW B]]] : Hv).drop 2) 2 = [] := rfl
    have o1 : outV (nameOf [1, 2] [] 3) [fC A, fC B, .ins false 0 [0] [.lst [valW A, valW B]]] 8 (.cell 2) = some (sndV [A, B]) := by
      rw [outV]
      simp only [isData, Bool.false_eq_true, if_false, show nameOf [1, 2] [] 3 2 = none from rfl, List.getElem?_cons_succ, List.getElem?_cons_zero]
      rw [mapO_data (by have := valW_data [A, B]; simpa [allData, isData] using this)]
      rfl
    unfold leave
    simp only [List.length_cons, List.length_nil, st, mapO, o1, List.take_succ_cons, List.take_zero, outC_data (fC_data A), outC_data (fC_data B)]
    simp [putCs]
  simp only [List.set_cons_succ, List.set_cons_zero, List.map_cons, List.map_nil]
  rw [e5]
theorem sender_cells1 {m : Nat} {C : Cell} {A : List (Int × Int)} (ok : OkW [A]) : region (runF T (m + 4)) 4 (some (0, false)) [.lst [.cell 1]] [C, fC A] = .ok (sndV [A]) [C, fC A] := by
  have r := init_run (m := m) (c := 1) (vals := [.cell 0]) (h := [fC A, .ins false 0 [] []]) (g := false) (f := fun v => valW A) rfl (.inl rfl) (fun v hv => by
    simp only [List.mem_cons, List.not_mem_nil, or_false] at hv
    subst hv
    exact aw_cell rfl (ok.line A (by simp)) (ok.few A (by simp))) (fun v hv => by
    simp only [List.mem_cons, List.not_mem_nil, or_false] at hv
    subst hv
    rfl)
  have i1 : inC (fC A) = [] := inC_data (fC_data A)
  have e1 : dedup [] (cellsL [.lst [.cell 1]]) = [1] := rfl
  have e0 : ∀ k, reach [C, fC A] k [1] = [1] := fun k => by
    induction k with
    | zero => rfl
    | succ k ih =>
      rw [reach]
      simp only [List.flatMap_cons, List.flatMap_nil, List.getElem?_cons_succ, List.getElem?_cons_zero, i1, List.append_nil, dedup]
      exact ih
  unfold region
  simp only [e1, e0]
  have e3 : getCs [C, fC A] (fun n => posOf n [1] 0) [1] = some [fC A] := by
    unfold getCs
    simp [mapO, rnC_data (fC_data A)]
  have e4 : rnL (fun n => posOf n [1] 0) [.lst [.cell 1]] = some [.lst [.cell 0]] := rfl
  rw [e3, e4]
  have hnd : decide ([1] : List Nat).Nodup = true := by decide
  simp only [hnd, if_true, List.length_cons, List.length_nil, List.cons_append, List.nil_append]
  rw [r]
  have e5 : leave [1] [C, fC A] [fC A, .ins false 0 [0] [.lst [valW A]]] [.cell 1] = some ([sndV [A]], [C, fC A]) := by
    have st : stays (([fC A, .ins false 0 [0] [.lst [valW A]]] : Hv).drop 1) 1 = [] := rfl
    have o1 : outV (nameOf [1] [] 2) [fC A, .ins false 0 [0] [.lst [valW A]]] 8 (.cell 1) = some (sndV [A]) := by
      rw [outV]
      simp only [isData, Bool.false_eq_true, if_false, show nameOf [1] [] 2 1 = none from rfl, List.getElem?_cons_succ, List.getElem?_cons_zero]
      rw [mapO_data (by have := valW_data [A]; simpa [allData, isData] using this)]
      rfl
    unfold leave
    simp only [List.length_cons, List.length_nil, st, mapO, o1, List.take_succ_cons, List.take_zero, outC_data (fC_data A)]
    simp [putCs]
  simp only [List.set_cons_succ, List.set_cons_zero, List.map_cons, List.map_nil]
  rw [e5]
end LawT

set_option linter.all false
set_option Elab.async false
set_option maxRecDepth 100000
set_option maxHeartbeats 1000000
namespace LawT
open PySem PySem.Spec PyProof.Rows L2 Pv
def hdr (S : Int) : Str := Txt.join (" " : Str) [("states" : Str), numS S]
def linesOf (S : Nat) (P : List (Nat × (Int × Int))) : List Str := ("sender" : Str) :: hdr S :: P.map fun q => lineW q.1 q.2
theorem hd0 : Txt.split ("sender" : Str) (" " : Str) = [("sender" : Str)] := by kernel_rfl
theorem hd1 : Txt.split (hdr 1) (" " : Str) = [("states" : Str), numS 1] := by kernel_rfl
theorem hd2 : Txt.split (hdr 2) (" " : Str) = [("states" : Str), numS 2] := by kernel_rfl
theorem hdl : (hdr 1).length + 2 ≤ lim ∧ (hdr 2).length + 2 ≤ lim ∧ ("sender" : Str).length + 2 ≤ lim := by decide +kernel
theorem pushAll_len : ∀ (P : List (Nat × (Int × Int))) (ws : List (List (Int × Int))), (pushAll ws P).length = ws.length
  | [], ws => rfl
  | (s, p) :: r, ws => by rw [pushAll, pushAll_len r, List.length_set]
theorem shape12 {α : Type} {l : List α} {S : Nat} (hS : S = 1 ∨ S = 2) (h : l.length = S) : (S = 1 ∧ ∃ a, l = [a]) ∨ (S = 2 ∧ ∃ a b, l = [a, b]) := by
  rcases hS with rfl | rfl
  · match l, h with | [a], _ => exact .inl ⟨rfl, a, rfl⟩
  · match l, h with | [a, b], _ => exact .inr ⟨rfl, a, b, rfl⟩
theorem cells_mk {cf : CF} {C : Cell} {S : Nat} {t : Val} (hS : S = 1 ∨ S = 2) : evE cf (.lc [4] (.keep false (.lst [])) (.n 4) (.rng (.var 2)) (.con (.bl true))) [some t, some (.cell 0), some (.int S), none, none, none, none, none, none, none] [C] = .ok (.lst (cellsN S)) (C :: (List.replicate S []).map fC) := by
  have l0 : (0 : Nat) < lim := by decide
  have l1 : (1 : Nat) < lim := by decide
  have r1 : rngV 0 1 = [.int 0] := rfl
  have r2 : rngV 0 2 = [.int 0, .int 1] := rfl
  rw [evE_lc]
  rcases hS with rfl | rfl
  · have hi : evI cf (.rng (.var 2)) [some t, some (.cell 0), some (.int ((1 : Nat) : Int)), none, none, none, none, none, none, none] [C] = .ok (2, fun _ => some [.int 0]) [C] := by simp [r1]
    rw [hi]
    simp [lcL, srcAt, lcF, bindT, wipeE, Cst.val, keepR, l0]
    exact ⟨rfl, rfl⟩
  · have hi : evI cf (.rng (.var 2)) [some t, some (.cell 0), some (.int ((2 : Nat) : Int)), none, none, none, none, none, none, none] [C] = .ok (3, fun _ => some [.int 0, .int 1]) [C] := by simp [r2]
    rw [hi]
    simp [lcL, srcAt, lcF, bindT, wipeE, Cst.val, keepR, l0, l1]
    exact ⟨rfl, rfl⟩
theorem read_run {m S : Nat} {t : Str} {P : List (Nat × (Int × Int))} (hS : S = 1 ∨ S = 2) (ht : Txt.split t ("\n" : Str) = linesOf S P) (hl : t.length + 2 ≤ lim) (hP : P.length < 3000) (ok : okRest S (List.replicate S []) 0 P) (okw : OkW (pushAll (List.replicate S []) P)) :
    Gives (runF T (m + 5)) 16 [.str t] (sndV (pushAll (List.replicate S []) P)) := by
  obtain ⟨L, hL⟩ : ∃ L, linesOf S P = L := ⟨_, rfl⟩
  have ll : L.length = P.length + 2 := by rw [← hL]; simp [linesOf]
  have d0 : L[0]? = some ("sender" : Str) := by rw [← hL]; rfl
  have d1 : L[1]? = some (hdr S) := by rw [← hL]; rfl
  have dd : L.drop 2 = P.map fun q => lineW q.1 q.2 := by rw [← hL]; rfl
  rw [hL] at ht
  have n1 : ∀ h, region (runF T (m + 4)) 13 (some (1, true)) [.str t] h = .ok (.cell h.length) (h ++ [linesC false L 0]) := fun h => by
    rw [lines_new (m := m + 3) hl, ht]
  have t1 := take_call (m := m + 2) (c := 0) (h := [linesC false L 0]) (g := false) (L := L) (k := 0) (hd := "sender") (s := "sender") (ts := []) rfl d0 (by simpa using hd0) hdl.2.2 (by decide +kernel) (fun p hp => by cases hp) (by decide)
  have hsp : Txt.split (hdr S) (" " : Str) = [("states" : Str), numS S] := by
    rcases hS with rfl | rfl
    · exact hd1
    · exact hd2
  have hsl : (hdr S).length + 2 ≤ lim := by
    rcases hS with rfl | rfl
    · exact hdl.1
    · exact hdl.2.1
  have t2 := take_call (m := m + 2) (c := 0) (h := [linesC false L (0 + 1 : Nat)]) (g := false) (L := L) (k := 1) (hd := "states") (s := hdr S) (ts := [(numS S, (1, 2), (S : Int))]) rfl d1 (by simpa using hsp) hsl (by decide +kernel) (fun p hp => by
    simp only [List.mem_cons, List.not_mem_nil, or_false] at hp
    subst hp
    have : ((S : Int), (1 : Int), (2 : Int)) ∈ trip := trip_mem (by omega) (by omega) (by omega) (by omega) (by omega)
    exact ⟨this, rfl⟩) (by show (1 : Nat) ≤ lim; decide)
  simp only [List.map_nil, List.map_cons, List.set_cons_zero, pairV] at t1 t2
  obtain ⟨st', q5, q6, q7, q8, q9, lp⟩ := read_loop (m := m + 2) (S := S) (L := L) (t := .str t) hS P wturns 2 0 (List.replicate S []) none none none none none (List.length_replicate ..) (by omega) dd (by omega) (by show P.length + 1 ≤ 100000; omega) ok
  obtain ⟨ws, hws⟩ : ∃ ws, pushAll (List.replicate S []) P = ws := ⟨_, rfl⟩
  have lws : ws.length = S := by rw [← hws, pushAll_len, List.length_replicate]
  rw [hws] at lp okw ⊢
  have s1 : exS (runF T (m + 4)) (.set 1 (.new 1 13 true [(.var 0)])) [some (.str t), none, none, none, none, none, none, none, none, none] [] = .nx [some (.str t), some (.cell 0), none, none, none, none, none, none, none, none] [linesC false L 0] := by
    simp [evEs, n1]
  have hcl : ∀ k r, clsV (linesC false L k :: r) (.cell 0) = some 1 := fun _ _ => rfl
  have s2 : exS (runF T (m + 4)) (.expr (.meth 1 15 (.var 1) [(.con (.str "sender")), (.lst [])])) [some (.str t), some (.cell 0), none, none, none, none, none, none, none, none] [linesC false L 0] = .nx [some (.str t), some (.cell 0), none, none, none, none, none, none, none, none] [linesC false L (0 + 1 : Nat)] := by
    have t1 : region (runF T (m + 4)) 15 none [.cell 0, .str "sender", .lst []] [linesC false L 0] = .ok (.lst []) [linesC false L (0 + 1 : Nat)] := t1
    rw [exS_expr, evE_meth]
    simp only [evE_var, List.getElem?_cons_succ, List.getElem?_cons_zero, Res.bind_ok, hcl, if_true]
    simp only [evEs, evE_con, evE_lst, Cst.val, Res.bind_ok, List.length_nil, Nat.zero_le, if_true, t1, Res.out_ok]
  have s3 : exS (runF T (m + 4)) (.set 2 (.ix (.meth 1 15 (.var 1) [(.con (.str "states")), (.lst [(.tup [(.con (.int 1)), (.con (.int 2))])])]) (.con (.int 0)))) [some (.str t), some (.cell 0), none, none, none, none, none, none, none, none] [linesC false L (0 + 1 : Nat)] = .nx [some (.str t), some (.cell 0), some (.int S), none, none, none, none, none, none, none] [linesC false L (1 + 1 : Nat)] := by
    have l1 : (1 : Nat) ≤ lim := by decide
    have l2 : (2 : Nat) ≤ lim := by decide
    have a0 : ∀ h, atV h (.lst [.int (S : Int)]) (.int 0) = some (.int S) := fun _ => rfl
    rw [exS_set, evE_ix, evE_meth]
    simp only [evE_var, List.getElem?_cons_succ, List.getElem?_cons_zero, Res.bind_ok, hcl, if_true]
    simp only [evEs, evE_con, evE_lst, evE_tup, Cst.val, Res.bind_ok, List.length_nil, List.length_cons, Nat.zero_add, Nat.reduceAdd, l1, l2, if_true, t2, a0, ofO_some, Res.out_ok]
    rfl
  have s4 : exS (runF T (m + 4)) (.set 3 (.lc [4] (.keep false (.lst [])) (.n 4) (.rng (.var 2)) (.con (.bl true)))) [some (.str t), some (.cell 0), some (.int S), none, none, none, none, none, none, none] [linesC false L (1 + 1 : Nat)] = .nx [some (.str t), some (.cell 0), some (.int S), some (.lst (cellsN S)), none, none, none, none, none, none] (linesC false L (2 : Nat) :: (List.replicate S []).map fC) := by
    rw [exS_set, cells_mk hS]
    rfl
  have s5 : exS (runF T (m + 4)) (.set 4 (.con (.int 0))) [some (.str t), some (.cell 0), some (.int S), some (.lst (cellsN S)), none, none, none, none, none, none] (linesC false L (2 : Nat) :: (List.replicate S []).map fC) = .nx [some (.str t), some (.cell 0), some (.int S), some (.lst (cellsN S)), some (.int ((0 : Nat) : Int)), none, none, none, none, none] (linesC false L (2 : Nat) :: (List.replicate S []).map fC) := by
    rw [exS_set, evE_con]
    rfl
  have s6 : exS (runF T (m + 4)) (.while_ readCond readBody) [some (.str t), some (.cell 0), some (.int S), some (.lst (cellsN S)), some (.int ((0 : Nat) : Int)), none, none, none, none, none] (linesC false L (2 : Nat) :: (List.replicate S []).map fC) = .nx [some (.str t), some (.cell 0), some (.int S), some (.lst (cellsN S)), some st', q5, q6, q7, q8, q9] (linesC false L L.length :: ws.map fC) := by
    rw [exS_while]
    exact lp
  have s7 : exS (runF T (m + 4)) (.ret (.new 0 4 false [(.var 3)])) [some (.str t), some (.cell 0), some (.int S), some (.lst (cellsN S)), some st', q5, q6, q7, q8, q9] (linesC false L L.length :: ws.map fC) = .rt (sndV ws) (linesC false L L.length :: ws.map fC) := by
    have hn : region (runF T (m + 4)) 4 (some (0, false)) [.lst (cellsN S)] (linesC false L L.length :: ws.map fC) = .ok (sndV ws) (linesC false L L.length :: ws.map fC) := by
      rcases shape12 hS lws with ⟨rfl, A, rfl⟩ | ⟨rfl, A, B, rfl⟩
      · exact sender_cells1 okw
      · exact sender_cells2 okw
    simp [evEs, hn]
  have run : runF T (m + 5) 16 [.str t] [] = .ok (sndV ws) (linesC false L L.length :: ws.map fC) := by
    rw [runF_at (fn := ⟨1, 10, f16⟩) rfl rfl]
    have hrep : List.replicate (10 - 1) (none : Option Val) = [none, none, none, none, none, none, none, none, none] := rfl
    unfold readCond readBody at s6
    simp only [f16, hrep, List.map_cons, List.map_nil, List.cons_append, List.nil_append, exSs_cons, s1, s2, s3, s4, s5, s6, s7]
    rfl
  refine gives_data rfl run ?_ ?_
  · refine stays_noexp _ 0 fun c hc => ?_
    rcases List.mem_cons.mp hc with rfl | hc
    · rfl
    · obtain ⟨A, _, rfl⟩ := List.mem_map.mp hc
      rfl
  · simp only [sndV, isData, allData, valW_data]
    rfl
end LawT

set_option linter.all false
set_option Elab.async false
set_option maxRecDepth 100000
set_option maxHeartbeats 1000000
namespace LawT
open PySem PySem.Spec PyProof.Rows L2 Pv
theorem allW_mem {s : Nat} {p : Int × Int} (h1 : s ≤ 1) (h2 : 0 ≤ p.1) (h3 : p.1 ≤ 2) (h4 : 0 ≤ p.2) (h5 : p.2 ≤ 1) : ((s : Int), p) ∈ allW := by
  obtain ⟨a, b⟩ := p
  simp only at h2 h3 h4 h5
  have x : s = 0 ∨ s = 1 := by omega
  have y : a = 0 ∨ a = 1 ∨ a = 2 := by omega
  have z : b = 0 ∨ b = 1 := by omega
  rcases x with rfl | rfl <;> rcases y with rfl | rfl | rfl <;> rcases z with rfl | rfl <;> decide
def okL (S : Nat) (l : List (Int × Int)) : Prop := ∀ (i : Nat) (p : Int × Int), l[i]? = some p → okIx p.1 3 = true ∧ okIx p.2 S = true ∧ leP p (lastOf l i) = false
theorem okIx_iff {x m : Int} : okIx x m = true ↔ 0 ≤ x ∧ x < m := by simp [okIx]
theorem run_line {S s : Nat} (hS : S = 1 ∨ S = 2) (hs : s < S) {Q : List (Nat × (Int × Int))} : ∀ (l2 l1 : List (Int × Int)) (ws : List (List (Int × Int))), ws.length = S → ws[s]? = some l1 → okL S (l1 ++ l2) → (l1 ++ l2).length < lim → okRest S (ws.set s (l1 ++ l2)) s Q → okRest S ws s (l2.map (fun p => (s, p)) ++ Q)
  | [], l1, ws, hw, h1, ok, hl, h => by
    rw [List.append_nil, set_self h1] at h
    exact h
  | p :: l2, l1, ws, hw, h1, ok, hl, h => by
    have hp := ok l1.length p (by simp)
    obtain ⟨a1, a2, a3⟩ := hp
    rw [okIx_iff] at a1 a2
    rw [List.map_cons, List.cons_append]
    refine ⟨allW_mem (by omega) a1.1 (by omega) a2.1 (by omega), a2.2, Nat.le_refl _, l1, l1, h1, h1, ?_, fun q hq => ?_, by simp at hl; omega, ?_⟩
    · unfold highOf
      split <;> omega
    · have hlen := (List.getElem?_eq_some_iff.mp hq).1
      obtain ⟨j, hj⟩ : ∃ j, l1.length = j + 1 := ⟨l1.length - 1, by omega⟩
      have : lastOf (l1 ++ p :: l2) l1.length = q := by
        rw [hj]
        show (l1 ++ p :: l2).getD j (-1, -1) = q
        rw [List.getD_eq_getElem?_getD, List.getElem?_append_left (by omega)]
        rw [hj] at hq
        simp at hq
        rw [hq]
        rfl
      rw [this] at a3
      exact a3
    · have e : l1 ++ p :: l2 = (l1 ++ [p]) ++ l2 := by simp
      refine run_line hS hs l2 (l1 ++ [p]) (ws.set s (l1 ++ [p])) (by rw [List.length_set]; exact hw) (List.getElem?_set_self (by omega)) (by rw [← e]; exact ok) (by rw [← e]; exact hl) ?_
      rw [List.set_set, ← e]
      exact h
theorem push_line {s : Nat} {Q : List (Nat × (Int × Int))} : ∀ (l2 l1 : List (Int × Int)) (ws : List (List (Int × Int))), ws[s]? = some l1 → pushAll ws (l2.map (fun p => (s, p)) ++ Q) = pushAll (ws.set s (l1 ++ l2)) Q
  | [], l1, ws, h1 => by rw [List.append_nil, set_self h1]; rfl
  | p :: l2, l1, ws, h1 => by
    have e : l1 ++ p :: l2 = (l1 ++ [p]) ++ l2 := by simp
    have hl := (List.getElem?_eq_some_iff.mp h1).1
    rw [List.map_cons, List.cons_append, pushAll, show ws.getD s [] = l1 by rw [List.getD_eq_getElem?_getD, h1]; rfl, push_line l2 (l1 ++ [p]) _ (List.getElem?_set_self hl), List.set_set, ← e]
/-- the lines' parts -/
def partsOf : List (List (Int × Int)) → Nat → List (Nat × (Int × Int))
  | [], _ => []
  | l :: ws, s => l.map (fun p => (s, p)) ++ partsOf ws (s + 1)
theorem parts_ok {ws : List (List (Int × Int))} (ok : OkW ws) : okRest ws.length (List.replicate ws.length []) 0 (partsOf ws 0) ∧ pushAll (List.replicate ws.length []) (partsOf ws 0) = ws ∧ (partsOf ws 0).length < 3000 := by
  have few := ok.few
  have line := ok.line
  rcases shape12 ok.len rfl with ⟨_, A, rfl⟩ | ⟨_, A, B, rfl⟩
  · obtain ⟨nA, oA⟩ := line A (by simp)
    have fA := few A (by simp)
    have lA : A.length < lim := by rw [show lim = 1000000 from rfl]; omega
    have pA : 0 < A.length := List.length_pos_iff.mpr nA
    refine ⟨?_, ?_, ?_⟩
    · exact run_line (S := 1) (s := 0) (.inl rfl) (by omega) A [] [[]] rfl rfl oA lA ⟨A, rfl, pA⟩
    · exact push_line A [] [[]] rfl
    · simp [partsOf]; omega
  · obtain ⟨nA, oA⟩ := line A (by simp)
    obtain ⟨nB, oB⟩ := line B (by simp)
    have fA := few A (by simp)
    have fB := few B (by simp)
    have lA : A.length < lim := by rw [show lim = 1000000 from rfl]; omega
    have lB : B.length < lim := by rw [show lim = 1000000 from rfl]; omega
    have pA : 0 < A.length := List.length_pos_iff.mpr nA
    have pB : 0 < B.length := List.length_pos_iff.mpr nB
    refine ⟨?_, ?_, ?_⟩
    · refine run_line (S := 2) (s := 0) (.inr rfl) (by omega) A [] [[], []] rfl rfl oA lA ?_
      -- the first of the second line
      cases B with
      | nil => exact absurd rfl nB
      | cons p B =>
        obtain ⟨a1, a2, a3⟩ := oB 0 p rfl
        rw [okIx_iff] at a1 a2
        show okRest 2 [A, []] 0 ((1, p) :: (B.map (fun p => (1, p)) ++ []))
        have a2' : p.2 < ((2 : Nat) : Int) := a2.2
        refine ⟨allW_mem (by omega) a1.1 (by omega) a2.1 (by omega), a2', by omega, A, [], rfl, rfl, ?_, fun q hq => by simp at hq, by decide, ?_⟩
        · unfold highOf
          simp only [if_pos (show A.length > 0 from pA)]
          decide
        · exact run_line (S := 2) (s := 1) (.inr rfl) (by omega) B [p] [A, [p]] rfl rfl oB lB ⟨_, rfl, by simp⟩
    · show pushAll [[], []] (A.map (fun p => (0, p)) ++ (B.map (fun p => (1, p)) ++ [])) = [A, B]
      rw [push_line A [] [[], []] rfl]
      exact push_line B [] [A, []] rfl
    · simp [partsOf]; omega
def textOf (ws : List (List (Int × Int))) : Str := Txt.join ("\n" : Str) (linesOf ws.length (partsOf ws 0))
end LawT

set_option linter.all false
set_option Elab.async false
set_option maxRecDepth 100000
set_option maxHeartbeats 1000000
namespace LawT
open PySem PySem.Spec PyProof.Rows L2 Pv
theorem parts_in : ∀ (ws : List (List (Int × Int))) (n : Nat) (S : Int), S ≤ 2 → n + ws.length ≤ 2 → (∀ l ∈ ws, okLine S l) → ∀ q ∈ partsOf ws n, ((q.1 : Int), q.2) ∈ allW
  | [], n, S, h0, h1, h2, q, hq => by cases hq
  | l :: ws, n, S, h0, h1, h2, q, hq => by
    rw [partsOf] at hq
    rcases List.mem_append.mp hq with hq | hq
    · obtain ⟨p, hp, rfl⟩ := List.mem_map.mp hq
      obtain ⟨i, hi⟩ := List.mem_iff_getElem?.mp hp
      obtain ⟨a1, a2, _⟩ := (h2 l (by simp)).2 i p hi
      rw [okIx_iff] at a1 a2
      simp at h1
      exact allW_mem (s := n) (p := p) (by omega) a1.1 (by omega) a2.1 (by omega)
    · exact parts_in ws (n + 1) S h0 (by simp at h1; omega) (fun l hl => h2 l (List.mem_cons_of_mem _ hl)) q hq
theorem okW_two {ws : List (List (Int × Int))} (ok : OkW ws) : (ws.length : Int) ≤ 2 ∧ ws.length ≤ 2 := by
  rcases ok.len with h | h <;> rw [h] <;> decide
theorem lines_ok {ws : List (List (Int × Int))} (ok : OkW ws) : ∀ x ∈ linesOf ws.length (partsOf ws 0), 10 ∉ x.cps.toList ∧ x.length ≤ 9 ∧ PyData.strOk x = true := fun x hx => by
  unfold linesOf at hx
  have hh : ∀ S : Nat, S = 1 ∨ S = 2 → 10 ∉ (hdr S).cps.toList ∧ (hdr S).length ≤ 9 ∧ PyData.strOk (hdr S) = true := fun S hS => by
    rcases hS with rfl | rfl <;> decide +kernel
  rcases List.mem_cons.mp hx with rfl | hx
  · decide +kernel
  · rcases List.mem_cons.mp hx with rfl | hx
    · exact hh _ ok.len
    · obtain ⟨q, hq, rfl⟩ := List.mem_map.mp hx
      have := lineW_ok (parts_in ws 0 ws.length (okW_two ok).1 (by have := (okW_two ok).2; omega) ok.line q hq)
      exact ⟨this.2.2.2, this.2.1, this.2.2.1⟩
theorem text_split {ws : List (List (Int × Int))} (ok : OkW ws) : Txt.split (textOf ws) ("\n" : Str) = linesOf ws.length (partsOf ws 0) := by
  refine TL.split_join (s := 10) (S := []) (by decide +kernel) (by decide +kernel) (by simp [linesOf]) fun p hp => (lines_ok ok p hp).1
theorem sum_le {l : List Str} {n : Nat} (h : ∀ x ∈ l, x.length ≤ n) : (l.map (·.length)).sum ≤ l.length * n := by
  induction l with
  | nil => simp
  | cons a l ih =>
    have := ih fun x hx => h x (List.mem_cons_of_mem _ hx)
    have h0 := h a (List.mem_cons_self ..)
    rw [List.map_cons, List.sum_cons, List.length_cons, Nat.add_mul]
    omega
theorem lines_sum {ws : List (List (Int × Int))} (ok : OkW ws) : ((linesOf ws.length (partsOf ws 0)).map (·.length)).sum + (linesOf ws.length (partsOf ws 0)).length * ("\n" : Str).length ≤ 40000 := by
  have a := sum_le fun x hx => (lines_ok ok x hx).2.1
  have b : (linesOf ws.length (partsOf ws 0)).length < 3002 := by
    have := (parts_ok ok).2.2
    simp [linesOf]
    omega
  have c : ("\n" : Str).length = 1 := by decide +kernel
  rw [c]
  omega
theorem text_len {ws : List (List (Int × Int))} (ok : OkW ws) : (textOf ws).length ≤ 40000 := by
  unfold textOf
  rw [TL.join_eq]
  exact Nat.le_trans (StrLaws.join_length_le _ _) (lines_sum ok)
theorem read_text {m : Nat} {ws : List (List (Int × Int))} (ok : OkW ws) : Gives (runF T (m + 5)) 16 [.str (textOf ws)] (sndV ws) := by
  obtain ⟨p1, p2, p3⟩ := parts_ok ok
  have := read_run (m := m) (S := ws.length) (t := textOf ws) (P := partsOf ws 0) ok.len (text_split ok) (by have := text_len ok; rw [show lim = 1000000 from rfl]; omega) p3 p1 (by rw [p2]; exact ok)
  rw [p2] at this
  exact this
end LawT

set_option linter.all false
set_option Elab.async false
set_option maxRecDepth 100000
set_option maxHeartbeats 1000000
namespace LawT
open PySem PySem.Spec PyProof.Rows L2 Pv
def chkLW (m : Nat) (q : Int × (Int × Int)) : Bool := match runF T (m + 1) 10 [.lst [.str "way", .int q.1, .int q.2.1, .int q.2.2]] [] with
  | .ok (.str r) [] => decide (r = lineW q.1 q.2)
  | _ => false
theorem lw_all (m : Nat) : (allW.all (chkLW m)) = true := by kernel_rfl
theorem lw_ok {m : Nat} {q : Int × (Int × Int)} (h : q ∈ allW) : Gives (runF T (m + 1)) 10 [.lst [.str "way", .int q.1, .int q.2.1, .int q.2.2]] (.str (lineW q.1 q.2)) := by
  have a := lw_all m
  rw [List.all_eq_true] at a
  have b := a _ h
  unfold chkLW at b
  split at b
  · rename_i r e
    have := of_decide_eq_true b
    subst this
    exact gives_data rfl e rfl rfl
  · cases b
def chkH (m : Nat) (S : Int) : Bool := match runF T (m + 1) 10 [.lst [.str "states", .int S]] [] with
  | .ok (.str r) [] => decide (r = hdr S)
  | _ => false
theorem h_all (m : Nat) : (([1, 2] : List Int).all (chkH m)) = true := by kernel_rfl
theorem h_ok {m : Nat} {S : Nat} (hS : S = 1 ∨ S = 2) : Gives (runF T (m + 1)) 10 [.lst [.str "states", .int S]] (.str (hdr S)) := by
  have a := h_all m
  rw [List.all_eq_true] at a
  have b := a (S : Int) (by rcases hS with rfl | rfl <;> decide)
  unfold chkH at b
  split at b
  · rename_i r e
    have := of_decide_eq_true b
    subst this
    exact gives_data rfl e rfl rfl
  · cases b
theorem snd_data {ws : List (List (Int × Int))} : isData (sndV ws) = true := by
  simp only [sndV, isData, allData, valW_data]
  rfl
theorem snd_fld {h : Hv} {ws : List (List (Int × Int))} : fldV h (sndV ws) 0 = some (.lst (ws.map valW)) := rfl
theorem snd_cls {h : Hv} {ws : List (List (Int × Int))} : clsV h (sndV ws) = some 0 := rfl
theorem count_ok {m : Nat} {ws : List (List (Int × Int))} : Gives (runF T (m + 1)) 5 [sndV ws] (.int ws.length) := by
  refine gives_data (h' := []) (by simp only [allData, snd_data]; rfl) ?_ rfl rfl
  rw [runF_at (fn := ⟨1, 1, f5⟩) rfl rfl]
  simp [f5, evEs, snd_fld, bltV, lenV]
theorem ways_ok {m i : Nat} {ws : List (List (Int × Int))} {l : List (Int × Int)} (hi : ws[i]? = some l) : Gives (runF T (m + 3)) 6 [sndV ws, .int i] (valW l) := by
  refine gives_data (h' := []) (by simp only [allData, snd_data, isData]; rfl) ?_ rfl (by simp only [valW, isData, pairs_data])
  have hl := (List.getElem?_eq_some_iff.mp hi).1
  have g := @g1 m i ws.length []
  have hx : okIx (i : Int) (ws.length : Int) = true := okIx_iff.mpr ⟨by omega, by omega⟩
  rw [hx] at g
  have ha : ∀ h, atV h (.lst (ws.map valW)) (.int (i : Int)) = some (valW l) := fun h => by
    simp only [atV, seqs_lst]
    exact atI_nat (by rw [List.getElem?_map, hi]; rfl)
  rw [runF_at (fn := ⟨2, 2, f6⟩) rfl rfl]
  simp [f6, evEs, snd_fld, bltV, lenV, g, ha]
  rfl
def stBody : List S := [(.expr (.bm .append (.var 1) [(.call 10 [(.lst [(.con (.str "way")), (.var 2), (.var 3), (.var 4)])])]))]
theorem st_inner {m s : Nat} {v : Val} : ∀ (l : List (Int × Int)) (acc : List Val) (o3 o4 : Option Val), (∀ p ∈ l, ((s : Int), p) ∈ allW) → acc.length + l.length ≤ lim →
    ∃ q3 q4, forS (fun x e h => bindT h (.t [(.n 3), (.n 4)]) x e) (fun e h => exSs (runF T (m + 1)) stBody e h) (l.map pairV) [some v, some (.cell 0), some (.int s), o3, o4] [.lst false acc] = .nx [some v, some (.cell 0), some (.int s), q3, q4] [.lst false (acc ++ l.map fun p => .str (lineW s p))]
  | [], acc, o3, o4, h, hl => ⟨o3, o4, by simp [forS]⟩
  | p :: l, acc, o3, o4, h, hl => by
    have hacc : acc.length < lim := by simp at hl; omega
    have q := lw_ok (m := m) (h p (by simp)) [.lst false acc]
    obtain ⟨q3, q4, ih⟩ := st_inner (m := m) (s := s) (v := v) l (acc ++ [.str (lineW s p)]) (some (.int p.1)) (some (.int p.2)) (fun r hr => h r (List.mem_cons_of_mem _ hr)) (by simp at hl ⊢; omega)
    refine ⟨q3, q4, ?_⟩
    have hb : bindT [.lst false acc] (.t [(.n 3), (.n 4)]) (pairV p) [some v, some (.cell 0), some (.int s), o3, o4] = some [some v, some (.cell 0), some (.int s), some (.int p.1), some (.int p.2)] := rfl
    have hbody : exSs (runF T (m + 1)) stBody [some v, some (.cell 0), some (.int s), some (.int p.1), some (.int p.2)] [.lst false acc] = .nx [some v, some (.cell 0), some (.int s), some (.int p.1), some (.int p.2)] [.lst false (acc ++ [.str (lineW s p)])] := by
      have l4 : (4 : Nat) ≤ lim := by decide
      simp [stBody, evEs, Cst.val, bmTy, bmV, bmL, q, hacc, l4]
    rw [List.map_cons, forS, hb]
    dsimp only
    rw [hbody]
    dsimp only
    rw [ih]
    simp
end LawT

set_option linter.all false
set_option Elab.async false
set_option maxRecDepth 100000
set_option maxHeartbeats 1000000
namespace LawT
open PySem PySem.Spec PyProof.Rows L2 Pv
def stFor : S := (.for_ (.t [(.n 3), (.n 4)]) (.seq (.meth 0 6 (.var 0) [(.var 2)])) stBody)
theorem st_turn {m i : Nat} {ws : List (List (Int × Int))} {l : List (Int × Int)} {acc : List Val} {o3 o4 : Option Val} (hi : ws[i]? = some l) (h : ∀ p ∈ l, ((i : Int), p) ∈ allW) (hl : acc.length + l.length ≤ lim) :
    ∃ q3 q4, exSs (runF T (m + 3)) [stFor] [some (sndV ws), some (.cell 0), some (.int i), o3, o4] [.lst false acc] = .nx [some (sndV ws), some (.cell 0), some (.int i), q3, q4] [.lst false (acc ++ l.map fun p => .str (lineW i p))] := by
  obtain ⟨q3, q4, ih⟩ := st_inner (m := m + 2) (s := i) (v := sndV ws) l acc o3 o4 h hl
  refine ⟨q3, q4, ?_⟩
  have hw := ways_ok (m := m) hi [.lst false acc]
  have hf : exS (runF T (m + 3)) stFor [some (sndV ws), some (.cell 0), some (.int i), o3, o4] [.lst false acc] = .nx [some (sndV ws), some (.cell 0), some (.int i), q3, q4] [.lst false (acc ++ l.map fun p => .str (lineW i p))] := by
    unfold stFor
    rw [for_fix (xs := l.map pairV) (k := (l.map pairV).length + 1) (h1 := [.lst false acc]) ?_ (Nat.le_refl _)]
    · exact ih
    · simp [evEs, snd_cls, hw, valW]
  rw [exSs_cons, hf]
  simp
theorem strs_of : ∀ l : List Str, strsOf (l.map .str) = some l
  | [] => rfl
  | a :: l => by simp only [List.map_cons, strsOf, strs_of l]
theorem st_outer {m : Nat} {ws : List (List (Int × Int))} (ok : OkW ws) {acc : List Val} (hl : acc.length + 2000 ≤ lim) :
    ∃ q2 q3 q4, forS (fun x e h => bindT h (.n 2) x e) (fun e h => exSs (runF T (m + 3)) [stFor] e h) (rngV 0 ws.length) [some (sndV ws), some (.cell 0), none, none, none] [.lst false acc] = .nx [some (sndV ws), some (.cell 0), q2, q3, q4] [.lst false (acc ++ (partsOf ws 0).map fun q => .str (lineW q.1 q.2))] := by
  have hin := parts_in ws 0 ws.length (okW_two ok).1 (by have := (okW_two ok).2; omega) ok.line
  have few := ok.few
  rcases shape12 ok.len rfl with ⟨_, A, rfl⟩ | ⟨_, A, B, rfl⟩
  · have fA := few A (by simp)
    obtain ⟨q3, q4, t1⟩ := st_turn (m := m) (i := 0) (ws := [A]) (l := A) (acc := acc) (o3 := none) (o4 := none) rfl (fun p hp => hin (0, p) (by simp [partsOf, hp])) (by omega)
    refine ⟨some (.int ((0 : Nat) : Int)), q3, q4, ?_⟩
    have r1 : rngV 0 [A].length = [.int ((0 : Nat) : Int)] := rfl
    rw [r1, forS]
    simp only [bindT]
    simp only [List.set_cons_succ, List.set_cons_zero]
    rw [t1]
    simp [forS, partsOf]
  · have fA := few A (by simp)
    have fB := few B (by simp)
    obtain ⟨q3, q4, t1⟩ := st_turn (m := m) (i := 0) (ws := [A, B]) (l := A) (acc := acc) (o3 := none) (o4 := none) rfl (fun p hp => hin (0, p) (by simp [partsOf, hp])) (by omega)
    obtain ⟨r3, r4, t2⟩ := st_turn (m := m) (i := 1) (ws := [A, B]) (l := B) (acc := acc ++ A.map fun p => .str (lineW (0 : Nat) p)) (o3 := q3) (o4 := q4) rfl (fun p hp => hin (1, p) (by simp [partsOf, hp])) (by simp; omega)
    refine ⟨some (.int ((1 : Nat) : Int)), r3, r4, ?_⟩
    have r1 : rngV 0 [A, B].length = [.int ((0 : Nat) : Int), .int ((1 : Nat) : Int)] := rfl
    rw [r1, forS]
    simp only [bindT]
    simp only [List.set_cons_succ, List.set_cons_zero]
    rw [t1]
    dsimp only
    rw [forS]
    simp only [bindT]
    simp only [List.set_cons_succ, List.set_cons_zero]
    rw [t2]
    simp [forS, partsOf]
    rfl
theorem text_ok {m : Nat} {ws : List (List (Int × Int))} (ok : OkW ws) : Gives (runF T (m + 4)) 11 [sndV ws] (.str (textOf ws)) := by
  obtain ⟨q2, q3, q4, lp⟩ := st_outer (m := m) ok (acc := [.str "sender", .str (hdr ws.length)]) (by show (2 : Nat) + 2000 ≤ lim; decide)
  have hc : ∀ h, region (runF T (m + 3)) 5 none [sndV ws] h = .ok (.int ws.length) h := fun h => count_ok (m := m + 2) h
  have hh : ∀ h, region (runF T (m + 3)) 10 none [.lst [.str "states", .int ws.length]] h = .ok (.str (hdr ws.length)) h := fun h => h_ok (m := m + 2) ok.len h
  have l2 : (2 : Nat) ≤ lim := by decide
  have hw := (okW_two ok).2
  have s1 : exS (runF T (m + 3)) (.set 1 (.keep false (.lst [(.con (.str "sender")), (.call 10 [(.lst [(.con (.str "states")), (.meth 0 5 (.var 0) [])])])]))) [some (sndV ws), none, none, none, none] [] = .nx [some (sndV ws), some (.cell 0), none, none, none] [.lst false [.str "sender", .str (hdr ws.length)]] := by
    simp [evEs, Cst.val, snd_cls, hc, hh, l2, keepR]
  have s2 : exS (runF T (m + 3)) (.for_ (.n 2) (.rng (.meth 0 5 (.var 0) [])) [stFor]) [some (sndV ws), some (.cell 0), none, none, none] [.lst false [.str "sender", .str (hdr ws.length)]] = .nx [some (sndV ws), some (.cell 0), q2, q3, q4] [.lst false ([.str "sender", .str (hdr ws.length)] ++ (partsOf ws 0).map fun q => .str (lineW q.1 q.2))] := by
    rw [for_fix (xs := rngV 0 ws.length) (k := ws.length + 1) (h1 := [.lst false [.str "sender", .str (hdr ws.length)]]) ?_ (by rw [rng_len]; omega)]
    · exact lp
    · have a : (-1000000 : Int) ≤ ws.length := by omega
      have b : (ws.length : Int) ≤ 1000000 := by omega
      simp [evEs, snd_cls, hc, a, b]
  have hs : ([.str "sender", .str (hdr ws.length)] ++ (partsOf ws 0).map fun q => Val.str (lineW q.1 q.2)) = (linesOf ws.length (partsOf ws 0)).map .str := by
    simp [linesOf]
  rw [hs] at s2
  have hj : bmV .join (.str "\n") [.cell 0] [.lst false ((linesOf ws.length (partsOf ws 0)).map .str)] = .ok (.str (textOf ws)) [.lst false ((linesOf ws.length (partsOf ws 0)).map .str)] := by
    have := lines_sum ok
    have hle : ((linesOf ws.length (partsOf ws 0)).map (·.length)).sum + (linesOf ws.length (partsOf ws 0)).length * ("\n" : Str).length ≤ lim := by
      rw [show lim = 1000000 from rfl]
      omega
    unfold bmV
    dsimp only
    rw [seqs_cell (n := 0) (g := false) rfl]
    dsimp only
    rw [strs_of]
    dsimp only
    rw [if_pos hle]
    rfl
  have s3 : exS (runF T (m + 3)) (.ret (.bm .join (.con (.str "\n")) [(.var 1)])) [some (sndV ws), some (.cell 0), q2, q3, q4] [.lst false ((linesOf ws.length (partsOf ws 0)).map .str)] = .rt (.str (textOf ws)) [.lst false ((linesOf ws.length (partsOf ws 0)).map .str)] := by
    simp only [exS_ret, evE_bm, evE_con, Cst.val, Res.bind_ok, bmTy, if_true, evEs, evE_var, List.getElem?_cons_succ, List.getElem?_cons_zero, hj, Res.out_ok]
  refine gives_data (h' := [.lst false ((linesOf ws.length (partsOf ws 0)).map .str)]) (by simp only [allData, snd_data]; rfl) ?_ rfl rfl
  rw [runF_at (fn := ⟨1, 5, f11⟩) rfl rfl]
  have hrep : List.replicate (5 - 1) (none : Option Val) = [none, none, none, none] := rfl
  unfold stFor stBody at s2
  simp only [f11, hrep, List.map_cons, List.map_nil, List.cons_append, List.nil_append, exSs_cons, s1, s2, s3]
  rfl
end LawT

set_option linter.all false
set_option Elab.async false
set_option maxRecDepth 100000
set_option maxHeartbeats 1000000
namespace LawT
open PySem PySem.Spec PyProof.Rows L2 Pv
def poolC (g : Bool) (a b c d : Int) : Cell := .lst g [.int a, .int b, .int c, .int d]
theorem mulOk_r {i j : Int} (h0 : 0 ≤ j) (h1 : j < 18446744073709551616) : mulOk i j = true := by
  unfold mulOk
  have : j.natAbs < 2 ^ 64 := by omega
  simp [this]
theorem mulOk_l {i j : Int} (h0 : 0 ≤ i) (h1 : i < 18446744073709551616) : mulOk i j = true := by
  unfold mulOk
  have : i.natAbs < 2 ^ 64 := by omega
  simp [this]
theorem pool_at {g : Bool} {a b c d : Int} {r : Hv} : atV (poolC g a b c d :: r) (.cell 0) (.int 0) = some (.int a) ∧ atV (poolC g a b c d :: r) (.cell 0) (.int 1) = some (.int b) ∧ atV (poolC g a b c d :: r) (.cell 0) (.int 2) = some (.int c) ∧ atV (poolC g a b c d :: r) (.cell 0) (.int 3) = some (.int d) := ⟨rfl, rfl, rfl, rfl⟩
theorem pool_set {g : Bool} {a b c d x : Int} {r : Hv} : setV (poolC g a b c d :: r) (.cell 0) (.int 0) (.int x) = some (poolC g x b c d :: r) ∧ setV (poolC g a b c d :: r) (.cell 0) (.int 1) (.int x) = some (poolC g a x c d :: r) := ⟨rfl, rfl⟩
theorem draw_run {m : Nat} {g : Bool} {a b c d n : Int} (h0 : 0 < n) (h1 : n < 1000) : ∃ r a' b', 0 ≤ r ∧ r < n ∧ runF T (m + 1) 18 [.cell 0, .int n] [poolC g a b c d] = .ok (.int r) [poolC g a' b' c d] := by
  have ht : n < 1073741824 := by omega
  by_cases hd : d = 1
  · refine ⟨a % n, a / n, b, Int.emod_nonneg _ (by omega), Int.emod_lt_of_pos _ h0, ?_⟩
    rw [runF_at (fn := ⟨2, 4, f18⟩) rfl rfl]
    have hrep : List.replicate (4 - 2) (none : Option Val) = [none, none] := rfl
    have e4 : ∀ h, cmpV h .eq (.int 1) (.int 1) = some true := fun h => rfl
    subst hd
    simp [f18, evEs, Cst.val, pool_at, pool_set, e4, bltV, binV, h0, ht]
  · obtain ⟨x, hx⟩ : ∃ x, (c + 7919 * (b + 1) + 1) * 48271 % 2147483647 = x := ⟨_, rfl⟩
    have x0 : 0 ≤ x ∧ x < 2147483647 := by omega
    obtain ⟨y, hy⟩ : ∃ y, x * (x / 1009 + 69621) % 2147483647 = y := ⟨_, rfl⟩
    have y0 : 0 ≤ y ∧ y < 2147483647 := by
      rw [← hy]
      exact ⟨Int.emod_nonneg _ (by decide), Int.emod_lt_of_pos _ (by decide)⟩
    obtain ⟨z, hz⟩ : ∃ z, y * (y / 2003 + 40692) % 2147483399 = z := ⟨_, rfl⟩
    have z0 : 0 ≤ z := by
      rw [← hz]
      exact Int.emod_nonneg _ (by decide)
    refine ⟨z / 16 % n, a, b + 1, Int.emod_nonneg _ (by omega), Int.emod_lt_of_pos _ h0, ?_⟩
    rw [runF_at (fn := ⟨2, 4, f18⟩) rfl rfl]
    have hrep : List.replicate (4 - 2) (none : Option Val) = [none, none] := rfl
    have e4 : ∀ h, cmpV h .eq (.int d) (.int 1) = some false := fun h => by rw [show cmpV h .eq (.int d) (.int 1) = some (decide (d = 1)) from eqD_int (h := h), decide_eq_false hd]
    have m1 : mulOk 7919 (b + 1) = true := mulOk_l (by decide) (by decide)
    have m2 : mulOk (c + 7919 * (b + 1) + 1) 48271 = true := mulOk_r (by decide) (by decide)
    have m3 : ∀ j, mulOk x j = true := fun j => mulOk_l x0.1 (by omega)
    have m4 : ∀ j, mulOk y j = true := fun j => mulOk_l y0.1 (by omega)
    simp [f18, evEs, Cst.val, pool_at, pool_set, e4, bltV, binV, h0, m1, m2, hx, m3, hy, m4, hz]
/-- a draw from the caller's pool -/
theorem draw_call {m k : Nat} {h : Hv} {g : Bool} {a b c d n : Int} (hk : h[k]? = some (poolC g a b c d)) (h0 : 0 < n) (h1 : n < 1000) : ∃ r a' b', 0 ≤ r ∧ r < n ∧ region (runF T (m + 1)) 18 none [.cell k, .int n] h = .ok (.int r) (h.set k (poolC g a' b' c d)) := by
  obtain ⟨r, a', b', r0, r1, e⟩ := draw_run (m := m) (g := g) (a := a) (b := b) (c := c) (d := d) h0 h1
  exact ⟨r, a', b', r0, r1, region_cell_data (ds := [.int n]) (ls := []) rfl hk rfl e rfl rfl rfl⟩
end LawT

set_option linter.all false
set_option Elab.async false
set_option maxRecDepth 100000
set_option maxHeartbeats 1000000
namespace LawT
open PySem PySem.Spec PyProof.Rows L2 Pv
/-- a new list that stays a cell -/
theorem region_keep {cf : CF} {f : Nat} {ds : List Val} {h : Hv} {xs : List Val} (hd : allData ds = true) (e : cf f ds [] = .ok (.cell 0) [.lst true xs]) (dv : allData xs = true) : region cf f none ds h = .ok (.cell h.length) (h ++ [.lst false xs]) := by
  rw [region_data hd, e]
  have e5 : leave [] h [.lst true xs] [.cell 0] = some ([.cell h.length], h ++ [.lst false xs]) := by
    have st : stays (([.lst true xs] : Hv).drop 0) 0 = [0] := rfl
    have s0 : nameOf [] [0] h.length 0 = some h.length := by simp [nameOf, posOf]
    have o1 : outV (nameOf [] [0] h.length) [.lst true xs] 8 (.cell 0) = some (.cell h.length) := outV_cell s0
    have o2 : outC false (nameOf [] [0] h.length) [.lst true xs] (.lst true xs) = some (.lst false xs) := by
      simp only [outC, mapO_data dv]
      rfl
    unfold leave
    simp only [List.length_nil, st, mapO, o1, List.getElem?_cons_zero, Option.bind_some, o2, List.take_zero]
    rfl
  dsimp only
  rw [e5]
theorem pool_run {m k : Nat} {ns : List Int} : ∃ a b c d, runF T (m + 1) 17 [.frz (ns.map Val.int), .int k] [] = .ok (.cell 0) [poolC true a b c d] := by
  obtain ⟨cell, hcell⟩ : ∃ cell, cell = ns.getD k 0 := ⟨_, rfl⟩
  have hrep : List.replicate (3 - 2) (none : Option Val) = [none] := rfl
  have hlen : ∀ h, bltV h .len [.frz (ns.map Val.int)] = some (.int ns.length) := fun h => by simp [bltV, lenV]
  have hp : ∀ h, binV h .pow (.int 10) (.int 18) = some (.int 1000000000000000000) := fun h => rfl
  have hlt : ∀ (h : Hv) (a b : Int), cmpV h .lt (.int a) (.int b) = some (decide (a < b)) := fun _ _ _ => rfl
  have hge : ∀ (h : Hv) (a b : Int), cmpV h .ge (.int a) (.int b) = some (decide (b ≤ a)) := fun _ _ _ => rfl
  have s1 : exS (runF T m) (.set 2 (.con (.int 0))) [some (.frz (ns.map Val.int)), some (.int k), none] [] = .nx [some (.frz (ns.map Val.int)), some (.int k), some (.int 0)] [] := by
    simp [Cst.val]
  have s2 : exS (runF T m) (.ifs (.cmp .lt (.var 1) (.blt .len [(.var 0)])) [(.set 2 (.ix (.var 0) (.var 1)))] []) [some (.frz (ns.map Val.int)), some (.int k), some (.int 0)] [] = .nx [some (.frz (ns.map Val.int)), some (.int k), some (.int cell)] [] := by
    by_cases hk : k < ns.length
    · have ha : atV [] (.frz (ns.map Val.int)) (.int (k : Int)) = some (.int cell) := by
        simp only [atV, seqs_frz]
        refine atI_nat ?_
        rw [List.getElem?_map, hcell, List.getD_eq_getElem?_getD, List.getElem?_eq_getElem hk]
        rfl
      have h2 : (k : Int) < ns.length := by omega
      simp [evEs, hlen, hlt, h2, ha]
    · have h2 : ¬ ((k : Int) < ns.length) := by omega
      have h3 : cell = 0 := by
        rw [hcell, List.getD_eq_getElem?_getD, List.getElem?_eq_none (by omega)]
        rfl
      simp [evEs, hlen, hlt, h2, h3]
  have m1 : mulOk 104729 (k : Int) = true := mulOk_l (by decide) (by decide)
  have l4 : (4 : Nat) ≤ lim := by decide
  by_cases hc : (1000000000000000000 : Int) ≤ cell
  · refine ⟨cell - 1000000000000000000, 0, 0, 1, ?_⟩
    rw [runF_at (fn := ⟨2, 3, f17⟩) rfl rfl]
    simp only [f17, hrep, List.map_cons, List.map_nil, List.cons_append, List.nil_append, exSs_cons, s1, s2]
    simp [evEs, Cst.val, hp, hge, hc, show ∀ (h : Hv) (a b : Int), binV h .sub (.int a) (.int b) = some (.int (a - b)) from fun _ _ _ => rfl, keepR, l4, poolC]
  · refine ⟨0, 0, (cell + 104729 * (k : Int)) % 2147483647, 0, ?_⟩
    rw [runF_at (fn := ⟨2, 3, f17⟩) rfl rfl]
    simp only [f17, hrep, List.map_cons, List.map_nil, List.cons_append, List.nil_append, exSs_cons, s1, s2]
    simp [evEs, Cst.val, hp, hge, hc, keepR, l4, poolC, binV, m1, bltV]
theorem pool_call {m k : Nat} {ns : List Int} {h : Hv} : ∃ a b c d, region (runF T (m + 1)) 17 none [.frz (ns.map Val.int), .int k] h = .ok (.cell h.length) (h ++ [poolC false a b c d]) := by
  obtain ⟨a, b, c, d, e⟩ := pool_run (m := m) (k := k) (ns := ns)
  exact ⟨a, b, c, d, region_keep (by simp only [allData, isData, ints_data]; rfl) e rfl⟩
end LawT

set_option linter.all false
set_option Elab.async false
set_option maxRecDepth 100000
set_option maxHeartbeats 1000000
namespace LawT
open PySem PySem.Spec PyProof.Rows L2 Pv
theorem leP_eq {p q : Int × Int} : leP p q = decide (p.1 < q.1 ∨ (p.1 = q.1 ∧ p.2 ≤ q.2)) := by
  obtain ⟨a, b⟩ := p
  obtain ⟨c, d⟩ := q
  simp only [leP, leT]
  by_cases h1 : a = c
  · by_cases h2 : b = d
    · simp [Ob.lexAt, h1, h2]
    · simp [Ob.lexAt, h1, h2]
  · by_cases h2 : a ≤ c
    · have : a < c := by omega
      simp [Ob.lexAt, h1, h2, this]
    · have : ¬ a < c := by omega
      simp [Ob.lexAt, h1, h2, this]
/-- all of l stand ahead of (k, t) -/
def below (l : List (Int × Int)) (k t : Int) : Prop := ∀ p ∈ l, p.1 < k ∨ (p.1 = k ∧ p.2 < t)
theorem okL_push {S : Nat} {l : List (Int × Int)} {k t : Int} (ok : okL S l) (b : below l k t) (hk : okIx k 3 = true) (ht : okIx t S = true) : okL S (l ++ [(k, t)]) := fun i p hp => by
  by_cases hi : i < l.length
  · rw [List.getElem?_append_left hi] at hp
    obtain ⟨a1, a2, a3⟩ := ok i p hp
    refine ⟨a1, a2, ?_⟩
    cases i with
    | zero => exact a3
    | succ j =>
      have e : lastOf (l ++ [(k, t)]) (j + 1) = lastOf l (j + 1) := by
        show (l ++ [(k, t)]).getD j (-1, -1) = l.getD j (-1, -1)
        rw [List.getD_eq_getElem?_getD, List.getD_eq_getElem?_getD, List.getElem?_append_left (by omega)]
      rw [e]
      exact a3
  · have hl := (List.getElem?_eq_some_iff.mp hp).1
    have : i = l.length := by simp at hl; omega
    subst this
    simp at hp
    subst hp
    refine ⟨hk, ht, ?_⟩
    rw [leP_eq]
    rw [okIx_iff] at hk ht
    cases hn : l.length with
    | zero =>
      show decide (k < -1 ∨ (k = -1 ∧ t ≤ -1)) = false
      simp
      omega
    | succ j =>
      have hj : j < l.length := by omega
      have e : lastOf (l ++ [(k, t)]) (j + 1) = l[j] := by
        show (l ++ [(k, t)]).getD j (-1, -1) = l[j]
        rw [List.getD_eq_getElem?_getD, List.getElem?_append_left hj, List.getElem?_eq_getElem hj]
        rfl
      rw [e]
      have := b l[j] (List.getElem_mem hj)
      simp
      omega
theorem below_push {l : List (Int × Int)} {k t : Int} (b : below l k t) : below (l ++ [(k, t)]) k (t + 1) := fun p hp => by
  rcases List.mem_append.mp hp with h | h
  · have := b p h
    omega
  · simp at h
    subst h
    right
    exact ⟨rfl, by show t < t + 1; omega⟩
theorem below_more {l : List (Int × Int)} {k t t' : Int} (b : below l k t) (h : t ≤ t') : below l k t' := fun p hp => by have := b p hp; omega
theorem below_next {l : List (Int × Int)} {k t : Int} (b : below l k t) : below l (k + 1) 0 := fun p hp => by have := b p hp; omega
theorem rng_split {n : Nat} {d r : List Val} {x : Val} (h : rngV 0 n = d ++ x :: r) : x = .int (d.length : Nat) ∧ d.length < n := by
  have hl : d.length < n := by
    have := congrArg List.length h
    rw [rng_len] at this
    simp at this
    omega
  have hx : (rngV 0 n)[d.length]? = some x := by
    rw [h, List.getElem?_append_right (Nat.le_refl _)]
    simp
  have := rng_at hx
  rw [Int.zero_add] at this
  exact ⟨this, hl⟩
/-- the heap while a line is made: the pool, what stands there, the line -/
def lwH (P : Cell) (X : Hv) (l : List (Int × Int)) : Hv := P :: (X ++ [fC l])
theorem lwH_line {P : Cell} {X : Hv} {l : List (Int × Int)} : (lwH P X l)[X.length + 1]? = some (fC l) := by simp [lwH]
theorem lwH_set0 {P Q : Cell} {X : Hv} {l : List (Int × Int)} : (lwH P X l).set 0 Q = lwH Q X l := rfl
theorem lwH_setl {P : Cell} {X : Hv} {l l' : List (Int × Int)} : (lwH P X l).set (X.length + 1) (fC l') = lwH P X l' := by simp [lwH]
def lwB : List S := [(.ifs (.cmp .le (.call 18 [(.var 0), (.con (.int 4))]) (.var 3)) [(.expr (.bm .append (.var 6) [(.tup [(.var 7), (.var 8)])]))] [])]
theorem lw_append {l : List (Int × Int)} {P : Cell} {X : Hv} {k t : Int} (hl : l.length < 100) : bmTy .append (lwH P X l) (.cell (X.length + 1)) = true ∧ bmV .append (.cell (X.length + 1)) [.tup [.int k, .int t]] (lwH P X l) = .ok .non (lwH P X (l ++ [(k, t)])) := by
  have g := lwH_line (P := P) (X := X) (l := l)
  constructor
  · simp only [bmTy, g, fC]
  · have hh : (l.map pairV).length < lim := by rw [List.length_map, show lim = 1000000 from rfl]; omega
    have : fC (l ++ [(k, t)]) = .lst false (l.map pairV ++ [.tup [.int k, .int t]]) := by simp [fC, pairV]
    rw [← lwH_setl (l := l) (l' := l ++ [(k, t)]), this]
    simp only [bmV, g, fC, bmL, if_pos hh]
theorem lw_turn {m : Nat} {g : Bool} {a b c d : Int} {X : Hv} {l : List (Int × Int)} {k t share : Int} {v1 v2 v4 v5 : Val} (hl : l.length < 100) : ∃ a' b', ∃ l', (l' = l ∨ l' = l ++ [(k, t)]) ∧
    exSs (runF T (m + 1)) lwB [some (.cell 0), some v1, some v2, some (.int share), some v4, some v5, some (.cell (X.length + 1)), some (.int k), some (.int t)] (lwH (poolC g a b c d) X l) = .nx [some (.cell 0), some v1, some v2, some (.int share), some v4, some v5, some (.cell (X.length + 1)), some (.int k), some (.int t)] (lwH (poolC g a' b' c d) X l') := by
  obtain ⟨r, a', b', r0, r1, e⟩ := draw_call (m := m) (k := 0) (h := lwH (poolC g a b c d) X l) (g := g) (a := a) (b := b) (c := c) (d := d) (n := 4) rfl (by decide) (by decide)
  rw [lwH_set0] at e
  have hle : ∀ (h : Hv) (a b : Int), cmpV h .le (.int a) (.int b) = some (decide (a ≤ b)) := fun _ _ _ => rfl
  obtain ⟨g1, g2⟩ := lw_append (l := l) (P := poolC g a' b' c d) (X := X) (k := k) (t := t) hl
  have l2 : (2 : Nat) ≤ lim := by decide
  by_cases h : r ≤ share
  · refine ⟨a', b', l ++ [(k, t)], .inr rfl, ?_⟩
    simp [lwB, evEs, Cst.val, e, hle, h, l2, g1, g2]
  · refine ⟨a', b', l, .inl rfl, ?_⟩
    simp [lwB, evEs, Cst.val, e, hle, h]
end LawT

set_option linter.all false
set_option Elab.async false
set_option maxRecDepth 100000
set_option maxHeartbeats 1000000
namespace LawT
open PySem PySem.Spec PyProof.Rows L2 Pv
/-- the slots of _law_ways within a line -/
abbrev lwE (K S share : Int) (v5 : Val) (j : Nat) (o7 o8 : Option Val) : Pv.Env := [some (.cell 0), some (.int K), some (.int S), some (.int share), some (.cell 1), some v5, some (.cell j), o7, o8]
theorem lw_targets {m : Nat} {g : Bool} {a b c d K share k : Int} {S : Nat} {X : Hv} {l : List (Int × Int)} {v5 : Val} {o8 : Option Val} (hk : okIx k 3 = true) (hS : S ≤ 2) (ok : okL S l) (hb : below l k 0) (hl : l.length ≤ 50) :
    ∃ a' b' l' q8, forS (fun x e h => bindT h (.n 8) x e) (fun e h => exSs (runF T (m + 1)) lwB e h) (rngV 0 S) (lwE K S share v5 (X.length + 1) (some (.int k)) o8) (lwH (poolC g a b c d) X l) = .nx (lwE K S share v5 (X.length + 1) (some (.int k)) q8) (lwH (poolC g a' b' c d) X l') ∧ okL S l' ∧ below l' k S ∧ l'.length ≤ l.length + S := by
  obtain ⟨e', h', c1, a', b', l', q8, rfl, rfl, c2, c3, c4⟩ := for_thru (bind := fun x e h => bindT h (.n 8) x e) (body := fun e h => exSs (runF T (m + 1)) lwB e h) (xs := rngV 0 S) (e := lwE K S share v5 (X.length + 1) (some (.int k)) o8) (h := lwH (poolC g a b c d) X l)
    (fun D e h => ∃ a' b' l' q8, e = lwE K S share v5 (X.length + 1) (some (.int k)) q8 ∧ h = lwH (poolC g a' b' c d) X l' ∧ okL S l' ∧ below l' k D.length ∧ l'.length ≤ l.length + D.length) ⟨a, b, l, o8, rfl, rfl, ok, hb, Nat.le_add_right _ _⟩ (fun D x r e h hd ⟨a1, b1, l1, q8, he, hh, k1, k2, k3⟩ => by
      obtain ⟨rfl, hD⟩ := rng_split hd
      subst he hh
      obtain ⟨a2, b2, l2, hl2, e2⟩ := lw_turn (m := m) (g := g) (a := a1) (b := b1) (c := c) (d := d) (X := X) (l := l1) (k := k) (t := (D.length : Nat)) (share := share) (v1 := .int K) (v2 := .int S) (v4 := .cell 1) (v5 := v5) (by omega)
      refine ⟨_, _, _, rfl, .inl e2, a2, b2, l2, some (.int (D.length : Nat)), rfl, rfl, ?_, ?_, ?_⟩
      · rcases hl2 with rfl | rfl
        · exact k1
        · exact okL_push k1 k2 hk (okIx_iff.mpr ⟨by omega, by omega⟩)
      · rw [List.length_append]
        rcases hl2 with rfl | rfl
        · exact below_more k2 (by simp; omega)
        · have := below_push k2
          exact below_more this (by simp)
      · rw [List.length_append]
        rcases hl2 with rfl | rfl
        · simp; omega
        · simp; omega)
  rw [rng_len] at c3 c4
  exact ⟨a', b', l', q8, c1, c2, c3, c4⟩
def lwB2 : List S := [(.for_ (.n 8) (.rng (.var 2)) lwB)]
theorem lw_kinds {m : Nat} {g : Bool} {a b c d share : Int} {S K : Nat} {X : Hv} {v5 : Val} {o7 o8 : Option Val} (hK : K ≤ 3) (hS : S ≤ 2) :
    ∃ a' b' l' q7 q8, forS (fun x e h => bindT h (.n 7) x e) (fun e h => exSs (runF T (m + 1)) lwB2 e h) (rngV 0 K) (lwE K S share v5 (X.length + 1) o7 o8) (lwH (poolC g a b c d) X []) = .nx (lwE K S share v5 (X.length + 1) q7 q8) (lwH (poolC g a' b' c d) X l') ∧ okL S l' ∧ l'.length ≤ K * S := by
  obtain ⟨e', h', c1, a', b', l', q7, q8, rfl, rfl, c2, c3, c4⟩ := for_thru (bind := fun x e h => bindT h (.n 7) x e) (body := fun e h => exSs (runF T (m + 1)) lwB2 e h) (xs := rngV 0 K) (e := lwE K S share v5 (X.length + 1) o7 o8) (h := lwH (poolC g a b c d) X [])
    (fun D e h => ∃ a' b' l' q7 q8, e = lwE K S share v5 (X.length + 1) q7 q8 ∧ h = lwH (poolC g a' b' c d) X l' ∧ okL S l' ∧ below l' D.length 0 ∧ l'.length ≤ D.length * S) ⟨a, b, [], o7, o8, rfl, rfl, (fun i p hp => by simp at hp), (fun p hp => by cases hp), Nat.zero_le _⟩ (fun D x r e h hd ⟨a1, b1, l1, q7, q8, he, hh, k1, k2, k3⟩ => by
      obtain ⟨rfl, hD⟩ := rng_split hd
      subst he hh
      have hlen : l1.length ≤ 50 := by
        have : D.length * S ≤ 3 * 2 := Nat.mul_le_mul (by omega) hS
        omega
      obtain ⟨a2, b2, l2, r8, t1, t2, t3, t4⟩ := lw_targets (m := m) (g := g) (a := a1) (b := b1) (c := c) (d := d) (K := K) (share := share) (k := (D.length : Nat)) (S := S) (X := X) (l := l1) (v5 := v5) (o8 := q8) (okIx_iff.mpr ⟨by omega, by omega⟩) hS k1 k2 hlen
      refine ⟨lwE K S share v5 (X.length + 1) (some (.int (D.length : Nat))) q8, _, _, rfl, .inl (?_ : _ = Out.nx (lwE K S share v5 (X.length + 1) (some (.int (D.length : Nat))) r8) (lwH (poolC g a2 b2 c d) X l2)), a2, b2, l2, some (.int (D.length : Nat)), r8, rfl, rfl, t2, ?_, ?_⟩
      · have hf : exS (runF T (m + 1)) (.for_ (.n 8) (.rng (.var 2)) lwB) (lwE K S share v5 (X.length + 1) (some (.int (D.length : Nat))) q8) (lwH (poolC g a1 b1 c d) X l1) = .nx (lwE K S share v5 (X.length + 1) (some (.int (D.length : Nat))) r8) (lwH (poolC g a2 b2 c d) X l2) := by
          rw [for_fix (xs := rngV 0 S) (k := S + 1) (h1 := lwH (poolC g a1 b1 c d) X l1) ?_ (by rw [rng_len]; omega)]
          · exact t1
          · have x1 : (-1000000 : Int) ≤ S := by omega
            have x2 : (S : Int) ≤ 1000000 := by omega
            simp [x1, x2]
        simp only [lwB2, exSs_cons, exSs_nil, hf]
      · rw [List.length_append]
        have := below_next t3
        simpa using this
      · rw [List.length_append]
        show l2.length ≤ (D.length + 1) * S
        rw [Nat.add_mul]
        omega)
  rw [rng_len] at c3 c4
  exact ⟨a', b', l', q7, q8, c1, c2, c4⟩
end LawT

set_option linter.all false
set_option Elab.async false
set_option maxRecDepth 100000
set_option maxHeartbeats 1000000
namespace LawT
open PySem PySem.Spec PyProof.Rows L2 Pv
def lwB3 : List S := [(.set 6 (.keep false (.lst []))), (.for_ (.n 7) (.rng (.var 1)) lwB2), (.ifs (.cmp .eq (.blt .len [(.var 6)]) (.con (.int 0))) [(.expr (.bm .append (.var 6) [(.tup [(.call 18 [(.var 0), (.var 1)]), (.call 18 [(.var 0), (.var 2)])])]))] []), (.expr (.bm .append (.var 4) [(.var 6)]))]
/-- the heap between two lines: the pool, the list of the lines, the lines -/
def lwX (ws : List (List (Int × Int))) : Hv := .lst false ((List.range ws.length).map fun i => .cell (i + 2)) :: ws.map fC
theorem lwX_len {ws : List (List (Int × Int))} : (lwX ws).length = ws.length + 1 := by simp [lwX]
theorem line_turn {m : Nat} {g : Bool} {a b c d share : Int} {S K : Nat} {ws : List (List (Int × Int))} {v5 : Val} {o6 o7 o8 : Option Val} (hK : 1 ≤ K ∧ K ≤ 3) (hS : 1 ≤ S ∧ S ≤ 2) (hw : ws.length < 10) :
    ∃ a' b' l q6 q7 q8, exSs (runF T (m + 1)) lwB3 [some (.cell 0), some (.int K), some (.int S), some (.int share), some (.cell 1), some v5, o6, o7, o8] (poolC g a b c d :: lwX ws) = .nx [some (.cell 0), some (.int K), some (.int S), some (.int share), some (.cell 1), some v5, q6, q7, q8] (poolC g a' b' c d :: lwX (ws ++ [l])) ∧ okLine S l ∧ l.length < 1000 := by
  obtain ⟨a1, b1, l1, q7, q8, t1, t2, t3⟩ := lw_kinds (m := m) (g := g) (a := a) (b := b) (c := c) (d := d) (share := share) (S := S) (K := K) (X := lwX ws) (v5 := v5) (o7 := o7) (o8 := o8) hK.2 hS.2
  have s1 : exS (runF T (m + 1)) (.set 6 (.keep false (.lst []))) [some (.cell 0), some (.int K), some (.int S), some (.int share), some (.cell 1), some v5, o6, o7, o8] (poolC g a b c d :: lwX ws) = .nx (lwE K S share v5 ((lwX ws).length + 1) o7 o8) (lwH (poolC g a b c d) (lwX ws) []) := by
    simp [keepR, lwH, fC]
  have s2 : exS (runF T (m + 1)) (.for_ (.n 7) (.rng (.var 1)) lwB2) (lwE K S share v5 ((lwX ws).length + 1) o7 o8) (lwH (poolC g a b c d) (lwX ws) []) = .nx (lwE K S share v5 ((lwX ws).length + 1) q7 q8) (lwH (poolC g a1 b1 c d) (lwX ws) l1) := by
    rw [for_fix (xs := rngV 0 K) (k := K + 1) (h1 := lwH (poolC g a b c d) (lwX ws) []) ?_ (by rw [rng_len]; omega)]
    · exact t1
    · have x1 : (-1000000 : Int) ≤ K := by omega
      have x2 : (K : Int) ≤ 1000000 := by omega
      simp [x1, x2]
  have hl1 : l1.length ≤ 6 := Nat.le_trans t3 (Nat.mul_le_mul hK.2 hS.2)
  have heq : ∀ (h : Hv) (x y : Int), cmpV h .eq (.int x) (.int y) = some (decide (x = y)) := fun h x y => eqD_int (h := h)
  have hlen : ∀ P l, bltV (lwH P (lwX ws) l) .len [.cell ((lwX ws).length + 1)] = some (.int l.length) := fun P l => by
    simp only [bltV, lenV, seqs_cell (n := (lwX ws).length + 1) lwH_line, List.length_map]
  -- the line that is empty gets one way
  have s3 : ∃ a2 b2 l2, exS (runF T (m + 1)) (.ifs (.cmp .eq (.blt .len [(.var 6)]) (.con (.int 0))) [(.expr (.bm .append (.var 6) [(.tup [(.call 18 [(.var 0), (.var 1)]), (.call 18 [(.var 0), (.var 2)])])]))] []) (lwE K S share v5 ((lwX ws).length + 1) q7 q8) (lwH (poolC g a1 b1 c d) (lwX ws) l1) = .nx (lwE K S share v5 ((lwX ws).length + 1) q7 q8) (lwH (poolC g a2 b2 c d) (lwX ws) l2) ∧ okLine S l2 ∧ l2.length < 1000 := by
    by_cases hz : l1.length = 0
    · have hl : l1 = [] := List.eq_nil_of_length_eq_zero hz
      subst hl
      obtain ⟨r, a2, b2, r0, r1, e1⟩ := draw_call (m := m) (k := 0) (h := lwH (poolC g a1 b1 c d) (lwX ws) []) (g := g) (a := a1) (b := b1) (c := c) (d := d) (n := K) rfl (by omega) (by omega)
      rw [lwH_set0] at e1
      obtain ⟨u, a3, b3, u0, u1, e2⟩ := draw_call (m := m) (k := 0) (h := lwH (poolC g a2 b2 c d) (lwX ws) []) (g := g) (a := a2) (b := b2) (c := c) (d := d) (n := S) rfl (by omega) (by omega)
      rw [lwH_set0] at e2
      obtain ⟨g1, g2⟩ := lw_append (l := []) (P := poolC g a1 b1 c d) (X := lwX ws) (k := r) (t := u) (by decide)
      obtain ⟨g3, g4⟩ := lw_append (l := []) (P := poolC g a3 b3 c d) (X := lwX ws) (k := r) (t := u) (by decide)
      refine ⟨a3, b3, [(r, u)], ?_, ⟨by simp, ?_⟩, by simp⟩
      · have l2 : (2 : Nat) ≤ lim := by decide
        simp [evEs, Cst.val, hlen, heq, g1, e1, e2, l2, g4]
      · have := okL_push (S := S) (l := []) (k := r) (t := u) (fun i p hp => by simp at hp) (fun p hp => by cases hp) (okIx_iff.mpr ⟨by omega, by omega⟩) (okIx_iff.mpr ⟨by omega, by omega⟩)
        exact this
    · refine ⟨a1, b1, l1, ?_, ⟨fun z => hz (by rw [z]; rfl), t2⟩, by omega⟩
      have hz2 : ¬ ((l1.length : Int) = 0) := by omega
      simp [evEs, Cst.val, hlen, heq, hz]
  obtain ⟨a2, b2, l2, s3, k1, k2⟩ := s3
  have s4 : exS (runF T (m + 1)) (.expr (.bm .append (.var 4) [(.var 6)])) (lwE K S share v5 ((lwX ws).length + 1) q7 q8) (lwH (poolC g a2 b2 c d) (lwX ws) l2) = .nx (lwE K S share v5 ((lwX ws).length + 1) q7 q8) (poolC g a2 b2 c d :: lwX (ws ++ [l2])) := by
    have e1 : (lwH (poolC g a2 b2 c d) (lwX ws) l2)[1]? = some (.lst false ((List.range ws.length).map fun i => .cell (i + 2))) := rfl
    have e2 : (lwH (poolC g a2 b2 c d) (lwX ws) l2).set 1 (.lst false (((List.range ws.length).map fun i => Val.cell (i + 2)) ++ [.cell ((lwX ws).length + 1)])) = poolC g a2 b2 c d :: lwX (ws ++ [l2]) := by
      simp [lwH, lwX, List.range_succ]
    have e3 : bmTy .append (lwH (poolC g a2 b2 c d) (lwX ws) l2) (.cell 1) = true := by simp only [bmTy, e1]
    have e4 : bmV .append (.cell 1) [.cell ((lwX ws).length + 1)] (lwH (poolC g a2 b2 c d) (lwX ws) l2) = .ok .non (poolC g a2 b2 c d :: lwX (ws ++ [l2])) := by
      have hh : ((List.range ws.length).map fun i => Val.cell (i + 2)).length < lim := by rw [List.length_map, List.length_range, show lim = 1000000 from rfl]; omega
      rw [← e2]
      simp only [bmV, e1, bmL, if_pos hh]
    simp [evEs, e3, e4]
  refine ⟨a2, b2, l2, some (.cell ((lwX ws).length + 1)), q7, q8, ?_, k1, k2⟩
  simp only [lwB3, exSs_cons, exSs_nil, s1, s2, s3, s4]
end LawT

set_option linter.all false
set_option Elab.async false
set_option maxRecDepth 100000
set_option maxHeartbeats 1000000
namespace LawT
open PySem PySem.Spec PyProof.Rows L2 Pv
theorem waysL {m : Nat} {g : Bool} {a b c d share : Int} {S K : Nat} {o5 o6 o7 o8 : Option Val} (hK : 1 ≤ K ∧ K ≤ 3) (hS : 1 ≤ S ∧ S ≤ 2) :
    ∃ a' b' ws q5 q6 q7 q8, forS (fun x e h => bindT h (.n 5) x e) (fun e h => exSs (runF T (m + 1)) lwB3 e h) (rngV 0 S) [some (.cell 0), some (.int K), some (.int S), some (.int share), some (.cell 1), o5, o6, o7, o8] (poolC g a b c d :: lwX []) = .nx [some (.cell 0), some (.int K), some (.int S), some (.int share), some (.cell 1), q5, q6, q7, q8] (poolC g a' b' c d :: lwX ws) ∧ ws.length = S ∧ ∀ l ∈ ws, okLine S l ∧ l.length < 1000 := by
  obtain ⟨e', h', c1, a', b', ws, q5, q6, q7, q8, rfl, rfl, c2, c3⟩ := for_thru (bind := fun x e h => bindT h (.n 5) x e) (body := fun e h => exSs (runF T (m + 1)) lwB3 e h) (xs := rngV 0 S) (e := [some (.cell 0), some (.int K), some (.int S), some (.int share), some (.cell 1), o5, o6, o7, o8]) (h := poolC g a b c d :: lwX [])
    (fun D e h => ∃ a' b' ws q5 q6 q7 q8, e = [some (.cell 0), some (.int K), some (.int S), some (.int share), some (.cell 1), q5, q6, q7, q8] ∧ h = poolC g a' b' c d :: lwX ws ∧ ws.length = D.length ∧ ∀ l ∈ ws, okLine S l ∧ l.length < 1000) ⟨a, b, [], o5, o6, o7, o8, rfl, rfl, rfl, fun l hl => by cases hl⟩ (fun D x r e h hd ⟨a1, b1, ws, q5, q6, q7, q8, he, hh, k1, k2⟩ => by
      obtain ⟨rfl, hD⟩ := rng_split hd
      subst he hh
      obtain ⟨a2, b2, l, r6, r7, r8, t1, t2, t3⟩ := line_turn (m := m) (g := g) (a := a1) (b := b1) (c := c) (d := d) (share := share) (S := S) (K := K) (ws := ws) (v5 := .int (D.length : Nat)) (o6 := q6) (o7 := q7) (o8 := q8) hK hS (by omega)
      refine ⟨_, _, _, rfl, .inl t1, a2, b2, ws ++ [l], some (.int (D.length : Nat)), r6, r7, r8, rfl, rfl, by simp [k1], fun l' hl' => ?_⟩
      rcases List.mem_append.mp hl' with h | h
      · exact k2 l' h
      · rw [List.mem_singleton.mp h]
        exact ⟨t2, t3⟩)
  rw [rng_len] at c2
  exact ⟨a', b', ws, q5, q6, q7, q8, c1, c2, c3⟩
theorem ways_run {m : Nat} {g : Bool} {a b c d : Int} {K : Nat} (hK : 1 ≤ K ∧ K ≤ 3) : ∃ a' b' ws, OkW ws ∧ runF T (m + 2) 19 [.cell 0, .int K] [poolC g a b c d] = .ok (.cell 1) (poolC g a' b' c d :: lwX ws) := by
  obtain ⟨s, a1, b1, s0, s1, e1⟩ := draw_call (m := m) (k := 0) (h := [poolC g a b c d]) (g := g) (a := a) (b := b) (c := c) (d := d) (n := 2) rfl (by decide) (by decide)
  obtain ⟨sh, a2, b2, _, _, e2⟩ := draw_call (m := m) (k := 0) (h := [poolC g a1 b1 c d]) (g := g) (a := a1) (b := b1) (c := c) (d := d) (n := 3) rfl (by decide) (by decide)
  simp only [List.set_cons_zero] at e1 e2
  obtain ⟨S, hS⟩ : ∃ S : Nat, 1 + s = (S : Int) := ⟨(1 + s).toNat, by omega⟩
  have hS2 : 1 ≤ S ∧ S ≤ 2 := by omega
  obtain ⟨a', b', ws, q5, q6, q7, q8, lp, w1, w2⟩ := waysL (m := m) (g := g) (a := a2) (b := b2) (c := c) (d := d) (share := sh) (S := S) (K := K) (o5 := none) (o6 := none) (o7 := none) (o8 := none) hK hS2
  refine ⟨a', b', ws, ⟨by omega, fun l hl => by rw [w1]; exact (w2 l hl).1, fun l hl => (w2 l hl).2⟩, ?_⟩
  have s1 : exS (runF T (m + 1)) (.set 2 (.bin .add (.con (.int 1)) (.call 18 [(.var 0), (.con (.int 2))]))) [some (.cell 0), some (.int K), none, none, none, none, none, none, none] [poolC g a b c d] = .nx [some (.cell 0), some (.int K), some (.int S), none, none, none, none, none, none] [poolC g a1 b1 c d] := by
    simp [evEs, Cst.val, e1, binV, hS]
  have s2 : exS (runF T (m + 1)) (.set 3 (.call 18 [(.var 0), (.con (.int 3))])) [some (.cell 0), some (.int K), some (.int S), none, none, none, none, none, none] [poolC g a1 b1 c d] = .nx [some (.cell 0), some (.int K), some (.int S), some (.int sh), none, none, none, none, none] [poolC g a2 b2 c d] := by
    simp [evEs, Cst.val, e2]
  have s3 : exS (runF T (m + 1)) (.set 4 (.keep false (.lst []))) [some (.cell 0), some (.int K), some (.int S), some (.int sh), none, none, none, none, none] [poolC g a2 b2 c d] = .nx [some (.cell 0), some (.int K), some (.int S), some (.int sh), some (.cell 1), none, none, none, none] (poolC g a2 b2 c d :: lwX []) := by
    simp [keepR, lwX]
  have s4 : exS (runF T (m + 1)) (.for_ (.n 5) (.rng (.var 2)) lwB3) [some (.cell 0), some (.int K), some (.int S), some (.int sh), some (.cell 1), none, none, none, none] (poolC g a2 b2 c d :: lwX []) = .nx [some (.cell 0), some (.int K), some (.int S), some (.int sh), some (.cell 1), q5, q6, q7, q8] (poolC g a' b' c d :: lwX ws) := by
    rw [for_fix (xs := rngV 0 S) (k := S + 1) (h1 := poolC g a2 b2 c d :: lwX []) ?_ (by rw [rng_len]; omega)]
    · exact lp
    · have x1 : (-1000000 : Int) ≤ S := by omega
      have x2 : (S : Int) ≤ 1000000 := by omega
      simp [x1, x2]
  rw [runF_at (fn := ⟨2, 9, f19⟩) rfl rfl]
  have hrep : List.replicate (9 - 2) (none : Option Val) = [none, none, none, none, none, none, none] := rfl
  unfold lwB3 lwB2 lwB at s4
  simp only [f19, hrep, List.map_cons, List.map_nil, List.cons_append, List.nil_append, exSs_cons, s1, s2, s3, s4]
  simp
/-- _law_ways, called with a pool -/
theorem ways_call {m k : Nat} {h : Hv} {g : Bool} {a b c d : Int} {K : Nat} (hk : h[k]? = some (poolC g a b c d)) (hK : 1 ≤ K ∧ K ≤ 3) : ∃ a' b' ws, OkW ws ∧ region (runF T (m + 2)) 19 none [.cell k, .int K] h = .ok (.lst (ws.map valW)) (h.set k (poolC g a' b' c d)) := by
  obtain ⟨a', b', ws, ok, e⟩ := ways_run (m := m) (g := g) (a := a) (b := b) (c := c) (d := d) hK
  refine ⟨a', b', ws, ok, region_cell (ds := [.int K]) rfl hk rfl e rfl ?_ ?_⟩
  · refine stays_noexp _ 1 fun C hC => ?_
    rcases List.mem_cons.mp hC with rfl | hC
    · rfl
    · obtain ⟨A, _, rfl⟩ := List.mem_map.mp hC
      rfl
  · intro s _ hn
    have hin : ∀ (i : Nat) (l : List (Int × Int)), ws[i]? = some l → outV s (poolC g a' b' c d :: lwX ws) 7 (.cell (i + 2)) = some (valW l) := fun i l hi => by
      have e1 : (poolC g a' b' c d :: lwX ws)[i + 2]? = some (fC l) := by
        simp [lwX, hi]
      rw [outV]
      simp only [isData, Bool.false_eq_true, if_false, hn (i + 1), e1, fC]
      rw [mapO_data (pairs_data l)]
      rfl
    rw [outV]
    simp only [isData, Bool.false_eq_true, if_false, hn 0, lwX, List.getElem?_cons_succ, List.getElem?_cons_zero]
    rcases shape12 ok.len rfl with ⟨_, A, rfl⟩ | ⟨_, A, B, rfl⟩
    · have h1 := hin 0 A rfl
      simp only [lwX] at h1
      simp only [List.length_cons, List.length_nil, List.range_succ, List.range_zero, List.map_cons, List.map_nil, List.nil_append, List.cons_append] at h1 ⊢
      simp [mapO, h1]
    · have h1 := hin 0 A rfl
      have h2 := hin 1 B rfl
      simp only [lwX] at h1 h2
      simp only [List.length_cons, List.length_nil, List.range_succ, List.range_zero, List.map_cons, List.map_nil, List.nil_append, List.cons_append] at h1 h2 ⊢
      simp [mapO, h1, h2]
end LawT

set_option linter.all false
set_option Elab.async false
set_option maxRecDepth 100000
set_option maxHeartbeats 1000000
namespace LawT
open PySem PySem.Spec PyProof.Rows L2 Pv
/-- the inner clause adds what it walks -/
theorem lc2_inner {d : Pv.Env → Hv → Res Val} {vs : List Nat} {tg : Tg} {e : Pv.Env} {h : Hv} {xs : List Val} (hd : ∀ x ∈ xs, ∃ e', bindT h tg x (wipeE e vs) = some e' ∧ d e' h = .ok x h) : ∀ (k i : Nat) (acc : List Val), i ≤ xs.length → xs.length + 1 ≤ i + k → acc.length + (xs.length - i) ≤ lim → lc2L (lcI d vs tg e) (fun _ => some xs) k i h acc = .ok (acc ++ xs.drop i) h
  | 0, i, acc, h1, h2, h3 => by omega
  | k + 1, i, acc, h1, h2, h3 => by
    rw [lc2L, srcAt_fix h1]
    by_cases hi : i < xs.length
    · rw [List.getElem?_eq_getElem hi, List.drop_eq_getElem_cons hi]
      dsimp only
      obtain ⟨e', a1, a2⟩ := hd _ (List.getElem_mem hi)
      have hf : lcI d vs tg e xs[i] h acc = .ok (acc ++ [xs[i]]) h := by
        unfold lcI
        rw [a1]
        dsimp only
        rw [a2]
        dsimp only
        rw [if_pos (by omega)]
      rw [hf]
      dsimp only
      rw [lc2_inner hd k (i + 1) (acc ++ [xs[i]]) hi (by omega) (by simp; omega)]
      simp
    · have : i = xs.length := by omega
      subst this
      rw [List.getElem?_eq_none (Nat.le_refl _), List.drop_length]
      simp
theorem lc2_outer {it : Pv.Env → Hv → Res Src} {d : Pv.Env → Hv → Res Val} {vs vs1 : List Nat} {tg tg1 : Tg} {e : Pv.Env} {h : Hv} {xs : List Val} (f : Val → List Val) (hx : ∀ x ∈ xs, ∃ e' k, bindT h tg x (wipeE e vs) = some e' ∧ it e' h = .ok (k, fun _ => some (f x)) h ∧ (f x).length + 1 ≤ k ∧ (f x).length ≤ 1000 ∧ ∀ y ∈ f x, ∃ e'', bindT h tg1 y (wipeE e' vs1) = some e'' ∧ d e'' h = .ok y h) :
    ∀ (k i : Nat) (acc : List Val), i ≤ xs.length → xs.length + 1 ≤ i + k → acc.length + 1000 * (xs.length - i) ≤ lim → lc2L (lcO it d vs vs1 tg tg1 e) (fun _ => some xs) k i h acc = .ok (acc ++ (xs.drop i).flatMap f) h
  | 0, i, acc, h1, h2, h3 => by omega
  | k + 1, i, acc, h1, h2, h3 => by
    rw [lc2L, srcAt_fix h1]
    by_cases hi : i < xs.length
    · rw [List.getElem?_eq_getElem hi, List.drop_eq_getElem_cons hi]
      dsimp only
      obtain ⟨e', k', a1, a2, a3, a4, a5⟩ := hx _ (List.getElem_mem hi)
      have hf : lcO it d vs vs1 tg tg1 e xs[i] h acc = .ok (acc ++ f xs[i]) h := by
        unfold lcO
        rw [a1]
        dsimp only
        rw [a2]
        dsimp only
        have := lc2_inner (d := d) (vs := vs1) (tg := tg1) (e := e') (h := h) (xs := f xs[i]) a5 k' 0 acc (Nat.zero_le _) (by omega) (by omega)
        simpa using this
      rw [hf]
      dsimp only
      rw [lc2_outer f hx k (i + 1) (acc ++ f xs[i]) hi (by omega) (by simp; omega), List.flatMap_cons, List.append_assoc]
    · have : i = xs.length := by omega
      subst this
      rw [List.getElem?_eq_none (Nat.le_refl _), List.drop_length]
      simp
theorem toPD_pair {h : Hv} {k : Nat} {p : Int × Int} : toPD h (k + 1) (pairV p) = some (.tuple [.int p.1, .int p.2]) := by
  cases k <;> simp [toPD, pairV, mapO, sclPD]
theorem toPD_pairs {h : Hv} {k : Nat} (l : List (Int × Int)) : mapO (toPD h (k + 1)) (l.map pairV) = some (l.map fun p => .tuple [.int p.1, .int p.2]) := by
  induction l with
  | nil => rfl
  | cons p l ih => simp only [List.map_cons, mapO, toPD_pair, ih]
theorem mem_pairs {h : Hv} {a b : Int} (l : List (Int × Int)) : ∃ r, cmpV h .isIn (.tup [.int a, .int b]) (.lst (l.map pairV)) = some r := by
  have e1 : memF h (.tup [.int a, .int b]) (.lst (l.map pairV)) = none := rfl
  have e2 : toPD h 30 (.tup [.int a, .int b]) = some (.tuple [.int a, .int b]) := toPD_pair (k := 29) (p := (a, b))
  have e3 : toPD h 30 (.lst (l.map pairV)) = some (.list (l.map fun p => .tuple [.int p.1, .int p.2])) := by
    have : toPD h 30 (.lst (l.map pairV)) = (mapO (toPD h 29) (l.map pairV)).map PyData.list := rfl
    rw [this, toPD_pairs (k := 28) l]
    rfl
  refine ⟨(l.map fun p => PyData.tuple [.int p.1, .int p.2]).any fun z => PyData.eqv z (.tuple [.int a, .int b]), ?_⟩
  have e4 : cmpV h .isIn (.tup [.int a, .int b]) (.lst (l.map pairV)) = memD h (.tup [.int a, .int b]) (.lst (l.map pairV)) := by
    unfold cmpV
    dsimp only
    rw [e1]
  rw [e4]
  unfold memD
  rw [e2, e3]
/-- states -/
def okSt (S : Nat) (sts : List Int) : Prop := sts.length ≤ 2 ∧ ∀ i ∈ sts, 0 ≤ i ∧ i < S
def saC : E := .cmp .isIn (.tup [(.var 2), (.var 4)]) (.lc2 [5, 6] [6] (.var 6) (.n 5) (.seq (.var 1)) (.n 6) (.seq (.ix (.fld (.var 0) 0) (.var 5))))
theorem sa_cond {m : Nat} {ws : List (List (Int × Int))} {sts : List Int} {k t : Int} {v3 : Val} {o5 o6 : Option Val} {h : Hv} (ok : OkW ws) (hs : okSt ws.length sts) : ∃ r, evE (runF T m) saC [some (sndV ws), some (.lst (sts.map Val.int)), some (.int k), some v3, some (.int t), o5, o6] h = .ok (.bl r) h := by
  have hlc : ∃ l : List (Int × Int), evE (runF T m) (.lc2 [5, 6] [6] (.var 6) (.n 5) (.seq (.var 1)) (.n 6) (.seq (.ix (.fld (.var 0) 0) (.var 5)))) [some (sndV ws), some (.lst (sts.map Val.int)), some (.int k), some v3, some (.int t), o5, o6] h = .ok (.lst (l.map pairV)) h := by
    refine ⟨sts.flatMap fun i => ws.getD i.toNat [], ?_⟩
    have hi : evI (runF T m) (.seq (.var 1)) [some (sndV ws), some (.lst (sts.map Val.int)), some (.int k), some v3, some (.int t), o5, o6] h = .ok ((sts.map Val.int).length + 1, fun _ => some (sts.map Val.int)) h := by simp
    rw [evE_lc2, hi, Res.bind_ok]
    dsimp only
    have lo := lc2_outer (it := fun e h => evI (runF T m) (.seq (.ix (.fld (.var 0) 0) (.var 5))) e h) (d := fun e h => evE (runF T m) (.var 6) e h) (vs := [5, 6]) (vs1 := [6]) (tg := .n 5) (tg1 := .n 6) (e := [some (sndV ws), some (.lst (sts.map Val.int)), some (.int k), some v3, some (.int t), o5, o6]) (h := h) (xs := sts.map Val.int) (fun x => match x with
      | .int i => (ws.getD i.toNat []).map pairV
      | _ => []) (fun x hx => by
        obtain ⟨i, hi, rfl⟩ := List.mem_map.mp hx
        obtain ⟨i0, i1⟩ := hs.2 i hi
        obtain ⟨j, rfl⟩ := Int.eq_ofNat_of_zero_le i0
        have hj : j < ws.length := by omega
        have hl : ws[j]? = some ws[j] := List.getElem?_eq_getElem hj
        have hg : ws.getD ((j : Int).toNat) [] = ws[j] := by
          rw [Int.toNat_natCast, List.getD_eq_getElem?_getD, hl]
          rfl
        have ha : atV h (.lst (ws.map valW)) (.int (j : Int)) = some (valW ws[j]) := by
          simp only [atV, seqs_lst]
          exact atI_nat (by rw [List.getElem?_map, hl]; rfl)
        refine ⟨[some (sndV ws), some (.lst (sts.map Val.int)), some (.int k), some v3, some (.int t), some (.int j), none], (ws[j].map pairV).length + 1, rfl, ?_, ?_, ?_, fun y hy => ?_⟩
        · dsimp only
          rw [hg]
          simp [snd_fld, ha, valW]
        · dsimp only
          rw [hg]
          exact Nat.le_refl _
        · dsimp only
          rw [hg, List.length_map]
          have := ok.few ws[j] (List.getElem_mem hj)
          omega
        · exact ⟨[some (sndV ws), some (.lst (sts.map Val.int)), some (.int k), some v3, some (.int t), some (.int j), some y], rfl, by simp⟩) ((sts.map Val.int).length + 1) 0 [] (Nat.zero_le _) (by omega) (by rw [List.length_map, show lim = 1000000 from rfl]; have := hs.1; simp; omega)
    rw [lo]
    simp [lcEnd, List.flatMap_map, List.map_flatMap]
  obtain ⟨l, hl⟩ := hlc
  obtain ⟨r, hr⟩ := mem_pairs (h := h) (a := k) (b := t) l
  refine ⟨r, ?_⟩
  have l2 : (2 : Nat) ≤ lim := by decide
  simp [saC, evEs, l2, hl, hr]
end LawT

set_option linter.all false
set_option Elab.async false
set_option maxRecDepth 100000
set_option maxHeartbeats 1000000
namespace LawT
open PySem PySem.Spec PyProof.Rows L2 Pv
def saB : List S := [(.ifs saC [(.expr (.bm .append (.var 3) [(.var 4)]))] [])]
theorem after_ok {m : Nat} {ws : List (List (Int × Int))} {sts : List Int} {k : Int} (ok : OkW ws) (hs : okSt ws.length sts) : ∃ res, okSt ws.length res ∧ Gives (runF T (m + 1)) 9 [sndV ws, .lst (sts.map Val.int), .int k] (.lst (res.map Val.int)) := by
  have hw := (okW_two ok).2
  obtain ⟨e', h', c1, res, o4, rfl, rfl, c2, c3⟩ := for_thru (bind := fun x e h => bindT h (.n 4) x e) (body := fun e h => exSs (runF T m) saB e h) (xs := rngV 0 ws.length) (e := [some (sndV ws), some (.lst (sts.map Val.int)), some (.int k), some (.cell 0), none, none, none]) (h := [.lst false []])
    (fun D e h => ∃ res o4, e = [some (sndV ws), some (.lst (sts.map Val.int)), some (.int k), some (.cell 0), o4, none, none] ∧ h = [.lst false (res.map Val.int)] ∧ res.length ≤ D.length ∧ ∀ i ∈ res, 0 ≤ i ∧ i < (ws.length : Int)) ⟨[], none, rfl, rfl, Nat.le_refl _, fun i hi => by cases hi⟩ (fun D x r e h hd ⟨res, o4, he, hh, k1, k2⟩ => by
      obtain ⟨rfl, hD⟩ := rng_split hd
      subst he hh
      obtain ⟨r0, hr⟩ := sa_cond (m := m) (ws := ws) (sts := sts) (k := k) (t := (D.length : Nat)) (v3 := .cell 0) (o5 := none) (o6 := none) (h := [.lst false (res.map Val.int)]) ok hs
      cases r0 with
      | false =>
        refine ⟨_, _, _, rfl, .inl (?_ : _ = Out.nx [some (sndV ws), some (.lst (sts.map Val.int)), some (.int k), some (.cell 0), some (.int (D.length : Nat)), none, none] [.lst false (res.map Val.int)]), res, _, rfl, rfl, by simp; omega, k2⟩
        simp [saB, hr]
      | true =>
        have hl : (res.map Val.int).length < lim := by rw [List.length_map, show lim = 1000000 from rfl]; omega
        refine ⟨_, _, _, rfl, .inl (?_ : _ = Out.nx [some (sndV ws), some (.lst (sts.map Val.int)), some (.int k), some (.cell 0), some (.int (D.length : Nat)), none, none] [.lst false ((res ++ [(D.length : Int)]).map Val.int)]), res ++ [(D.length : Int)], _, rfl, rfl, by simp; omega, fun i hi => ?_⟩
        · have g : bmV .append (.cell 0) [.int (D.length : Nat)] [.lst false (res.map Val.int)] = .ok .non [.lst false ((res ++ [(D.length : Int)]).map Val.int)] := by
            have : bmV .append (.cell 0) [.int (D.length : Nat)] [.lst false (res.map Val.int)] = if (res.map Val.int).length < lim then .ok .non [.lst false (res.map Val.int ++ [.int (D.length : Nat)])] else .no := rfl
            rw [this, if_pos hl, List.map_append]
            rfl
          have gt : bmTy .append [.lst false (res.map Val.int)] (.cell 0) = true := rfl
          simp only [saB, exSs_cons, exSs_nil, exS_ifs, List.set_cons_succ, List.set_cons_zero, hr, Res.out_ok, exS_expr, evE_bm, evE_var, List.getElem?_cons_succ, List.getElem?_cons_zero, Res.bind_ok, gt, if_true, evEs, g]
        · rcases List.mem_append.mp hi with h | h
          · exact k2 i h
          · rw [List.mem_singleton.mp h]
            omega)
  rw [rng_len] at c2
  refine ⟨res, ⟨by omega, c3⟩, ?_⟩
  have hlen : ∀ h, bltV h .len [.lst (ws.map valW)] = some (.int ws.length) := fun h => by simp [bltV, lenV]
  have s2 : exS (runF T m) (.for_ (.n 4) (.rng (.blt .len [(.fld (.var 0) 0)])) saB) [some (sndV ws), some (.lst (sts.map Val.int)), some (.int k), some (.cell 0), none, none, none] [.lst false []] = .nx [some (sndV ws), some (.lst (sts.map Val.int)), some (.int k), some (.cell 0), o4, none, none] [.lst false (res.map Val.int)] := by
    rw [for_fix (xs := rngV 0 ws.length) (k := ws.length + 1) (h1 := [.lst false []]) ?_ (by rw [rng_len]; omega)]
    · exact c1
    · have x1 : (-1000000 : Int) ≤ ws.length := by omega
      have x2 : (ws.length : Int) ≤ 1000000 := by omega
      simp [evEs, snd_fld, hlen, x1, x2]
  refine gives_cell (n := 0) (g := false) (h' := [.lst false (res.map Val.int)]) (by simp only [allData, snd_data, isData, ints_data]; rfl) ?_ rfl rfl (ints_data res)
  rw [runF_at (fn := ⟨3, 7, f9⟩) rfl rfl]
  have hrep : List.replicate (7 - 3) (none : Option Val) = [none, none, none, none] := rfl
  unfold saB saC at s2
  have s1 : exS (runF T m) (.set 3 (.keep false (.lst []))) [some (sndV ws), some (.lst (sts.map Val.int)), some (.int k), none, none, none, none] [] = .nx [some (sndV ws), some (.lst (sts.map Val.int)), some (.int k), some (.cell 0), none, none, none] [.lst false []] := by
    simp [keepR]
  simp only [f9, hrep, List.map_cons, List.map_nil, List.cons_append, List.nil_append, exSs_cons, s1, s2]
  simp
theorem behind_ok {m i : Nat} {ws : List (List (Int × Int))} {w : List Int} (ok : OkW ws) (hi : i < ws.length) (hw : ∀ x ∈ w, okIx x 3 = true) : ∃ res, okSt ws.length res ∧ Gives (runF T (m + 4)) 7 [sndV ws, .int i, .lst (w.map Val.int)] (.lst (res.map Val.int)) := by
  obtain ⟨e', h', c1, res, o4, rfl, rfl, c2⟩ := for_thru (bind := fun x e h => bindT h (.n 4) x e) (body := fun e h => exSs (runF T (m + 3)) [(.set 3 (.call 9 [(.var 0), (.var 3), (.var 4)]))] e h) (xs := w.map Val.int) (e := [some (sndV ws), some (.int i), some (.lst (w.map Val.int)), some (.lst [.int i]), none]) (h := [])
    (fun D e h => ∃ res o4, e = [some (sndV ws), some (.int i), some (.lst (w.map Val.int)), some (.lst (res.map Val.int)), o4] ∧ h = [] ∧ okSt ws.length res) ⟨[(i : Int)], none, rfl, rfl, (show (1 : Nat) ≤ 2 by decide), fun j hj => by rw [List.mem_singleton.mp hj]; omega⟩ (fun D x r e h hd ⟨res, o4, he, hh, k1⟩ => by
      have hx : x ∈ w.map Val.int := by rw [hd]; simp
      obtain ⟨y, hy, rfl⟩ := List.mem_map.mp hx
      subst he hh
      obtain ⟨res', r1, r2⟩ := after_ok (m := m + 2) (k := y) ok k1
      have q := r2 []
      refine ⟨_, _, _, rfl, .inl ?_, res', some (.int y), rfl, rfl, r1⟩
      simp [evEs, q])
  refine ⟨res, c2, ?_⟩
  have hlen : ∀ h, bltV h .len [.lst (ws.map valW)] = some (.int ws.length) := fun h => by simp [bltV, lenV]
  have ga := @g1 (m + 1) i ws.length []
  have hx : okIx (i : Int) (ws.length : Int) = true := okIx_iff.mpr ⟨by omega, by omega⟩
  rw [hx] at ga
  have gb := g2 (n := m) hw []
  have l1 : (1 : Nat) ≤ lim := by decide
  have s4 : exS (runF T (m + 3)) (.for_ (.n 4) (.seq (.var 2)) [(.set 3 (.call 9 [(.var 0), (.var 3), (.var 4)]))]) [some (sndV ws), some (.int i), some (.lst (w.map Val.int)), some (.lst [.int i]), none] [] = .nx [some (sndV ws), some (.int i), some (.lst (w.map Val.int)), some (.lst (res.map Val.int)), o4] [] := by
    rw [for_fix (xs := w.map Val.int) (k := (w.map Val.int).length + 1) (h1 := []) (by simp) (Nat.le_refl _)]
    exact c1
  refine gives_data (h' := []) (by simp only [allData, snd_data, isData, ints_data]; rfl) ?_ rfl (by simp only [isData, ints_data])
  rw [runF_at (fn := ⟨3, 5, f7⟩) rfl rfl]
  have hrep : List.replicate (5 - 3) (none : Option Val) = [none, none] := rfl
  have s1 : exS (runF T (m + 3)) (.ifs (.not (.call 1 [(.var 1), (.blt .len [(.fld (.var 0) 0)])])) [.dead] []) [some (sndV ws), some (.int i), some (.lst (w.map Val.int)), none, none] [] = .nx [some (sndV ws), some (.int i), some (.lst (w.map Val.int)), none, none] [] := by
    simp [evEs, snd_fld, hlen, ga]
  have s2 : exS (runF T (m + 3)) (.ifs (.not (.call 2 [(.var 2), (.con (.int 3))])) [.dead] []) [some (sndV ws), some (.int i), some (.lst (w.map Val.int)), none, none] [] = .nx [some (sndV ws), some (.int i), some (.lst (w.map Val.int)), none, none] [] := by
    simp [evEs, Cst.val, gb]
  have s3 : exS (runF T (m + 3)) (.set 3 (.lst [(.var 1)])) [some (sndV ws), some (.int i), some (.lst (w.map Val.int)), none, none] [] = .nx [some (sndV ws), some (.int i), some (.lst (w.map Val.int)), some (.lst [.int i]), none] [] := by
    simp [evEs, l1]
  simp only [f7, hrep, List.map_cons, List.map_nil, List.cons_append, List.nil_append, exSs_cons, s1, s2, s3, s4]
  simp
theorem lets_ok {m : Nat} {ws : List (List (Int × Int))} {w : List Int} (ok : OkW ws) (hw : ∀ x ∈ w, okIx x 3 = true) : ∃ r, Gives (runF T (m + 5)) 8 [sndV ws, .lst (w.map Val.int)] (.bl r) := by
  obtain ⟨res, _, g⟩ := behind_ok (m := m) (i := 0) ok (by rcases ok.len with h | h <;> omega) hw
  have q := g []
  refine ⟨decide ((0 : Int) < res.length), gives_data (h' := []) (by simp only [allData, snd_data, isData, ints_data]; rfl) ?_ rfl rfl⟩
  rw [runF_at (fn := ⟨2, 2, f8⟩) rfl rfl]
  have hlen : ∀ h, bltV h .len [.lst (res.map Val.int)] = some (.int res.length) := fun h => by simp [bltV, lenV]
  have q : region (runF T (m + 4)) 7 none [sndV ws, .int 0, .lst (w.map Val.int)] [] = .ok (.lst (res.map Val.int)) [] := q
  simp [f8, evEs, Cst.val, snd_cls, q, hlen, show ∀ (h : Hv) (a b : Int), cmpV h .gt (.int a) (.int b) = some (decide (b < a)) from fun _ _ _ => rfl]
end LawT

set_option linter.all false
set_option Elab.async false
set_option maxRecDepth 100000
set_option maxHeartbeats 1000000
namespace LawT
open PySem PySem.Spec PyProof.Rows L2 Pv
theorem pairs_lay (l : List (Int × Int)) : PyData.canLayAll0 (l.map fun p => PyData.tuple [.int p.1, .int p.2]) = true := by
  induction l with
  | nil => rfl
  | cons p l ih => simp [PyData.canLayAll0, PyData.canLay0, ih]
theorem ints_lay (l : List Int) : PyData.canLayAll0 (l.map PyData.int) = true := by
  induction l with
  | nil => rfl
  | cons p l ih => simp [PyData.canLayAll0, PyData.canLay0, ih]
theorem eq_ways {h : Hv} (l : List (Int × Int)) : cmpV h .ne (valW l) (valW l) = some false := by
  have e3 : toPD h 30 (valW l) = some (.list (l.map fun p => .tuple [.int p.1, .int p.2])) := by
    have : toPD h 30 (valW l) = (mapO (toPD h 29) (l.map pairV)).map PyData.list := rfl
    rw [this, toPD_pairs (k := 28) l]
    rfl
  have e4 : eqD h (valW l) (valW l) = some true := by
    unfold eqD
    rw [e3]
    dsimp only
    rw [PySem.SeqAt.eqv_refl _ (by simp only [PyData.canLay0]; exact pairs_lay l)]
  show (eqD h (valW l) (valW l)).map (!·) = _
  rw [e4]
  rfl
theorem eq_ints {h : Hv} (l : List Int) : cmpV h .ne (.lst (l.map Val.int)) (.lst (l.map Val.int)) = some false := by
  have hm : mapO (toPD h 29) (l.map Val.int) = some (l.map PyData.int) := by
    induction l with
    | nil => rfl
    | cons p l ih => simp only [List.map_cons, mapO, ih]; rfl
  have e3 : toPD h 30 (.lst (l.map Val.int)) = some (.list (l.map PyData.int)) := by
    have : toPD h 30 (.lst (l.map Val.int)) = (mapO (toPD h 29) (l.map Val.int)).map PyData.list := rfl
    rw [this, hm]
    rfl
  have e4 : eqD h (.lst (l.map Val.int)) (.lst (l.map Val.int)) = some true := by
    unfold eqD
    rw [e3]
    dsimp only
    rw [PySem.SeqAt.eqv_refl _ (by simp only [PyData.canLay0]; exact ints_lay l)]
  show (eqD h (.lst (l.map Val.int)) (.lst (l.map Val.int))).map (!·) = _
  rw [e4]
  rfl
theorem joinL_lt {S : List Nat} (hS : ∀ c ∈ S, c < 0x110000) : ∀ (ps : List (List Nat)), (∀ p ∈ ps, ∀ c ∈ p, c < 0x110000) → ∀ c ∈ TL.joinL S ps, c < 0x110000
  | [], _, c, h => by cases h
  | [p], hp, c, h => hp p (by simp) c h
  | p :: q :: r, hp, c, h => by
    rcases List.mem_append.mp h with h | h
    · exact hp p (by simp) c h
    · rcases List.mem_append.mp h with h | h
      · exact hS c h
      · exact joinL_lt hS (q :: r) (fun z hz => hp z (List.mem_cons_of_mem _ hz)) c h
theorem strOk_iff {x : Str} : PyData.strOk x = true ↔ ∀ c ∈ x.cps.toList, c < 0x110000 := by
  unfold PyData.strOk
  rw [← Array.all_toList, List.all_eq_true]
  simp
theorem text_strOk {ws : List (List (Int × Int))} (ok : OkW ws) : PyData.strOk (textOf ws) = true := by
  rw [strOk_iff]
  intro c hc
  have e : (textOf ws).cps.toList = TL.joinL (TL.tl ("\n" : Str)) ((linesOf ws.length (partsOf ws 0)).map TL.tl) := by
    unfold textOf
    rw [TL.join_eq]
    exact TL.tl_join _ _
  rw [e] at hc
  refine joinL_lt (by decide +kernel) _ (fun p hp => ?_) c hc
  obtain ⟨x, hx, rfl⟩ := List.mem_map.mp hp
  exact strOk_iff.mp (lines_ok ok x hx).2.2
theorem eq_text {h : Hv} {ws : List (List (Int × Int))} (ok : OkW ws) : cmpV h .ne (.str (textOf ws)) (.str (textOf ws)) = some false := by
  show (eqD h (.str (textOf ws)) (.str (textOf ws))).map (!·) = _
  rw [eqD_str (text_strOk ok) (text_strOk ok)]
  simp
end LawT

set_option linter.all false
set_option Elab.async false
set_option maxRecDepth 100000
set_option maxHeartbeats 1000000
namespace LawT
open PySem PySem.Spec PyProof.Rows L2 Pv
def mlE : E := (.bin .add (.bin .add (.bin .add (.bin .add (.bin .add (.con (.str "way ")) (.blt .str [(.var 5)])) (.con (.str " "))) (.blt .str [(.ix (.var 9) (.con (.int 0)))])) (.con (.str " "))) (.blt .str [(.ix (.var 9) (.con (.int 1)))]))
def addS (a b : Str) : Option Str := if a.length + b.length ≤ lim then some (a ++ b) else none
def chkM (q : Int × (Int × Int)) : Bool := decide (q.1.natAbs.log2 < 1920) && decide (q.2.1.natAbs.log2 < 1920) && decide (q.2.2.natAbs.log2 < 1920) && decide (((((addS ("way " : Str) (numS q.1)).bind fun x => addS x (" " : Str)).bind fun x => addS x (numS q.2.1)).bind fun x => addS x (" " : Str)).bind (fun x => addS x (numS q.2.2)) = some (lineW q.1 q.2))
theorem chkM_all : (allW.all chkM) = true := by kernel_rfl
theorem add_S {h : Hv} {a b : Str} : binV h .add (.str a) (.str b) = (addS a b).map Val.str := by
  unfold addS
  simp only [binV]
  split <;> rfl
theorem str_S {h : Hv} {i : Int} (hi : i.natAbs.log2 < 1920) : bltV h .str [.int i] = some (.str (numS i)) := by
  simp only [bltV, if_pos hi]
  rfl
theorem ml_elt {cf : CF} {e : Pv.Env} {h : Hv} {s : Int} {p : Int × Int} (h5 : e[5]? = some (some (.int s))) (h9 : e[9]? = some (some (pairV p))) (hq : (s, p) ∈ allW) : evE cf mlE e h = .ok (.str (lineW s p)) h := by
  have a := chkM_all
  rw [List.all_eq_true] at a
  have b := a _ hq
  simp only [chkM, Bool.and_eq_true, decide_eq_true_eq] at b
  obtain ⟨⟨⟨b1, b2⟩, b3⟩, b4⟩ := b
  cases e1 : addS ("way " : Str) (numS s) with
  | none => rw [e1] at b4; cases b4
  | some x1 =>
    rw [e1] at b4
    simp only [Option.bind_some] at b4
    cases e2 : addS x1 (" " : Str) with
    | none => rw [e2] at b4; cases b4
    | some x2 =>
      rw [e2] at b4
      simp only [Option.bind_some] at b4
      cases e3 : addS x2 (numS p.1) with
      | none => rw [e3] at b4; cases b4
      | some x3 =>
        rw [e3] at b4
        simp only [Option.bind_some] at b4
        cases e4 : addS x3 (" " : Str) with
        | none => rw [e4] at b4; cases b4
        | some x4 =>
          rw [e4] at b4
          simp only [Option.bind_some] at b4
          have a0 : atV h (pairV p) (.int 0) = some (.int p.1) := rfl
          have a1 : atV h (pairV p) (.int 1) = some (.int p.2) := rfl
          simp only [mlE, evE_bin, evE_con, evE_blt, evE_ix, evE_var, evEs, h5, h9, Cst.val, Res.bind_ok, str_S b1, str_S b2, str_S b3, ofO_some, add_S, e1, e2, e3, e4, b4, a0, a1, Option.map_some]
def mlB : List S := [(.expr (.bm .append (.var 4) [mlE]))]
abbrev mlEnv (v0 v1 v2 v3 : Val) (s : Int) (o9 : Option Val) : Pv.Env := [some v0, some v1, some v2, some v3, some (.cell 1), some (.int s), none, none, none, o9, none, none, none, none]
theorem ml_inner {cf : CF} {P : Cell} {s : Int} {v0 v1 v2 v3 : Val} : ∀ (l : List (Int × Int)) (acc : List Val) (o9 : Option Val), (∀ p ∈ l, (s, p) ∈ allW) → acc.length + l.length ≤ lim →
    ∃ q9, forS (fun x e h => bindT h (.n 9) x e) (fun e h => exSs cf mlB e h) (l.map pairV) (mlEnv v0 v1 v2 v3 s o9) [P, .lst false acc] = .nx (mlEnv v0 v1 v2 v3 s q9) [P, .lst false (acc ++ l.map fun p => .str (lineW s p))]
  | [], acc, o9, h, hl => ⟨o9, by simp [forS]⟩
  | p :: l, acc, o9, h, hl => by
    have hacc : acc.length < lim := by simp at hl; omega
    obtain ⟨q9, ih⟩ := ml_inner (cf := cf) (P := P) (s := s) (v0 := v0) (v1 := v1) (v2 := v2) (v3 := v3) l (acc ++ [.str (lineW s p)]) (some (pairV p)) (fun r hr => h r (List.mem_cons_of_mem _ hr)) (by simp at hl ⊢; omega)
    refine ⟨q9, ?_⟩
    have hb : bindT [P, .lst false acc] (.n 9) (pairV p) (mlEnv v0 v1 v2 v3 s o9) = some (mlEnv v0 v1 v2 v3 s (some (pairV p))) := rfl
    have he := ml_elt (cf := cf) (e := mlEnv v0 v1 v2 v3 s (some (pairV p))) (h := [P, .lst false acc]) (s := s) (p := p) rfl rfl (h p (by simp))
    have hs : isStarE mlE = false := rfl
    have hbody : exSs cf mlB (mlEnv v0 v1 v2 v3 s (some (pairV p))) [P, .lst false acc] = .nx (mlEnv v0 v1 v2 v3 s (some (pairV p))) [P, .lst false (acc ++ [.str (lineW s p)])] := by
      have gt : bmTy .append [P, .lst false acc] (.cell 1) = true := rfl
      have g : bmV .append (.cell 1) [.str (lineW s p)] [P, .lst false acc] = .ok .non [P, .lst false (acc ++ [.str (lineW s p)])] := by
        have : bmV .append (.cell 1) [.str (lineW s p)] [P, .lst false acc] = if acc.length < lim then .ok .non [P, .lst false (acc ++ [.str (lineW s p)])] else .no := rfl
        rw [this, if_pos hacc]
      have h4 : (mlEnv v0 v1 v2 v3 s (some (pairV p)))[4]? = some (some (.cell 1)) := rfl
      simp only [mlB, exSs_cons, exSs_nil, exS_expr, evE_bm, evE_var, h4, Res.bind_ok, gt, if_true, evEs_one hs, he, evEs_nil, g, Res.out_ok]
    rw [List.map_cons, forS, hb]
    dsimp only
    rw [hbody]
    dsimp only
    rw [ih]
    simp
end LawT

set_option linter.all false
set_option Elab.async false
set_option maxRecDepth 100000
set_option maxHeartbeats 1000000
namespace LawT
open PySem PySem.Spec PyProof.Rows L2 Pv
def mlFor : S := (.for_ (.n 9) (.seq (.ix (.var 2) (.var 5))) mlB)
abbrev mlEnv0 (v0 v1 v2 v3 : Val) (o5 o9 : Option Val) : Pv.Env := [some v0, some v1, some v2, some v3, some (.cell 1), o5, none, none, none, o9, none, none, none, none]
theorem ml_turn {cf : CF} {P : Cell} {i : Nat} {ws : List (List (Int × Int))} {l : List (Int × Int)} {acc : List Val} {v0 v1 v3 : Val} {o9 : Option Val} (hi : ws[i]? = some l) (h : ∀ p ∈ l, ((i : Int), p) ∈ allW) (hl : acc.length + l.length ≤ lim) :
    ∃ q9, exSs cf [mlFor] (mlEnv0 v0 v1 (.lst (ws.map valW)) v3 (some (.int i)) o9) [P, .lst false acc] = .nx (mlEnv0 v0 v1 (.lst (ws.map valW)) v3 (some (.int i)) q9) [P, .lst false (acc ++ l.map fun p => .str (lineW i p))] := by
  obtain ⟨q9, ih⟩ := ml_inner (cf := cf) (P := P) (s := i) (v0 := v0) (v1 := v1) (v2 := .lst (ws.map valW)) (v3 := v3) l acc o9 h hl
  refine ⟨q9, ?_⟩
  have ha : ∀ h, atV h (.lst (ws.map valW)) (.int (i : Int)) = some (valW l) := fun h => by
    simp only [atV, seqs_lst]
    exact atI_nat (by rw [List.getElem?_map, hi]; rfl)
  have hf : exS cf mlFor (mlEnv0 v0 v1 (.lst (ws.map valW)) v3 (some (.int i)) o9) [P, .lst false acc] = .nx (mlEnv0 v0 v1 (.lst (ws.map valW)) v3 (some (.int i)) q9) [P, .lst false (acc ++ l.map fun p => .str (lineW i p))] := by
    unfold mlFor
    rw [for_fix (xs := l.map pairV) (k := (l.map pairV).length + 1) (h1 := [P, .lst false acc]) ?_ (Nat.le_refl _)]
    · exact ih
    · simp [ha, valW]
  rw [exSs_cons, hf]
  simp
theorem ml_outer {cf : CF} {P : Cell} {ws : List (List (Int × Int))} (ok : OkW ws) {acc : List Val} {v0 v1 v3 : Val} (hl : acc.length + 2000 ≤ lim) :
    ∃ q5 q9, forS (fun x e h => bindT h (.n 5) x e) (fun e h => exSs cf [mlFor] e h) (rngV 0 ws.length) (mlEnv0 v0 v1 (.lst (ws.map valW)) v3 none none) [P, .lst false acc] = .nx (mlEnv0 v0 v1 (.lst (ws.map valW)) v3 q5 q9) [P, .lst false (acc ++ (partsOf ws 0).map fun q => .str (lineW q.1 q.2))] := by
  have hin := parts_in ws 0 ws.length (okW_two ok).1 (by have := (okW_two ok).2; omega) ok.line
  have few := ok.few
  rcases shape12 ok.len rfl with ⟨_, A, rfl⟩ | ⟨_, A, B, rfl⟩
  · have fA := few A (by simp)
    obtain ⟨q9, t1⟩ := ml_turn (cf := cf) (P := P) (i := 0) (ws := [A]) (l := A) (acc := acc) (v0 := v0) (v1 := v1) (v3 := v3) (o9 := none) rfl (fun p hp => hin (0, p) (by simp [partsOf, hp])) (by omega)
    refine ⟨some (.int ((0 : Nat) : Int)), q9, ?_⟩
    have r1 : rngV 0 [A].length = [.int ((0 : Nat) : Int)] := rfl
    rw [r1, forS]
    simp only [bindT]
    simp only [mlEnv0, List.set_cons_succ, List.set_cons_zero] at t1 ⊢
    rw [t1]
    simp [forS, partsOf]
  · have fA := few A (by simp)
    have fB := few B (by simp)
    obtain ⟨q9, t1⟩ := ml_turn (cf := cf) (P := P) (i := 0) (ws := [A, B]) (l := A) (acc := acc) (v0 := v0) (v1 := v1) (v3 := v3) (o9 := none) rfl (fun p hp => hin (0, p) (by simp [partsOf, hp])) (by omega)
    obtain ⟨r9, t2⟩ := ml_turn (cf := cf) (P := P) (i := 1) (ws := [A, B]) (l := B) (acc := acc ++ A.map fun p => .str (lineW (0 : Nat) p)) (v0 := v0) (v1 := v1) (v3 := v3) (o9 := q9) rfl (fun p hp => hin (1, p) (by simp [partsOf, hp])) (by simp; omega)
    refine ⟨some (.int ((1 : Nat) : Int)), r9, ?_⟩
    have r1 : rngV 0 [A, B].length = [.int ((0 : Nat) : Int), .int ((1 : Nat) : Int)] := rfl
    rw [r1, forS]
    simp only [bindT]
    simp only [mlEnv0, List.set_cons_succ, List.set_cons_zero] at t1 t2 ⊢
    rw [t1]
    dsimp only
    rw [forS]
    simp only [bindT]
    simp only [List.set_cons_succ, List.set_cons_zero]
    rw [t2]
    simp [forS, partsOf]
    rfl
end LawT

set_option linter.all false
set_option Elab.async false
set_option maxRecDepth 100000
set_option maxHeartbeats 1000000
namespace LawT
open PySem PySem.Spec PyProof.Rows L2 Pv
def wdE : E := .call 18 [(.var 10), (.con (.int 3))]
theorem word_lc {m n : Nat} {H : Hv} {g : Bool} {c d : Int} {e : Pv.Env} (he : e[10]? = some (some (.cell H.length))) (hn : n < 100) : ∀ (k i : Nat) (acc : List Int) (a b : Int), i ≤ n → n + 1 ≤ i + k → acc.length ≤ i → (∀ x ∈ acc, okIx x 3 = true) →
    ∃ (w : List Int) (a' b' : Int), lcL (lcF (fun e h => evE (runF T (m + 1)) (.con (.bl true)) e h) (fun e h => evE (runF T (m + 1)) wdE e h) [13] (.n 13) e) (fun _ => some (rngV 0 n)) k i (H ++ [poolC g a b c d]) (acc.map Val.int) = .ok (.lst (w.map Val.int)) (H ++ [poolC g a' b' c d]) ∧ ∀ x ∈ w, okIx x 3 = true
  | 0, i, acc, a, b, h1, h2, h3, h4 => by omega
  | k + 1, i, acc, a, b, h1, h2, h3, h4 => by
    rw [lcL, srcAt_fix (by rw [rng_len]; exact h1)]
    by_cases hi : i < n
    · obtain ⟨x, hx⟩ : ∃ x, (rngV 0 n)[i]? = some x := ⟨_, List.getElem?_eq_getElem (by rw [rng_len]; exact hi)⟩
      rw [hx]
      dsimp only
      obtain ⟨r, a1, b1, r0, r1, e1⟩ := draw_call (m := m) (k := H.length) (h := H ++ [poolC g a b c d]) (g := g) (a := a) (b := b) (c := c) (d := d) (n := 3) (by simp) (by decide) (by decide)
      have hset : (H ++ [poolC g a b c d]).set H.length (poolC g a1 b1 c d) = H ++ [poolC g a1 b1 c d] := by simp
      rw [hset] at e1
      have hf : lcF (fun e h => evE (runF T (m + 1)) (.con (.bl true)) e h) (fun e h => evE (runF T (m + 1)) wdE e h) [13] (.n 13) e x (H ++ [poolC g a b c d]) = .ok (some (.int r)) (H ++ [poolC g a1 b1 c d]) := by
        have h10 : (((wipeE e [13]).set 13 (some x)))[10]? = some (some (.cell H.length)) := by
          show ((e.set 13 none).set 13 (some x))[10]? = _
          rw [List.getElem?_set_ne (by decide), List.getElem?_set_ne (by decide)]
          exact he
        unfold lcF
        simp only [bindT, evE_con, Cst.val, Res.bind_ok, wdE, evE_call, evEs, evE_var, h10, e1]
      rw [hf]
      dsimp only
      rw [if_pos (by rw [List.length_map, show lim = 1000000 from rfl]; omega)]
      obtain ⟨w, a2, b2, ih, hw⟩ := word_lc (m := m) (H := H) (g := g) (c := c) (d := d) he hn k (i + 1) (acc ++ [r]) a1 b1 hi (by omega) (by simp; omega) (fun y hy => by
        rcases List.mem_append.mp hy with h | h
        · exact h4 y h
        · rw [List.mem_singleton.mp h]
          exact okIx_iff.mpr ⟨r0, r1⟩)
      rw [List.map_append] at ih
      exact ⟨w, a2, b2, ih, hw⟩
    · have : i = n := by omega
      subst this
      rw [List.getElem?_eq_none (by rw [rng_len]; omega)]
      exact ⟨acc, a, b, rfl, h4⟩
abbrev wdEnv (v0 v1 v2 v3 v4 : Val) (o5 : Option Val) (v6 v7 : Val) (k : Int) (o9 o10 o11 : Option Val) : Pv.Env := [some v0, some v1, some v2, some v3, some v4, o5, some v6, some v7, some (.int k), o9, o10, o11, none, none]
def wdB : List S := [(.set 10 (.call 17 [(.var 0), (.bin .add (.con (.int 1)) (.var 8))])), (.set 11 (.lc [13] wdE (.n 13) (.rng (.call 18 [(.var 10), (.con (.int 10))])) (.con (.bl true)))), (.ifs (.cmp .ne (.meth 0 8 (.var 7) [(.var 11)]) (.meth 0 8 (.var 3) [(.var 11)])) [(.ret (.con (.bl false)))] []), (.ifs (.cmp .ne (.meth 0 7 (.var 7) [(.bin .mod (.var 8) (.blt .len [(.var 2)])), (.var 11)]) (.meth 0 7 (.var 3) [(.bin .mod (.var 8) (.blt .len [(.var 2)])), (.var 11)])) [(.ret (.con (.bl false)))] [])]
theorem word_turn {m k : Nat} {ns : List Int} {ws : List (List (Int × Int))} {v1 v4 v6 : Val} {o5 o9 o10 o11 : Option Val} {H : Hv} (ok : OkW ws) :
    ∃ q10 q11 H', exSs (runF T (m + 5)) wdB (wdEnv (.frz (ns.map Val.int)) v1 (.lst (ws.map valW)) (sndV ws) v4 o5 v6 (sndV ws) (k : Nat) o9 o10 o11) H = .nx (wdEnv (.frz (ns.map Val.int)) v1 (.lst (ws.map valW)) (sndV ws) v4 o5 v6 (sndV ws) (k : Nat) o9 q10 q11) H' := by
  obtain ⟨a, b, c, d, e1⟩ := pool_call (m := m + 4) (k := 1 + k) (ns := ns) (h := H)
  obtain ⟨r, a1, b1, r0, r1, e2⟩ := draw_call (m := m + 4) (k := H.length) (h := H ++ [poolC false a b c d]) (g := false) (a := a) (b := b) (c := c) (d := d) (n := 10) (by simp) (by decide) (by decide)
  have hset : (H ++ [poolC false a b c d]).set H.length (poolC false a1 b1 c d) = H ++ [poolC false a1 b1 c d] := by simp
  rw [hset] at e2
  obtain ⟨n, rfl⟩ := Int.eq_ofNat_of_zero_le r0
  obtain ⟨w, a2, b2, e3, hw⟩ := word_lc (m := m + 4) (n := n) (H := H) (g := false) (c := c) (d := d) (e := wdEnv (.frz (ns.map Val.int)) v1 (.lst (ws.map valW)) (sndV ws) v4 o5 v6 (sndV ws) (k : Nat) o9 (some (.cell H.length)) o11) rfl (by omega) (n + 1) 0 [] a1 b1 (Nat.zero_le _) (by omega) (Nat.le_refl _) (fun x hx => by cases hx)
  obtain ⟨b0, g8⟩ := lets_ok (m := m) ok hw
  have hlen := okW_two ok
  have hpos : 0 < ws.length := by rcases ok.len with h | h <;> omega
  obtain ⟨res, _, g7⟩ := behind_ok (m := m + 1) (i := k % ws.length) (w := w) ok (Nat.mod_lt _ hpos) hw
  refine ⟨some (.cell H.length), some (.lst (w.map Val.int)), H ++ [poolC false a2 b2 c d], ?_⟩
  have e1' : region (runF T (m + 5)) 17 none [.frz (ns.map Val.int), .int (1 + (k : Int))] H = .ok (.cell H.length) (H ++ [poolC false a b c d]) := by
    have : (((1 + k : Nat) : Int)) = 1 + (k : Int) := by omega
    rw [← this]
    exact e1
  have s1 : exS (runF T (m + 5)) (.set 10 (.call 17 [(.var 0), (.bin .add (.con (.int 1)) (.var 8))])) (wdEnv (.frz (ns.map Val.int)) v1 (.lst (ws.map valW)) (sndV ws) v4 o5 v6 (sndV ws) (k : Nat) o9 o10 o11) H = .nx (wdEnv (.frz (ns.map Val.int)) v1 (.lst (ws.map valW)) (sndV ws) v4 o5 v6 (sndV ws) (k : Nat) o9 (some (.cell H.length)) o11) (H ++ [poolC false a b c d]) := by
    simp [evEs, Cst.val, binV, e1']
  have s2 : exS (runF T (m + 5)) (.set 11 (.lc [13] wdE (.n 13) (.rng (.call 18 [(.var 10), (.con (.int 10))])) (.con (.bl true)))) (wdEnv (.frz (ns.map Val.int)) v1 (.lst (ws.map valW)) (sndV ws) v4 o5 v6 (sndV ws) (k : Nat) o9 (some (.cell H.length)) o11) (H ++ [poolC false a b c d]) = .nx (wdEnv (.frz (ns.map Val.int)) v1 (.lst (ws.map valW)) (sndV ws) v4 o5 v6 (sndV ws) (k : Nat) o9 (some (.cell H.length)) (some (.lst (w.map Val.int)))) (H ++ [poolC false a2 b2 c d]) := by
    have hi : evI (runF T (m + 5)) (.rng (.call 18 [(.var 10), (.con (.int 10))])) (wdEnv (.frz (ns.map Val.int)) v1 (.lst (ws.map valW)) (sndV ws) v4 o5 v6 (sndV ws) (k : Nat) o9 (some (.cell H.length)) o11) (H ++ [poolC false a b c d]) = .ok (n + 1, fun _ => some (rngV 0 n)) (H ++ [poolC false a1 b1 c d]) := by
      have x1 : (-1000000 : Int) ≤ n := by omega
      have x2 : (n : Int) ≤ 1000000 := by omega
      simp [evEs, Cst.val, e2, x1, x2]
    have hl : evE (runF T (m + 5)) (.lc [13] wdE (.n 13) (.rng (.call 18 [(.var 10), (.con (.int 10))])) (.con (.bl true))) (wdEnv (.frz (ns.map Val.int)) v1 (.lst (ws.map valW)) (sndV ws) v4 o5 v6 (sndV ws) (k : Nat) o9 (some (.cell H.length)) o11) (H ++ [poolC false a b c d]) = .ok (.lst (w.map Val.int)) (H ++ [poolC false a2 b2 c d]) := by
      rw [evE_lc, hi, Res.bind_ok]
      exact e3
    rw [exS_set, hl]
    rfl
  have g8' := g8 (H ++ [poolC false a2 b2 c d])
  have hne : ∀ h, cmpV h .ne (.bl b0) (.bl b0) = some false := fun h => by cases b0 <;> rfl
  have s3 : exS (runF T (m + 5)) (.ifs (.cmp .ne (.meth 0 8 (.var 7) [(.var 11)]) (.meth 0 8 (.var 3) [(.var 11)])) [(.ret (.con (.bl false)))] []) (wdEnv (.frz (ns.map Val.int)) v1 (.lst (ws.map valW)) (sndV ws) v4 o5 v6 (sndV ws) (k : Nat) o9 (some (.cell H.length)) (some (.lst (w.map Val.int)))) (H ++ [poolC false a2 b2 c d]) = .nx (wdEnv (.frz (ns.map Val.int)) v1 (.lst (ws.map valW)) (sndV ws) v4 o5 v6 (sndV ws) (k : Nat) o9 (some (.cell H.length)) (some (.lst (w.map Val.int)))) (H ++ [poolC false a2 b2 c d]) := by
    simp [evEs, snd_cls, g8', hne]
  have hln : ∀ h, bltV h .len [.lst (ws.map valW)] = some (.int ws.length) := fun h => by simp [bltV, lenV]
  have hm : ∀ h, binV h .mod (.int (k : Int)) (.int (ws.length : Int)) = some (.int ((k % ws.length : Nat) : Int)) := fun h => by
    have : (0 : Int) < ws.length := by omega
    show (if (0 : Int) < ws.length then some (Val.int ((k : Int) % ws.length)) else none) = _
    rw [if_pos this]
    rfl
  have g7' := g7 (H ++ [poolC false a2 b2 c d])
  have s4 : exS (runF T (m + 5)) (.ifs (.cmp .ne (.meth 0 7 (.var 7) [(.bin .mod (.var 8) (.blt .len [(.var 2)])), (.var 11)]) (.meth 0 7 (.var 3) [(.bin .mod (.var 8) (.blt .len [(.var 2)])), (.var 11)])) [(.ret (.con (.bl false)))] []) (wdEnv (.frz (ns.map Val.int)) v1 (.lst (ws.map valW)) (sndV ws) v4 o5 v6 (sndV ws) (k : Nat) o9 (some (.cell H.length)) (some (.lst (w.map Val.int)))) (H ++ [poolC false a2 b2 c d]) = .nx (wdEnv (.frz (ns.map Val.int)) v1 (.lst (ws.map valW)) (sndV ws) v4 o5 v6 (sndV ws) (k : Nat) o9 (some (.cell H.length)) (some (.lst (w.map Val.int)))) (H ++ [poolC false a2 b2 c d]) := by
    rw [exS_ifs]
    simp only [evE_cmp, evE_meth, evE_var, List.getElem?_cons_succ, List.getElem?_cons_zero, Res.bind_ok, snd_cls, if_true, evEs, evE_bin, evE_blt, hln, ofO_some, hm, g7', eq_ints, Option.map_some, Res.out_ok, exSs_nil]
  simp only [wdB, exSs_cons, exSs_nil, s1, s2, s3, s4]
end LawT

set_option linter.all false
set_option Elab.async false
set_option maxRecDepth 100000
set_option maxHeartbeats 1000000
namespace LawT
open PySem PySem.Spec PyProof.Rows L2 Pv
theorem words_loop {ns : List Int} {ws : List (List (Int × Int))} {v1 v4 v6 : Val} {o5 o9 : Option Val} {H : Hv} (ok : OkW ws) :
    ∃ e' H', forS (fun x e h => bindT h (.n 8) x e) (fun e h => exSs (runF T 9) wdB e h) (rngV 0 12) [some (.frz (ns.map Val.int)), some v1, some (.lst (ws.map valW)), some (sndV ws), some v4, o5, some v6, some (sndV ws), none, o9, none, none, none, none] H = .nx e' H' := by
  obtain ⟨e', h', c1, _⟩ := for_thru (bind := fun x e h => bindT h (.n 8) x e) (body := fun e h => exSs (runF T 9) wdB e h) (xs := rngV 0 12) (e := [some (.frz (ns.map Val.int)), some v1, some (.lst (ws.map valW)), some (sndV ws), some v4, o5, some v6, some (sndV ws), none, o9, none, none, none, none]) (h := H)
    (fun D e h => ∃ o8 o10 o11, e = [some (.frz (ns.map Val.int)), some v1, some (.lst (ws.map valW)), some (sndV ws), some v4, o5, some v6, some (sndV ws), o8, o9, o10, o11, none, none]) ⟨none, none, none, rfl⟩ (fun D x r e h hd ⟨o8, o10, o11, he⟩ => by
      obtain ⟨rfl, hD⟩ := rng_split hd
      subst he
      obtain ⟨q10, q11, H', t⟩ := word_turn (m := 4) (k := D.length) (ns := ns) (ws := ws) (v1 := v1) (v4 := v4) (v6 := v6) (o5 := o5) (o9 := o9) (o10 := o10) (o11 := o11) (H := h) ok
      exact ⟨_, _, _, rfl, .inl t, some (.int (D.length : Nat)), q10, q11, rfl⟩)
  exact ⟨e', h', c1⟩
def mlHead : E := (.bin .add (.con (.str "states ")) (.blt .str [(.blt .len [(.var 2)])]))
theorem hdr_main {cf : CF} {e : Pv.Env} {h : Hv} {ws : List (List (Int × Int))} (h2 : e[2]? = some (some (.lst (ws.map valW)))) (hS : ws.length = 1 ∨ ws.length = 2) : evE cf mlHead e h = .ok (.str (hdr ws.length)) h := by
  have hln : ∀ h, bltV h .len [.lst (ws.map valW)] = some (.int ws.length) := fun h => by simp [bltV, lenV]
  have hb : bltV h .str [.int ws.length] = some (.str (numS ws.length)) := str_S (by rcases hS with h | h <;> rw [h] <;> decide)
  have ha : addS ("states " : Str) (numS ws.length) = some (hdr ws.length) := by rcases hS with h | h <;> rw [h] <;> kernel_rfl
  simp only [mlHead, evE_bin, evE_con, evE_blt, evE_var, evEs, h2, Cst.val, Res.bind_ok, hln, hb, ofO_some, add_S, ha, Option.map_some]
theorem law_run (ns : List Int) : ∃ h, runF T 10 20 [.frz (ns.map Val.int)] [] = .ok (.bl true) h := by
  obtain ⟨a, b, c, d, p1⟩ := pool_call (m := 8) (k := 0) (ns := ns) (h := [])
  obtain ⟨r, a1, b1, r0, r1, p2⟩ := draw_call (m := 8) (k := 0) (h := [poolC false a b c d]) (g := false) (a := a) (b := b) (c := c) (d := d) (n := 3) rfl (by decide) (by decide)
  obtain ⟨K, hK⟩ : ∃ K : Nat, 1 + r = (K : Int) := ⟨(1 + r).toNat, by omega⟩
  obtain ⟨a2, b2, ws, ok, p3⟩ := ways_call (m := 7) (k := 0) (h := [poolC false a1 b1 c d]) (g := false) (a := a1) (b := b1) (c := c) (d := d) (K := K) rfl (by omega)
  simp only [List.set_cons_zero] at p2 p3
  obtain ⟨P, hP⟩ : ∃ P, poolC false a2 b2 c d = P := ⟨_, rfl⟩
  rw [hP] at p3
  have hw := okW_two ok
  have hln : ∀ h, bltV h .len [.lst (ws.map valW)] = some (.int ws.length) := fun h => by simp [bltV, lenV]
  have p4 : ∀ h, region (runF T 9) 4 (some (0, false)) [.lst (ws.map valW)] h = .ok (sndV ws) h := fun h => sender_new (m := 5) ok
  have p5 : ∀ h, region (runF T 9) 11 none [sndV ws] h = .ok (.str (textOf ws)) h := fun h => text_ok (m := 5) ok h
  have p6 : ∀ h, region (runF T 9) 16 none [.str (textOf ws)] h = .ok (sndV ws) h := fun h => read_text (m := 4) ok h
  have p7 : ∀ h, region (runF T 9) 5 none [sndV ws] h = .ok (.int ws.length) h := fun h => count_ok (m := 8) h
  have l2 : (2 : Nat) ≤ lim := by decide
  obtain ⟨q5, q9, ml⟩ := ml_outer (cf := runF T 9) (P := P) ok (acc := [.str "sender", .str (hdr ws.length)]) (v0 := .frz (ns.map Val.int)) (v1 := .cell 0) (v3 := sndV ws) (by show (2 : Nat) + 2000 ≤ lim; decide)
  have s1 : exS (runF T 9) (.set 1 (.call 17 [(.var 0), (.con (.int 0))])) [some (.frz (ns.map Val.int)), none, none, none, none, none, none, none, none, none, none, none, none, none] [] = .nx [some (.frz (ns.map Val.int)), some (.cell 0), none, none, none, none, none, none, none, none, none, none, none, none] [poolC false a b c d] := by
    have p1 : region (runF T 9) 17 none [.frz (ns.map Val.int), .int 0] [] = .ok (.cell 0) [poolC false a b c d] := p1
    simp [evEs, Cst.val, p1]
  have s2 : exS (runF T 9) (.set 2 (.call 19 [(.var 1), (.bin .add (.con (.int 1)) (.call 18 [(.var 1), (.con (.int 3))]))])) [some (.frz (ns.map Val.int)), some (.cell 0), none, none, none, none, none, none, none, none, none, none, none, none] [poolC false a b c d] = .nx [some (.frz (ns.map Val.int)), some (.cell 0), some (.lst (ws.map valW)), none, none, none, none, none, none, none, none, none, none, none] [P] := by
    simp [evEs, Cst.val, p2, binV, hK, p3]
  have s3 : exS (runF T 9) (.set 3 (.new 0 4 false [(.lc [12] (.blt .list [(.var 12)]) (.n 12) (.seq (.var 2)) (.con (.bl true)))])) [some (.frz (ns.map Val.int)), some (.cell 0), some (.lst (ws.map valW)), none, none, none, none, none, none, none, none, none, none, none] [P] = .nx [some (.frz (ns.map Val.int)), some (.cell 0), some (.lst (ws.map valW)), some (sndV ws), none, none, none, none, none, none, none, none, none, none] [P] := by
    have hl : evE (runF T 9) (.lc [12] (.blt .list [(.var 12)]) (.n 12) (.seq (.var 2)) (.con (.bl true))) [some (.frz (ns.map Val.int)), some (.cell 0), some (.lst (ws.map valW)), none, none, none, none, none, none, none, none, none, none, none] [P] = .ok (.lst (ws.map valW)) [P] := by
      have := lc_map (cf := runF T 9) (e := [some (.frz (ns.map Val.int)), some (.cell 0), some (.lst (ws.map valW)), none, none, none, none, none, none, none, none, none, none, none]) (h := [P]) (h1 := [P]) (vs := [12]) (elt := .blt .list [(.var 12)]) (tg := .n 12) (it := .seq (.var 2)) (xs := ws.map valW) (k := (ws.map valW).length + 1) (by simp) (Nat.le_refl _) (by rw [List.length_map, show lim = 1000000 from rfl]; omega) id (fun x hx => by
        obtain ⟨l, _, rfl⟩ := List.mem_map.mp hx
        exact ⟨_, rfl, by simp [wipeE, evEs, bltV, valW]⟩)
      rw [List.map_id] at this
      exact this
    simp [evEs, hl, p4]
  have s4 : exS (runF T 9) (.set 4 (.keep false (.lst [(.con (.str "sender")), mlHead]))) [some (.frz (ns.map Val.int)), some (.cell 0), some (.lst (ws.map valW)), some (sndV ws), none, none, none, none, none, none, none, none, none, none] [P] = .nx (mlEnv0 (.frz (ns.map Val.int)) (.cell 0) (.lst (ws.map valW)) (sndV ws) none none) [P, .lst false [.str "sender", .str (hdr ws.length)]] := by
    have hh := hdr_main (cf := runF T 9) (e := [some (.frz (ns.map Val.int)), some (.cell 0), some (.lst (ws.map valW)), some (sndV ws), none, none, none, none, none, none, none, none, none, none]) (h := [P]) rfl ok.len
    have hs : isStarE mlHead = false := rfl
    simp only [exS_set, evE_keep, evE_lst, evEs_one (show isStarE (.con (.str "sender")) = false from rfl), evEs_one hs, evE_con, Cst.val, hh, Res.bind_ok, evEs_nil, List.length_cons, List.length_nil, Nat.zero_add, Nat.reduceAdd, l2, if_true, keepR]
    rfl
  have s5 : exS (runF T 9) (.for_ (.n 5) (.rng (.blt .len [(.var 2)])) [mlFor]) (mlEnv0 (.frz (ns.map Val.int)) (.cell 0) (.lst (ws.map valW)) (sndV ws) none none) [P, .lst false [.str "sender", .str (hdr ws.length)]] = .nx (mlEnv0 (.frz (ns.map Val.int)) (.cell 0) (.lst (ws.map valW)) (sndV ws) q5 q9) [P, .lst false ((linesOf ws.length (partsOf ws 0)).map .str)] := by
    have hs : ([.str "sender", .str (hdr ws.length)] ++ (partsOf ws 0).map fun q => Val.str (lineW q.1 q.2)) = (linesOf ws.length (partsOf ws 0)).map .str := by
      simp [linesOf]
    rw [for_fix (xs := rngV 0 ws.length) (k := ws.length + 1) (h1 := [P, .lst false [.str "sender", .str (hdr ws.length)]]) ?_ (by rw [rng_len]; omega), ml, hs]
    · have x1 : (-1000000 : Int) ≤ ws.length := by omega
      have x2 : (ws.length : Int) ≤ 1000000 := by omega
      simp [evEs, hln, x1, x2]
  have hj : bmV .join (.str "\n") [.cell 1] [P, .lst false ((linesOf ws.length (partsOf ws 0)).map .str)] = .ok (.str (textOf ws)) [P, .lst false ((linesOf ws.length (partsOf ws 0)).map .str)] := by
    have := lines_sum ok
    have hle : ((linesOf ws.length (partsOf ws 0)).map (·.length)).sum + (linesOf ws.length (partsOf ws 0)).length * ("\n" : Str).length ≤ lim := by
      rw [show lim = 1000000 from rfl]
      omega
    unfold bmV
    dsimp only
    rw [seqs_cell (n := 1) (g := false) rfl]
    dsimp only
    rw [strs_of]
    dsimp only
    rw [if_pos hle]
    rfl
  have s6 : exS (runF T 9) (.set 6 (.bm .join (.con (.str "\n")) [(.var 4)])) (mlEnv0 (.frz (ns.map Val.int)) (.cell 0) (.lst (ws.map valW)) (sndV ws) q5 q9) [P, .lst false ((linesOf ws.length (partsOf ws 0)).map .str)] = .nx [some (.frz (ns.map Val.int)), some (.cell 0), some (.lst (ws.map valW)), some (sndV ws), some (.cell 1), q5, some (.str (textOf ws)), none, none, q9, none, none, none, none] [P, .lst false ((linesOf ws.length (partsOf ws 0)).map .str)] := by
    simp only [exS_set, evE_bm, evE_con, Cst.val, Res.bind_ok, bmTy, if_true, evEs, evE_var, List.getElem?_cons_succ, List.getElem?_cons_zero, hj, Res.out_ok]
    rfl
  have s7 : exS (runF T 9) (.ifs (.cmp .ne (.call 11 [(.var 3)]) (.var 6)) [(.ret (.con (.bl false)))] []) [some (.frz (ns.map Val.int)), some (.cell 0), some (.lst (ws.map valW)), some (sndV ws), some (.cell 1), q5, some (.str (textOf ws)), none, none, q9, none, none, none, none] [P, .lst false ((linesOf ws.length (partsOf ws 0)).map .str)] = .nx [some (.frz (ns.map Val.int)), some (.cell 0), some (.lst (ws.map valW)), some (sndV ws), some (.cell 1), q5, some (.str (textOf ws)), none, none, q9, none, none, none, none] [P, .lst false ((linesOf ws.length (partsOf ws 0)).map .str)] := by
    simp [evEs, p5, eq_text ok]
  have s8 : exS (runF T 9) (.set 7 (.call 16 [(.var 6)])) [some (.frz (ns.map Val.int)), some (.cell 0), some (.lst (ws.map valW)), some (sndV ws), some (.cell 1), q5, some (.str (textOf ws)), none, none, q9, none, none, none, none] [P, .lst false ((linesOf ws.length (partsOf ws 0)).map .str)] = .nx [some (.frz (ns.map Val.int)), some (.cell 0), some (.lst (ws.map valW)), some (sndV ws), some (.cell 1), q5, some (.str (textOf ws)), some (sndV ws), none, q9, none, none, none, none] [P, .lst false ((linesOf ws.length (partsOf ws 0)).map .str)] := by
    simp [evEs, p6]
  have hne : ∀ (h : Hv) (x : Int), cmpV h .ne (.int x) (.int x) = some false := fun h x => by
    show (eqD h (.int x) (.int x)).map (!·) = _
    rw [eqD_int]
    simp
  have s9 : exS (runF T 9) (.ifs (.bop false [(.cmp .ne (.meth 0 5 (.var 7) []) (.blt .len [(.var 2)])), (.cmp .ne (.call 11 [(.var 7)]) (.var 6))]) [(.ret (.con (.bl false)))] []) [some (.frz (ns.map Val.int)), some (.cell 0), some (.lst (ws.map valW)), some (sndV ws), some (.cell 1), q5, some (.str (textOf ws)), some (sndV ws), none, q9, none, none, none, none] [P, .lst false ((linesOf ws.length (partsOf ws 0)).map .str)] = .nx [some (.frz (ns.map Val.int)), some (.cell 0), some (.lst (ws.map valW)), some (sndV ws), some (.cell 1), q5, some (.str (textOf ws)), some (sndV ws), none, q9, none, none, none, none] [P, .lst false ((linesOf ws.length (partsOf ws 0)).map .str)] := by
    simp [evEs, snd_cls, p7, p5, hln, hne, eq_text ok]
  have s10 : ∃ r5, exS (runF T 9) (.for_ (.n 5) (.rng (.blt .len [(.var 2)])) [(.ifs (.cmp .ne (.meth 0 6 (.var 7) [(.var 5)]) (.ix (.var 2) (.var 5))) [(.ret (.con (.bl false)))] [])]) [some (.frz (ns.map Val.int)), some (.cell 0), some (.lst (ws.map valW)), some (sndV ws), some (.cell 1), q5, some (.str (textOf ws)), some (sndV ws), none, q9, none, none, none, none] [P, .lst false ((linesOf ws.length (partsOf ws 0)).map .str)] = .nx [some (.frz (ns.map Val.int)), some (.cell 0), some (.lst (ws.map valW)), some (sndV ws), some (.cell 1), r5, some (.str (textOf ws)), some (sndV ws), none, q9, none, none, none, none] [P, .lst false ((linesOf ws.length (partsOf ws 0)).map .str)] := by
    obtain ⟨e', h', c1, r5, rfl, rfl⟩ := for_thru (bind := fun x e h => bindT h (.n 5) x e) (body := fun e h => exSs (runF T 9) [(.ifs (.cmp .ne (.meth 0 6 (.var 7) [(.var 5)]) (.ix (.var 2) (.var 5))) [(.ret (.con (.bl false)))] [])] e h) (xs := rngV 0 ws.length) (e := [some (.frz (ns.map Val.int)), some (.cell 0), some (.lst (ws.map valW)), some (sndV ws), some (.cell 1), q5, some (.str (textOf ws)), some (sndV ws), none, q9, none, none, none, none]) (h := [P, .lst false ((linesOf ws.length (partsOf ws 0)).map .str)])
      (fun D e h => ∃ r5, e = [some (.frz (ns.map Val.int)), some (.cell 0), some (.lst (ws.map valW)), some (sndV ws), some (.cell 1), r5, some (.str (textOf ws)), some (sndV ws), none, q9, none, none, none, none] ∧ h = [P, .lst false ((linesOf ws.length (partsOf ws 0)).map .str)]) ⟨q5, rfl, rfl⟩ (fun D x r e h hd ⟨r5, he, hh⟩ => by
        obtain ⟨rfl, hD⟩ := rng_split hd
        subst he hh
        have hl : ws[D.length]? = some ws[D.length] := List.getElem?_eq_getElem hD
        have w1 : region (runF T 9) 6 none [sndV ws, .int (D.length : Nat)] [P, .lst false ((linesOf ws.length (partsOf ws 0)).map .str)] = .ok (valW ws[D.length]) [P, .lst false ((linesOf ws.length (partsOf ws 0)).map .str)] := ways_ok (m := 6) hl [P, .lst false ((linesOf ws.length (partsOf ws 0)).map .str)]
        have w2 : ∀ h, atV h (.lst (ws.map valW)) (.int (D.length : Nat)) = some (valW ws[D.length]) := fun h => by
          simp only [atV, seqs_lst]
          exact atI_nat (by rw [List.getElem?_map, hl]; rfl)
        refine ⟨_, _, _, rfl, .inl ?_, some (.int (D.length : Nat)), rfl, rfl⟩
        simp [evEs, snd_cls, w1, w2, eq_ways])
    refine ⟨r5, ?_⟩
    rw [for_fix (xs := rngV 0 ws.length) (k := ws.length + 1) (h1 := [P, .lst false ((linesOf ws.length (partsOf ws 0)).map .str)]) ?_ (by rw [rng_len]; omega), c1]
    have x1 : (-1000000 : Int) ≤ ws.length := by omega
    have x2 : (ws.length : Int) ≤ 1000000 := by omega
    simp [evEs, hln, x1, x2]
  obtain ⟨r5, s10⟩ := s10
  obtain ⟨e', H', wl⟩ := words_loop (ns := ns) (ws := ws) (v1 := .cell 0) (v4 := .cell 1) (v6 := .str (textOf ws)) (o5 := r5) (o9 := q9) (H := [P, .lst false ((linesOf ws.length (partsOf ws 0)).map .str)]) ok
  have s11 : exS (runF T 9) (.for_ (.n 8) (.rng (.con (.int 12))) wdB) [some (.frz (ns.map Val.int)), some (.cell 0), some (.lst (ws.map valW)), some (sndV ws), some (.cell 1), r5, some (.str (textOf ws)), some (sndV ws), none, q9, none, none, none, none] [P, .lst false ((linesOf ws.length (partsOf ws 0)).map .str)] = .nx e' H' := by
    rw [for_fix (xs := rngV 0 12) (k := 13) (h1 := [P, .lst false ((linesOf ws.length (partsOf ws 0)).map .str)]) ?_ (by rw [rng_len]; omega), wl]
    simp [Cst.val]
  refine ⟨H', ?_⟩
  rw [runF_at (fn := ⟨1, 14, f20⟩) rfl rfl]
  have hrep : List.replicate (14 - 1) (none : Option Val) = [none, none, none, none, none, none, none, none, none, none, none, none, none] := rfl
  unfold mlHead at s4
  unfold mlFor mlB mlE at s5
  unfold wdB wdE at s11
  simp only [f20, hrep, List.map_cons, List.map_nil, List.cons_append, List.nil_append, exSs_cons, s1, s2, s3, s4, s5, s6, s7, s8, s9, s10, s11, exS_ret, evE_con, Res.out_ok]
  rfl
end LawT

set_option linter.all false
set_option Elab.async false
set_option maxRecDepth 100000
set_option maxHeartbeats 0
namespace LawT
open PySem PySem.Spec PyProof.Rows L2 Pv
def ex : PySem.W.Frag → Bool := fun K => fxB nm ats K
def fn : List He.DefD := rows.map (·.d)
abbrev R : PySem.W.OpenRow := PySem.W.OpenLaw.row PySem.Challenge.rw_latecomers_k92_text_of_a_sender
abbrev hk : PySem.W.Hook := He.hookX 5 [] fn [] [] ex
def ob (s : PySem.W.SharedT) : He.AlX := He.obsX 5 [] fn [] [] ex (HandSHeadRun.getT s)
theorem ob_eq (s : PySem.W.SharedT) : ob s = hk.obs s.abs := He.obsX_eq (HandSHeadRun.getT_eq s)
theorem run (w : World) : HandSHeadRun.RunEq R (PySem.W.view R.prog [lawAt]) hk ob 12000 loose w := by
  intro os
  kernel_rfl
end LawT
open PySem PySem.W PySem.Calls PyProof.Rows
theorem holds_here (math : ∀ ns : List Int, ns.length ≤ 63 → (∀ k ∈ ns, Builtin.Int.intBits k ≤ 1048576) → ∃ h, Pv.runF (LawT.rows.map (·.fn)) 10 LawT.lawF [.frz (ns.map .int)] [] = .ok (.bl true) h) : PySem.Challenge.rw_latecomers_k92_text_of_a_sender.Holds := by
  w_on; o_law
  refine HandSHeadRun.head_any (r := OpenLaw.row PySem.Challenge.rw_latecomers_k92_text_of_a_sender) (q := view (OpenLaw.row PySem.Challenge.rw_latecomers_k92_text_of_a_sender).prog [LawT.lawAt]) (H := LawT.hk) (ob := LawT.ob) (M := 12000) (loose := LawT.loose) (d := HandSHeadRun.topDef (OpenLaw.row PySem.Challenge.rw_latecomers_k92_text_of_a_sender).prog LawT.lawAt) (kwd := []) LawT.ob_eq
    (by kernel_rfl) (fun s => by kernel_rfl) LawT.run (by kernel_rfl) (by kernel_rfl) (by kernel_rfl) (by rfl) (by first | assumption | decide +kernel) (by decide +kernel) ⟨rfl, rfl, rfl, rfl, rfl, by decide +kernel⟩ ?hw ?hc
  case hw => w_witness2
  case hc =>
    exact Pv.walk_end (l := PySem.Challenge.rw_latecomers_k92_text_of_a_sender) (rows := LawT.rows) (N := LawT.nm) (x := "_law_script") (f := LawT.lawF) (n := 10) (r := LawT.rLaw) rfl (by kernel_rfl) (by kernel_rfl) ⟨rfl, by decide, by decide⟩ LawT.rows_ok (fun K h => h) rfl rfl rfl math


theorem PySem.Challenge.cw_latecomers_k92_text_of_a_sender_holds : PySem.Challenge.rw_latecomers_k92_text_of_a_sender.Holds :=
  holds_here fun ns _ _ => LawT.law_run ns
