import PyProof.Rows.All
import Wide.All
import OpenK.AllK
import Wide.FinOn
import HandS.ForMost
import HandS.Wide
import HandS.WideBits
import KE.SortData
import PyProof.ReprReads
import HandS.Text
import HandS.SetFor
import PyProof.Rows.SetFrom
import HandS.TupAny
import HandS.Slots
import HandS.Style
import KE.KRevSl
import HandS.WordsExc
import HandS.Deep
import HandS.TupLe
import HandS.Defaults
import HandS.HeadEnd
import HandS.Flow
import HandS.CallSlots
import HandS.IsInst
import PyProof.ReprRoads
import HandS.Strs
import HandS.SortInts
import HandS.Walk
import HandS.Iter
import KE.GoesEnum
import PyProof.ReprLen
import KE.KStateDown
import Lean
import HandS.Base
import HandS.Call
import HandS.Ends
import HandS.More
import HandS.Words
import HandS.Head0
import HandS.Head1
import HandS.Head2
import HandS.HeadHook1
import HandS.HeadHook2
import PySem.Challenge.RW_strangercome_k01_whole_names_and_roles
set_option Elab.async false
set_option linter.all false
section
set_option maxRecDepth 100000
namespace Mp
open PySem

/-- a value of the small language -/
inductive D where
  | non | bl (b : Bool) | int (i : Int) | str (x : Str)
  | tup (xs : List D) | lst (xs : List D)
  | box (n : Nat)
  | obj (c : Nat) (xs : List D)
  deriving Inhabited

/-- what stands in a box -/
inductive BO where
  | lst (xs : List D)
  | dK (kvs : List (L2.Key × D))
  | dT (kvs : List (List L2.Key × D))
abbrev HP := List BO
/-- an exception: its class by number, what it keeps -/
structure Xn where
  cls : Nat
  arg : Option D
inductive Rs (α : Type) where
  | ok (a : α) (h : HP) | exc (x : Xn) (h : HP) | bad
def Rs.bnd {α β : Type} (r : Rs α) (k : α → HP → Rs β) : Rs β := match r with
  | .ok a h => k a h
  | .exc x h => .exc x h
  | .bad => .bad
@[simp] theorem bnd_ok {α β : Type} (a : α) (h : HP) (k : α → HP → Rs β) : (Rs.ok a h).bnd k = k a h := rfl
@[simp] theorem bnd_exc {α β : Type} (x : Xn) (h : HP) (k : α → HP → Rs β) : (Rs.exc x h : Rs α).bnd k = .exc x h := rfl
@[simp] theorem bnd_bad {α β : Type} (k : α → HP → Rs β) : (Rs.bad : Rs α).bnd k = .bad := rfl
def line : Nat := 16777216

mutual
def D.dep : D → Nat
  | .tup xs => depL xs + 1
  | .lst xs => depL xs + 1
  | _ => 0
def depL : List D → Nat
  | [] => 0
  | x :: xs => max (D.dep x) (depL xs)
end
mutual
/-- plain data: no box, no object -/
def D.data : D → Bool
  | .tup xs => dataL xs
  | .lst xs => dataL xs
  | .box _ => false
  | .obj _ _ => false
  | .str x => PyData.strOk x
  | _ => true
def dataL : List D → Bool
  | [] => true
  | x :: xs => D.data x && dataL xs
end
mutual
/-- Python's == of plain data -/
def D.eqv : D → D → Bool
  | .non, e => match e with
    | .non => true
    | _ => false
  | .bl a, e => match e with
    | .bl b => a == b
    | .int j => (if a then 1 else 0) == j
    | _ => false
  | .int i, e => match e with
    | .bl b => i == (if b then 1 else 0)
    | .int j => i == j
    | _ => false
  | .str x, e => match e with
    | .str y => x == y
    | _ => false
  | .tup xs, e => match e with
    | .tup ys => eqvL xs ys
    | _ => false
  | .lst xs, e => match e with
    | .lst ys => eqvL xs ys
    | _ => false
  | .box _, _ => false
  | .obj _ _, _ => false
def eqvL : List D → List D → Bool
  | [], e => match e with
    | [] => true
    | _ :: _ => false
  | x :: xs, e => match e with
    | [] => false
    | y :: ys => D.eqv x y && eqvL xs ys
end
mutual
/-- the library's datum -/
def D.py : D → PyData
  | .non => .none
  | .bl b => .bool b
  | .int i => .int i
  | .str x => .str x
  | .tup xs => .tuple (pyL xs)
  | .lst xs => .list (pyL xs)
  | .box _ => .none
  | .obj _ _ => .none
def pyL : List D → List PyData
  | [] => []
  | x :: xs => D.py x :: pyL xs
end
/-- Python's < of data that are alike, place by place -/
def D.lt (x y : D) : Bool := PySem.W.dataLt x.py y.py
def D.like (x y : D) : Bool := PySem.W.alike x.py y.py
/-- a box that holds a list, read as a list -/
def deref (h : HP) : D → D
  | .box n => match h[n]? with
    | some (.lst xs) => .lst xs
    | _ => .box n
  | d => d
def seqOf (h : HP) : D → Option (List D)
  | .tup xs => some xs
  | .lst xs => some xs
  | .box n => match h[n]? with
    | some (.lst xs) => some xs
    | _ => none
  | _ => none
/-- truth -/
def truD (h : HP) : D → Option Bool
  | .non => some false
  | .bl b => some b
  | .int i => some (i != 0)
  | .str x => if x.length ≤ line then some (x.length != 0) else none
  | .tup xs => some (!xs.isEmpty)
  | .lst xs => some (!xs.isEmpty)
  | .box n => match h[n]? with
    | some (.lst xs) => some (!xs.isEmpty)
    | some (.dK kvs) => some (!kvs.isEmpty)
    | _ => none
  | .obj _ _ => none

inductive Lt where
  | non | bl (b : Bool) | int (i : Int) | str (x : Str)
def Lt.d : Lt → D
  | .non => .non
  | .bl b => .bl b
  | .int i => .int i
  | .str x => .str x
/-- operators that take values -/
inductive Op where
  | add (b : Bool) | sub | mul | fdiv | mod | pow | shl | shr | band | bor | bxor
  | neg | inv | not
  | eq | ne | lt | le | gt | ge | isin | notin | isN | notN | isB (b : Bool) | notB (b : Bool)
  | ix | rev
  | len | abs | min2 | max2 | toint | isa (t : Nat) | all | any | sum | tupof | lstof (b : Bool) | sorted (b : Bool) | sortset (b : Bool) | repr
  | append | extend | popAt | pop | index | join | upper
  deriving DecidableEq
mutual
/-- where a store goes -/
inductive Tg where
  | nm (i : Nat)
  | tup (ts : Tgs)
inductive Tgs where
  | nil
  | cons (t : Tg) (r : Tgs)
end
mutual
inductive E where
  | loc (i : Nat)
  | lit (v : Lt)
  | glo (i : Nat)
  | op (o : Op) (es : Es)
  | sl (a : E) (lo hi : Es)
  | meth (o : Op) (a : E) (es : Es)
  | tup (es : Es)
  | lst (b : Bool) (es : Es)
  | bop (isAnd : Bool) (es : Es)
  | ite (c a b : E)
  | chain (o1 o2 : Op) (a b c : E)
  | call (f : Nat) (es : Es)
  | comp (b : Bool) (own : List Nat) (t : Tg) (it : I) (ifs : Es) (elt : E)
inductive Es where
  | nil
  | cons (e : E) (r : Es)
inductive I where
  | seq (e : E)
  | rng (es : Es)
  | enm (es : Es)
  | zip (es : Es)
end
mutual
inductive S where
  | asg (t : Tg) (e : E)
  | par (is : List Nat) (es : Es)
  | aug (i : Nat) (o : Op) (e : E)
  | setIx (a i e : E)
  | augIx (o : Op) (a i e : E)
  | ex (e : E)
  | ret (e : E)
  | retN
  | ifs (c : E) (a b : Ss)
  | for (t : Tg) (it : I) (body : Ss)
  | while (c : E) (body : Ss)
  | raise (c : Nat) (keeps : Bool) (e : E)
  | pass | brk | cnt
inductive Ss where
  | nil
  | cons (s : S) (r : Ss)
end
def Es.len : Es → Nat
  | .nil => 0
  | .cons _ r => r.len + 1

def cutD (xs : List D) (lo hi : Option Int) : List D := (xs.drop (HT.sIx xs.length 0 lo)).take (HT.sIx xs.length xs.length hi - HT.sIx xs.length 0 lo)
/-- a new list, boxed or not -/
def newL (b : Bool) (xs : List D) (h : HP) : Rs D := match b with
  | true => .ok (.box h.length) (h ++ [.lst xs])
  | false => .ok (.lst xs) h
def int2 (f : Int → Int → Rs D) : List D → Rs D
  | [.int i, .int j] => f i j
  | _ => .bad
def evAdd (b : Bool) (ds : List D) (h : HP) : Rs D := match ds with
  | [.int i, .int j] => .ok (.int (i + j)) h
  | [.str x, .str y] => if x.length + y.length ≤ line then .ok (.str (x ++ y)) h else .bad
  | [.tup xs, .tup ys] => if xs.length + ys.length ≤ line then .ok (.tup (xs ++ ys)) h else .bad
  | [x, y] => match deref h x, deref h y with
    | .lst xs, .lst ys => if xs.length + ys.length ≤ line then newL b (xs ++ ys) h else .bad
    | _, _ => .bad
  | _ => .bad
def evMul (ds : List D) (h : HP) : Rs D := match ds with
  | [.int i, .int j] => if (Builtin.Int.intBits i : Int) + (Builtin.Int.intBits j : Int) ≤ 134217728 then .ok (.int (i * j)) h else .bad
  | _ => .bad
def D.ok (x : D) : Bool := x.data && decide (x.dep ≤ 60)
def isDat (x y : D) : Bool := x.ok && y.ok
def evEq (neg : Bool) (ds : List D) (h : HP) : Rs D := match ds with
  | [.str x, .str y] => .ok (.bl (if neg then !decide (x = y) else decide (x = y))) h
  | [x, y] => if isDat (deref h x) (deref h y) then .ok (.bl (if neg then !(deref h x).eqv (deref h y) else (deref h x).eqv (deref h y))) h else .bad
  | _ => .bad
def ltStr (x y : Str) : Bool := decide (x.cps.toList < y.cps.toList)
def evLt (ds : List D) (h : HP) : Rs D := match ds with
  | [.int i, .int j] => .ok (.bl (decide (i < j))) h
  | [.str x, .str y] => .ok (.bl (ltStr x y)) h
  | [.tup xs, .tup ys] => if isDat (.tup xs) (.tup ys) && (D.tup xs).like (.tup ys) then .ok (.bl ((D.tup xs).lt (.tup ys))) h else .bad
  | _ => .bad
def evCmp (f : Int → Int → Bool) (ds : List D) (h : HP) : Rs D := match ds with
  | [.int i, .int j] => .ok (.bl (f i j)) h
  | _ => .bad
def anyEq (x : D) (ys : List D) : Bool := ys.any fun y => y.eqv x
def evIn (neg : Bool) (ds : List D) (h : HP) : Rs D := match ds with
  | [.str x, .str y] => let b := !(Builtin.Str.occurrences y x 0 y.length 1).isEmpty
    .ok (.bl (if neg then !b else b)) h
  | [x, y] => match seqOf h y with
    | some ys => if isDat x (.lst ys) then .ok (.bl (if neg then !anyEq x ys else anyEq x ys)) h else .bad
    | none => .bad
  | _ => .bad
def evIx (ds : List D) (h : HP) : Rs D := match ds with
  | [.str z, .int i] => if z.length ≤ line then (match L2.atI z.cps.toList i with
    | some c => .ok (.str ⟨#[c]⟩) h
    | none => .bad) else .bad
  | [x, .int i] => match seqOf h x with
    | some xs => (match L2.atI xs i with
      | some d => .ok d h
      | none => .bad)
    | none => .bad
  | _ => .bad
def evSl (x : D) (lo hi : Option Int) (h : HP) : Rs D := match deref h x with
  | .str z => if z.length ≤ line then .ok (.str (L2.cutS z lo hi)) h else .bad
  | .tup xs => .ok (.tup (cutD xs lo hi)) h
  | .lst xs => .ok (.lst (cutD xs lo hi)) h
  | _ => .bad
def evLen (ds : List D) (h : HP) : Rs D := match ds with
  | [.str z] => if z.length ≤ line then .ok (.int z.length) h else .bad
  | [.box n] => (match h[n]? with
    | some (.lst xs) => .ok (.int xs.length) h
    | _ => .bad)
  | [.tup xs] => .ok (.int xs.length) h
  | [.lst xs] => .ok (.int xs.length) h
  | _ => .bad
def boolsOf : List D → Option (List Bool)
  | [] => some []
  | .bl b :: r => (boolsOf r).map (b :: ·)
  | _ :: _ => none
def intsOf : List D → Option (List Int)
  | [] => some []
  | .int b :: r => (intsOf r).map (b :: ·)
  | _ :: _ => none
def strsOf : List D → Option (List Str)
  | [] => some []
  | .str b :: r => (strsOf r).map (b :: ·)
  | _ :: _ => none
/-- of which built-in type: 0 int, 1 bool, 2 str, 3 tuple, 4 list, 5 dict -/
def isaD (t : Nat) (h : HP) : D → Option Bool
  | .non => some false
  | .bl _ => some (t == 0 || t == 1)
  | .int _ => some (t == 0)
  | .str _ => some (t == 2)
  | .tup _ => some (t == 3)
  | .lst _ => some (t == 4)
  | .box n => match h[n]? with
    | some (.lst _) => some (t == 4)
    | some (.dK _) => some (t == 5)
    | some (.dT _) => some (t == 5)
    | none => none
  | .obj _ _ => none
def evIsa (t : Nat) (ds : List D) (h : HP) : Rs D := match ds with
  | [d] => match isaD t h d with
    | some b => .ok (.bl b) h
    | none => .bad
  | _ => .bad
/-- of one list -/
def onL (f : List D → HP → Rs D) (ds : List D) (h : HP) : Rs D := match ds with
  | [d] => match deref h d with
    | .lst xs => f xs h
    | _ => .bad
  | _ => .bad
def evAll (xs : List D) (h : HP) : Rs D := match boolsOf xs with
  | some bs => .ok (.bl (bs.all id)) h
  | none => .bad
def evAny (xs : List D) (h : HP) : Rs D := match boolsOf xs with
  | some bs => .ok (.bl (bs.any id)) h
  | none => .bad
def evSum (xs : List D) (h : HP) : Rs D := match intsOf xs with
  | some ns => .ok (.int ns.sum) h
  | none => .bad
def evTupof (ds : List D) (h : HP) : Rs D := match ds with
  | [d] => match deref h d with
    | .lst xs => .ok (.tup xs) h
    | .tup xs => .ok (.tup xs) h
    | _ => .bad
  | _ => .bad
def evLstof (b : Bool) (ds : List D) (h : HP) : Rs D := match ds with
  | [d] => match seqOf h d with
    | some xs => newL b xs h
    | none => .bad
  | _ => .bad
def isTup1 : D → Bool
  | .tup (_ :: _) => true
  | _ => false
def noTup1 : D → Bool
  | .non => false
  | .tup _ => false
  | _ => true
def sortable (xs : List D) : Bool := (D.lst xs).ok && (xs.all fun a => xs.all fun b => D.like a b) && (xs.all isTup1 || xs.all noTup1)
def sortD (xs : List D) : List D := xs.mergeSort (PySem.W.dataLe false D.py)
def evSorted (b : Bool) (xs : List D) (h : HP) : Rs D := if sortable xs then newL b (sortD xs) h else .bad
/-- of one list or tuple -/
def onQ (f : List D → HP → Rs D) (ds : List D) (h : HP) : Rs D := match ds with
  | [d] => match seqOf h d with
    | some xs => f xs h
    | none => .bad
  | _ => .bad
def addU {K : Type} [DecidableEq K] (ks : List K) (k : K) : List K := if k ∈ ks then ks else ks ++ [k]
def uniqs {K : Type} [DecidableEq K] (ks : List K) : List K := ks.foldl addU []
def sortK {K : Type} (e : K → PyData) (ks : List K) : List K := ks.mergeSort (PySem.W.dataLe false e)
/-- sorted(set(xs)), all texts or all ints -/
def evSortset (b : Bool) (xs : List D) (h : HP) : Rs D := if xs.length < 4095 then (match strsOf xs with
  | some ys => newL b ((sortK PyData.str (uniqs ys)).map D.str) h
  | none => match intsOf xs with
    | some ns => newL b ((sortK PyData.int (uniqs ns)).map D.int) h
    | none => .bad) else .bad
def evRepr (ds : List D) (h : HP) : Rs D := match ds with
  | [d] => if (deref h d).ok && (deref h d).py.showable && decide ((deref h d).py.shown.length ≤ line) then .ok (.str (deref h d).py.shown) h else .bad
  | _ => .bad
/-- of one boxed list -/
def onB (f : Nat → List D → List D → HP → Rs D) (ds : List D) (h : HP) : Rs D := match ds with
  | .box n :: r => match h[n]? with
    | some (.lst xs) => f n xs r h
    | _ => .bad
  | _ => .bad
def evAppend (n : Nat) (xs r : List D) (h : HP) : Rs D := match r with
  | [d] => if xs.length < line then .ok .non (h.set n (.lst (xs ++ [d]))) else .bad
  | _ => .bad
def evExtend (n : Nat) (xs r : List D) (h : HP) : Rs D := match r with
  | [.box m] => match h[m]? with
    | some (.lst ys) => if xs.length + ys.length ≤ line then .ok .non (h.set n (.lst (xs ++ ys))) else .bad
    | _ => .bad
  | _ => .bad
def evPopAt (n : Nat) (xs r : List D) (h : HP) : Rs D := match r with
  | [.int i] => match L2.ixN xs.length i with
    | some k => (match xs[k]? with
      | some d => .ok d (h.set n (.lst (xs.eraseIdx k)))
      | none => .bad)
    | none => .bad
  | _ => .bad
def evPop (n : Nat) (xs r : List D) (h : HP) : Rs D := match r with
  | [] => match xs[xs.length - 1]? with
    | some d => .ok d (h.set n (.lst xs.dropLast))
    | none => .bad
  | _ => .bad
def findEq (x : D) : List D → Option Nat
  | [] => none
  | y :: ys => if y.eqv x then some 0 else (findEq x ys).map (· + 1)
def evIndex (ds : List D) (h : HP) : Rs D := match ds with
  | [s, x] => match seqOf h s with
    | some ys => if x.ok && (D.lst ys).ok then (match findEq x ys with
      | some j => .ok (.int (j : Int)) h
      | none => .bad) else .bad
    | none => .bad
  | _ => .bad
def evJoin (ds : List D) (h : HP) : Rs D := match ds with
  | [.str a, d] => match seqOf h d with
    | some xs => (match strsOf xs with
      | some ys => if (ys.map (·.length)).sum + ys.length * a.length ≤ line then .ok (.str (PySem.Txt.join a ys)) h else .bad
      | none => .bad)
    | none => .bad
  | _ => .bad
def evUpper (ds : List D) (h : HP) : Rs D := match ds with
  | [.str a] => if a.length ≤ 5592405 then .ok (.str (PySem.Txt.upper a)) h else .bad
  | _ => .bad
/-- the type a method is looked up in -/
def recvT (h : HP) : D → Option String
  | .str _ => some "str"
  | .tup _ => some "tuple"
  | .lst _ => some "list"
  | .box n => match h[n]? with
    | some (.lst _) => some "list"
    | some (.dK _) => some "dict"
    | some (.dT _) => some "dict"
    | none => none
  | _ => none
/-- the method's id -/
def mtId (o : Op) (T : String) : Option String := match o with
  | .append => if T = "list" then some "list.append" else none
  | .extend => if T = "list" then some "list.extend" else none
  | .popAt => if T = "list" then some "list.pop" else none
  | .pop => if T = "list" then some "list.pop" else none
  | .index => if T = "list" then some "list.index" else if T = "tuple" then some "tuple.index" else none
  | .join => if T = "str" then some "str.join" else none
  | .upper => if T = "str" then some "str.upper" else none
  | _ => none
def recvOk (o : Op) (d : D) (h : HP) : Bool := match recvT h d with
  | some T => (mtId o T).isSome
  | none => false
def ofI (c : Bool) (i : Int) (h : HP) : Rs D := if c then .ok (.int i) h else .bad
def evOp (o : Op) (ds : List D) (h : HP) : Rs D := match o with
  | .add b => evAdd b ds h
  | .sub => int2 (fun i j => .ok (.int (i - j)) h) ds
  | .mul => evMul ds h
  | .fdiv => int2 (fun i j => if 0 < j ∧ j.natAbs.log2 < 9000 then .ok (.int (i / j)) h else .bad) ds
  | .mod => int2 (fun i j => if 0 < j then .ok (.int (i % j)) h else .bad) ds
  | .pow => int2 (fun i j => if 0 ≤ j ∧ (Builtin.Int.intBits i : Int) * j ≤ 134217728 then .ok (.int (i ^ j.toNat)) h else .bad) ds
  | .shl => int2 (fun i j => if 0 ≤ j ∧ (Builtin.Int.intBits i : Int) + j ≤ 134217728 then .ok (.int (i * 2 ^ j.toNat)) h else .bad) ds
  | .shr => int2 (fun i j => if 0 ≤ j then .ok (.int (i / 2 ^ j.toNat)) h else .bad) ds
  | .band => int2 (fun i j => .ok (.int (Builtin.bitAnd i j)) h) ds
  | .bor => int2 (fun i j => .ok (.int (Builtin.bitOr i j)) h) ds
  | .bxor => int2 (fun i j => .ok (.int (Builtin.bitXor i j)) h) ds
  | .neg => match ds with
    | [.int i] => .ok (.int (-i)) h
    | _ => .bad
  | .inv => match ds with
    | [.int i] => .ok (.int (Builtin.bitNot i)) h
    | _ => .bad
  | .not => match ds with
    | [d] => (match truD h d with
      | some b => .ok (.bl (!b)) h
      | none => .bad)
    | _ => .bad
  | .eq => evEq false ds h
  | .ne => evEq true ds h
  | .lt => evLt ds h
  | .le => evCmp (fun i j => decide (i ≤ j)) ds h
  | .gt => evCmp (fun i j => decide (j < i)) ds h
  | .ge => evCmp (fun i j => decide (j ≤ i)) ds h
  | .isin => evIn false ds h
  | .notin => evIn true ds h
  | .isN => match ds with
    | [d] => .ok (.bl (match d with | .non => true | _ => false)) h
    | _ => .bad
  | .notN => match ds with
    | [d] => .ok (.bl (match d with | .non => false | _ => true)) h
    | _ => .bad
  | .isB b => match ds with
    | [.bl c] => .ok (.bl (decide (c = b))) h
    | _ => .bad
  | .notB b => match ds with
    | [.bl c] => .ok (.bl (!decide (c = b))) h
    | _ => .bad
  | .ix => evIx ds h
  | .rev => match ds with
    | [x] => (match deref h x with
      | .lst xs => .ok (.lst xs.reverse) h
      | .tup xs => .ok (.tup xs.reverse) h
      | _ => .bad)
    | _ => .bad
  | .len => evLen ds h
  | .abs => match ds with
    | [.int i] => .ok (.int (if i < 0 then -i else i)) h
    | _ => .bad
  | .min2 => int2 (fun i j => .ok (.int (if j < i then j else i)) h) ds
  | .max2 => int2 (fun i j => .ok (.int (if j > i then j else i)) h) ds
  | .toint => match ds with
    | [.int i] => .ok (.int i) h
    | [.bl k] => .ok (.int (if k then 1 else 0)) h
    | _ => .bad
  | .isa t => evIsa t ds h
  | .all => onL evAll ds h
  | .any => onL evAny ds h
  | .sum => onL evSum ds h
  | .tupof => evTupof ds h
  | .lstof b => evLstof b ds h
  | .sorted b => onQ (evSorted b) ds h
  | .sortset b => onQ (evSortset b) ds h
  | .repr => evRepr ds h
  | .append => onB evAppend ds h
  | .extend => onB evExtend ds h
  | .popAt => onB evPopAt ds h
  | .pop => onB evPop ds h
  | .index => evIndex ds h
  | .join => evJoin ds h
  | .upper => evUpper ds h

abbrev Env := List (Option D)
abbrev Fns := Nat → List D → HP → Rs D
def wipeD (env : Env) : List Nat → Env
  | [] => env
  | v :: vs => (wipeD env vs).set v none
mutual
def setTg : Tg → D → Env → Option Env
  | .nm i, d, env => some (env.set i (some d))
  | .tup ts, d, env => match d with
    | .tup ds => setTgs ts ds env
    | _ => none
def setTgs : Tgs → List D → Env → Option Env
  | .nil, ds, env => match ds with
    | [] => some env
    | _ :: _ => none
  | .cons t r, ds, env => match ds with
    | [] => none
    | d :: ds => match setTg t d env with
      | some env => setTgs r ds env
      | none => none
end
def enumD : Nat → List D → List D
  | _, [] => []
  | n, d :: ds => .tup [.int (n : Int), d] :: enumD (n + 1) ds
def zipD : List D → List D → List D
  | a :: as, b :: bs => .tup [a, b] :: zipD as bs
  | _, _ => []
def rngD (lo : Int) : Nat → List D
  | 0 => []
  | n + 1 => .int lo :: rngD (lo + 1) n
def rngN (lo : Int) : Nat → List D
  | 0 => []
  | n + 1 => .int lo :: rngN (lo - 1) n
def signsD (z : Str) : List D := z.cps.toList.map fun c => .str ⟨#[c]⟩
/-- what is walked, as it stands -/
def itemsD (d : D) (h : HP) : Option (List D) := match d with
  | .str z => if z.length ≤ line then some (signsD z) else none
  | d => seqOf h d
abbrev IV := HP → Option (List D)
def enumI (d : D) : IV := fun h => (itemsD d h).map (enumD 0)
def zipI (d e : D) : IV := fun h => match itemsD d h, itemsD e h with
  | some xs, some ys => some (zipD xs ys)
  | _, _ => none
def evRng (ds : List D) (h : HP) : Rs IV := match ds with
  | [.int j] => if -(2 ^ 62) ≤ j ∧ j ≤ line then .ok (fun _ => some (rngD 0 j.toNat)) h else .bad
  | [.int i, .int j] => if (-(2 ^ 62) ≤ i ∧ i < 2 ^ 62) ∧ (-(2 ^ 62) ≤ j ∧ j < 2 ^ 62) ∧ j - i ≤ line then .ok (fun _ => some (rngD i (j - i).toNat)) h else .bad
  | [.int i, .int j, .int c] => if c = -1 ∧ (-(2 ^ 62) ≤ i ∧ i < 2 ^ 62) ∧ (-(2 ^ 62) ≤ j ∧ j < 2 ^ 62) ∧ i - j ≤ line then .ok (fun _ => some (rngN i (i - j).toNat)) h else .bad
  | _ => .bad
def iv1 (f : D → IV) (ds : List D) (h : HP) : Rs IV := match ds with
  | [d] => if (itemsD d h).isSome then .ok (f d) h else .bad
  | _ => .bad
def iv2 (f : D → D → IV) (ds : List D) (h : HP) : Rs IV := match ds with
  | [d, e] => if (itemsD d h).isSome && (itemsD e h).isSome then .ok (f d e) h else .bad
  | _ => .bad
/-- turns of a walk; the walked thing is looked at anew at each turn -/
def walkL {α : Type} (step : D → α → HP → Rs α) (iv : IV) : Nat → Nat → α → HP → Rs α
  | 0, _, _, _ => .bad
  | f + 1, i, acc, h => match iv h with
    | none => .bad
    | some xs => match xs[i]? with
      | none => if i = xs.length then .ok acc h else .bad
      | some d => (step d acc h).bnd fun acc h => walkL step iv f (i + 1) acc h
/-- no exception -/
def Rs.noX {α : Type} (r : Rs α) : Rs α := match r with
  | .ok a h => .ok a h
  | _ => .bad
def walkFuel : Nat := 16777217

mutual
def evE (cf : Fns) (gl : Nat → D) : E → Env → HP → Rs D
  | .loc i, env, h => match env[i]? with
    | some (some d) => .ok d h
    | _ => .bad
  | .lit v, _, h => .ok v.d h
  | .glo i, _, h => .ok (gl i) h
  | .op o es, env, h => (evEs cf gl es env h).bnd fun ds h => evOp o ds h
  | .sl a lo hi, env, h => (evE cf gl a env h).bnd fun x h => (evO cf gl lo env h).bnd fun l h => (evO cf gl hi env h).bnd fun u h => evSl x l u h
  | .meth o a es, env, h => (evE cf gl a env h).bnd fun x h => if recvOk o x h then (evEs cf gl es env h).bnd fun ds h => evOp o (x :: ds) h else .bad
  | .tup es, env, h => (evEs cf gl es env h).bnd fun ds h => .ok (.tup ds) h
  | .lst b es, env, h => (evEs cf gl es env h).bnd fun ds h => newL b ds h
  | .bop k es, env, h => evB cf gl k es env h
  | .ite c a b, env, h => (evT cf gl c env h).bnd fun t h => match t with
    | true => evE cf gl a env h
    | false => evE cf gl b env h
  | .chain o1 o2 a b c, env, h => (evE cf gl a env h).bnd fun x h => (evE cf gl b env h).bnd fun y h => (evOp o1 [x, y] h).bnd fun r h => match r with
    | .bl true => (evE cf gl c env h).bnd fun z h => evOp o2 [y, z] h
    | .bl false => .ok (.bl false) h
    | _ => .bad
  | .call f es, env, h => (evEs cf gl es env h).bnd fun ds h => cf f ds h
  | .comp b own t it ifs elt, env, h => (evI cf gl it env h).bnd fun iv h => (walkL (fun d acc h => match setTg t d (wipeD env own) with
      | some env' => ((evTs cf gl ifs env' h).bnd fun k h => match k with
        | true => (evE cf gl elt env' h).bnd fun x h => .ok (acc ++ [x]) h
        | false => .ok acc h).noX
      | none => .bad) iv walkFuel 0 [] h).bnd fun acc h => newL b acc h
/-- an end of a slice -/
def evO (cf : Fns) (gl : Nat → D) : Es → Env → HP → Rs (Option Int)
  | .nil, _, h => .ok none h
  | .cons e _, env, h => (evE cf gl e env h).bnd fun d h => match d with
    | .int i => .ok (some i) h
    | _ => .bad
def evEs (cf : Fns) (gl : Nat → D) : Es → Env → HP → Rs (List D)
  | .nil, _, h => .ok [] h
  | .cons e r, env, h => (evE cf gl e env h).bnd fun d h => (evEs cf gl r env h).bnd fun ds h => .ok (d :: ds) h
/-- and, or, as values -/
def evB (cf : Fns) (gl : Nat → D) (isAnd : Bool) : Es → Env → HP → Rs D
  | .nil, _, _ => .bad
  | .cons e .nil, env, h => evE cf gl e env h
  | .cons e (.cons e2 r), env, h => (evE cf gl e env h).bnd fun d h => match truD h d with
    | some k => if k = isAnd then evB cf gl isAnd (.cons e2 r) env h else .ok d h
    | none => .bad
/-- a test -/
def evT (cf : Fns) (gl : Nat → D) : E → Env → HP → Rs Bool
  | .bop k es, env, h => evBT cf gl k es env h
  | .op .not (.cons e .nil), env, h => (evT cf gl e env h).bnd fun b h => .ok (!b) h
  | .ite c a b, env, h => (evT cf gl c env h).bnd fun t h => match t with
    | true => evT cf gl a env h
    | false => evT cf gl b env h
  | .chain o1 o2 a b c, env, h => ((evE cf gl a env h).bnd fun x h => (evE cf gl b env h).bnd fun y h => (evOp o1 [x, y] h).bnd fun r h => match r with
    | .bl true => (evE cf gl c env h).bnd fun z h => evOp o2 [y, z] h
    | .bl false => .ok (.bl false) h
    | _ => .bad).bnd fun d h => match truD h d with
    | some b => .ok b h
    | none => .bad
  | .loc i, env, h => match env[i]? with
    | some (some d) => (match truD h d with
      | some b => .ok b h
      | none => .bad)
    | _ => .bad
  | .lit v, _, h => (match truD h v.d with
      | some b => .ok b h
      | none => .bad)
  | .glo i, _, h => (match truD h (gl i) with
      | some b => .ok b h
      | none => .bad)
  | .op o es, env, h => (evEs cf gl es env h).bnd fun ds h => (evOp o ds h).bnd fun d h => match truD h d with
    | some b => .ok b h
    | none => .bad
  | .tup es, env, h => (evEs cf gl es env h).bnd fun ds h => .ok (!ds.isEmpty) h
  | .meth o a es, env, h => (evE cf gl a env h).bnd fun x h => (if recvOk o x h then (evEs cf gl es env h).bnd fun ds h => evOp o (x :: ds) h else .bad).bnd fun d h => match truD h d with
    | some b => .ok b h
    | none => .bad
  | .sl a lo hi, env, h => (evE cf gl a env h).bnd fun x h => (evO cf gl lo env h).bnd fun l h => (evO cf gl hi env h).bnd fun u h => (evSl x l u h).bnd fun d h => match truD h d with
    | some b => .ok b h
    | none => .bad
  | .call f es, env, h => (evEs cf gl es env h).bnd fun ds h => (cf f ds h).bnd fun d h => match truD h d with
    | some b => .ok b h
    | none => .bad
  | .lst _ _, _, _ => .bad
  | .comp _ _ _ _ _ _, _, _ => .bad
def evBT (cf : Fns) (gl : Nat → D) (isAnd : Bool) : Es → Env → HP → Rs Bool
  | .nil, _, h => .ok isAnd h
  | .cons e r, env, h => (evT cf gl e env h).bnd fun k h => if k = isAnd then evBT cf gl isAnd r env h else .ok k h
/-- all of some tests -/
def evTs (cf : Fns) (gl : Nat → D) : Es → Env → HP → Rs Bool
  | .nil, _, h => .ok true h
  | .cons e r, env, h => (evT cf gl e env h).bnd fun k h => match k with
    | true => evTs cf gl r env h
    | false => .ok false h
def evI (cf : Fns) (gl : Nat → D) : I → Env → HP → Rs IV
  | .seq e, env, h => (evE cf gl e env h).bnd fun d h => iv1 itemsD [d] h
  | .rng es, env, h => (evEs cf gl es env h).bnd fun ds h => evRng ds h
  | .enm es, env, h => (evEs cf gl es env h).bnd fun ds h => iv1 enumI ds h
  | .zip es, env, h => (evEs cf gl es env h).bnd fun ds h => iv2 zipI ds h
end
end Mp

end
section
set_option maxHeartbeats 4000000
set_option maxRecDepth 100000
namespace Mp
open PySem PySem.Spec PyProof.Rows L2

section
variable {prog : Program} {w : World} {A : Around} {E : Value → Shared → Prop} {s : Shared} {β : Type} {enc : β → PyData} {R : Value → β → Prop}
/-- sorted of whatever is gathered as vs -/
theorem sorted_coll {a : Addr} {Q : Value → Shared → Prop} {C : List Value → Shared → Prop}
    (hcol : ∀ {Q' : List Value → Shared → Prop}, (∀ vs s1, C vs s1 → Q' vs s1) → wpAny (model prog w) A.in1 (collect (.ref a)) Q' E s)
    (hq : ∀ vs s1, C vs s1 → ∃ bs : List β, PySem.W.EachIs R vs bs ∧ PySem.W.EachIs (fun v b => ∃ as, Reads s1.heap v (enc b) as) vs bs ∧ PySem.W.AllAlike (bs.map enc) ∧ PySem.W.Sortable (bs.map enc) ∧ bs.length ≤ sizeLine ∧
      (∀ b, b ∈ bs → A.units + 2 + (enc b).depth < cLine) ∧
      ∀ out : List Value, out.length = bs.length → PySem.W.EachIs R out (bs.mergeSort (PySem.W.dataLe false enc)) → Q (.ref s1.heap.objs.size) { s1 with heap := sortedHeap (s1.heap.push (seqObj "list" vs.toArray 0)) s1.heap.objs.size vs out.toArray }) :
    wpAny (model prog w) A (call (.builtin "sorted") [.ref a]) Q E s := by
  refine Calls.call_function_entry kind_sorted plain_sorted entry_sorted (args_sorted1 _) ?_
  unfold Builtin.«sorted»
  refine wpAny_bind (m := checkCount "sorted" 1 1 _) (wpAny_pure ?_)
  refine wpAny_bind (hcol fun vs s1 hC => ?_)
  obtain ⟨bs, e, er, hal, hk, hL, hu, fin⟩ := hq vs s1 hC
  have hL' : vs.length ≤ sizeLine := by rw [e.length]; exact hL
  refine wpAny_bind (wpAny_newList ?_ hL')
  have hoL : (s1.heap.push (seqObj "list" vs.toArray 0)).get? s1.heap.objs.size = some (seqObj "list" vs.toArray 0) := Heap.get?_push_size _ rfl
  have er' : PySem.W.EachIs (fun v b => ∃ as, Reads (PySem.W.sortingHeap (s1.heap.push (seqObj "list" vs.toArray 0)) s1.heap.objs.size vs) v (enc b) as) vs bs :=
    er.mono fun _ _ ⟨as, r⟩ => ⟨as, PyProof.Rows.Reads.keeps (fun b o ho => PySem.W.sortingHeap_old (Nat.ne_of_lt (Heap.lt_size ho)) (Heap.get?_push_of_some _ ho)) r⟩
  refine wpAny_bind (wpAny_holding (wpAny_call_entry slot_list_sort ⟨_, hoL, rfl⟩ entry_list_sort (PySem.W.list_sort_vals (s := { s1 with heap := s1.heap.push (seqObj "list" vs.toArray 0) })
    (κ := PySem.W.dataKind (PySem.W.sortingHeap (s1.heap.push (seqObj "list" vs.toArray 0)) s1.heap.objs.size vs) (bs.map enc)) hoL
    (PySem.W.SortsAt.data (s := { s1 with heap := PySem.W.sortingHeap (s1.heap.push (seqObj "list" vs.toArray 0)) s1.heap.objs.size vs })
      (PySem.W.each_map (R := fun v d => ∃ as, Reads (PySem.W.sortingHeap (s1.heap.push (seqObj "list" vs.toArray 0)) s1.heap.objs.size vs) v d as) enc er') hal hk (PySem.W.bound_map hu)) hL' ⟨_, rfl, ?_⟩) (args_list_sort _)))
  exact wpAny_pure ⟨_, rfl, fin _ (by rw [PySem.W.sortVals_length false rfl]; exact e.length) (PySem.W.sortVals_data false e er' hal)⟩

/-- the items of a tuple, gathered -/
theorem collect_tup {l : Addr} {vs : List Value} {Q : List Value → Shared → Prop} (hl : s.heap.IsTuple l vs.toArray)
    (h : Q vs { s with heap := (s.heap.push (seqObj "list" #[] 0)).update s.heap.objs.size (Obj.mapSeq (· ++ vs.toArray)) }) (hsz : vs.length ≤ sizeLine) :
    wpAny (model prog w) A (collect (.ref l)) Q E s := by
  obtain ⟨o, ho, hc, n, hd⟩ := id hl
  unfold collect
  refine wpAny_bind (wpAny_runValue (codeAny_builtin entry_proto_collect' ?_))
  show wpAny _ _ (do again (.builtin "list.__iadd__" ⟨[← newList [], .ref l], []⟩)) _ _ s
  refine wpAny_bind (wpAny_newList (wpAny_pure ⟨Code.quiet_builtin _ (by decide +kernel), codeAny_builtin entry_list_iadd' ?_⟩))
  show wpAny _ _ (Builtin.List.listExtendWith (.ref s.heap.objs.size) (.ref l) (.ref s.heap.objs.size)) _ _ { s with heap := s.heap.push (seqObj "list" #[] 0) }
  unfold Builtin.List.listExtendWith
  have ho' : (s.heap.push (seqObj "list" #[] 0)).get? l = some o := Heap.get?_push_of_some _ ho
  refine wpAny_bind (wpAny_typeOf (T := "tuple") ⟨o, ho', hc⟩ ?_)
  have ht : (Value.type "tuple" == Value.type "tuple") = true := by rfl
  rw [if_pos (by rw [ht]; simp)]
  refine wpAny_bind (listItems_at ho' hd ?_)
  refine wpAny_bind (listItems_at (xs := #[]) (n := 0) (Heap.get?_push_size _ rfl) rfl ?_)
  rw [if_neg (by simp)]
  refine wpAny_bind (listUpdate_at (xs := #[]) (n := 0) (Heap.get?_push_size _ rfl) rfl ?_ (Nat.zero_le _) (by show (#[] ++ vs.toArray).size ≤ sizeLine + 1; simp only [Array.size_append, List.size_toArray, List.length_nil]; omega))
  refine wpAny_pure ?_
  show wpAny (model prog w) A (do
      let o ← load s.heap.objs.size
      match o.data with
      | .seq xs _ => pure xs.toList
      | _ => unsupported "internal:collect") Q E { s with heap := (s.heap.push (seqObj "list" #[] 0)).update s.heap.objs.size (Obj.mapSeq (· ++ vs.toArray)) }
  refine wpAny_bind (wpAny_load (get?_update_seq (Heap.get?_push_size _ rfl) _) ?_)
  show wpAny _ _ (pure ((#[] : Array Value) ++ vs.toArray).toList) Q E _
  rw [show ((#[] : Array Value) ++ vs.toArray).toList = vs by simp]
  exact wpAny_pure h
/-- sorted(t), t a tuple -/
theorem sorted_tup {l : Addr} {vs : List Value} {bs : List β} {Q : Value → Shared → Prop} (hl : s.heap.IsTuple l vs.toArray) (e : PySem.W.EachIs R vs bs) (er : PySem.W.EachIs (fun v b => ∃ as, Reads s.heap v (enc b) as) vs bs)
    (hal : PySem.W.AllAlike (bs.map enc)) (hk : PySem.W.Sortable (bs.map enc)) (hL : bs.length ≤ sizeLine) (hu : ∀ b, b ∈ bs → A.units + 2 + (enc b).depth < cLine)
    (h : ∀ out : List Value, out.length = bs.length → PySem.W.EachIs R out (bs.mergeSort (PySem.W.dataLe false enc)) → Q (.ref (s.heap.objs.size + 1)) { s with heap := sortedAll s.heap vs out.toArray }) :
    wpAny (model prog w) A (call (.builtin "sorted") [.ref l]) Q E s := by
  have hL' : vs.length ≤ sizeLine := by rw [e.length]; exact hL
  refine sorted_coll (R := R) (enc := enc) (C := fun ws s1 => ws = vs ∧ s1 = { s with heap := (s.heap.push (seqObj "list" #[] 0)).update s.heap.objs.size (Obj.mapSeq (· ++ vs.toArray)) }) (fun q => collect_tup hl (q _ _ ⟨rfl, rfl⟩) hL') fun ws s1 c => ?_
  obtain ⟨c1, c2⟩ := c
  subst c1 c2
  have old : ∀ (b : Addr) (o : Obj), s.heap.get? b = some o → ((s.heap.push (seqObj "list" #[] 0)).update s.heap.objs.size (Obj.mapSeq (· ++ ws.toArray))).get? b = some o := fun b o ho =>
    (Heap.get?_update_ne _ _ _ _ (Nat.ne_of_lt (Heap.lt_size ho))).trans (Heap.get?_push_of_some _ ho)
  refine ⟨bs, e, er.mono fun _ _ ⟨as, r⟩ => ⟨as, PyProof.Rows.Reads.keeps old r⟩, hal, hk, hL, hu, fun out h1 h2 => ?_⟩
  have z : ((s.heap.push (seqObj "list" #[] 0)).update s.heap.objs.size (Obj.mapSeq (· ++ ws.toArray))).objs.size = s.heap.objs.size + 1 := by rw [Heap.size_update, size_push']
  have q := h out h1 h2
  unfold sortedAll at q
  dsimp only
  rw [z]
  exact q
end
end Mp

end
section
set_option maxRecDepth 100000
set_option maxHeartbeats 4000000
namespace Mp
open PySem PySem.Spec PyProof.Rows L2
/-- the object of a new tuple -/
structure TpO (o : Obj) : Prop where
  cls : o.cls = .type "tuple"
  dict : o.dict = none
section
variable {X : Cx} {pins : List (Addr × Obj)} {σ : L2.St} {H : Hp} {s : Shared}
theorem Inv.ltup {its : List Value} {xs : List V} {t' : Nat} (J : Inv X pins σ H s) (rv : Vals xs its) (hz : xs.length ≤ sizeLine) : ∃ o, TpO o ∧
    Inv X pins σ (upd H s.heap.objs.size (.frz o (.tup xs))) { s with heap := s.heap.push { cls := .type "tuple", data := .seq its.toArray }, toks := t' } :=
  ⟨{ cls := .type "tuple", data := .seq its.toArray }, ⟨rfl, rfl⟩, J.laid (fun _ _ q => Heap.get?_push_of_some _ q) (Nat.le_refl _) ⟨Heap.get?_push_size _ rfl, hz, its, rv, IsTup.new _ _⟩⟩
end
def tTupF (t : TA) : TE := fun σ H Q => t σ H fun xs H1 => xs.length ≤ sizeLine ∧ ∀ p o, H1 p = none → TpO o → Q (.ref p) (upd H1 p (.frz o (.tup xs)))
section
variable {X : Cx} {pos : Pos}
theorem pe_tupF {es : List Expr} {t : TA} {j : Nat} (h : PA X es t) : PE X (.Tuple es j pos) (tTupF t) := ⟨fun pins s σ H Q J q => by
  refine wpAny_Tuple_spliced (thn (h.run pos pins s σ H _ J q) fun us s1 ⟨xs, H1, J1, r, z, q1⟩ => ⟨by rw [← r.length]; exact z, ?_⟩)
  obtain ⟨o, to, J2⟩ := Inv.ltup (t' := s1.toks) J1 r z
  exact ⟨.ref s1.heap.objs.size, _, J2, rfl, q1 _ o (J1.hok.fresh (Nat.le_refl _)) to⟩⟩
def rCatF (K : PySem.W.Frag) : R2 := fun x y H Q => ∃ a b xs ys, x = .ref a ∧ y = .ref b ∧ SqT K H a xs ∧ SqT K H b ys ∧ xs.length + ys.length ≤ sizeLine ∧ (xs = [] → Q (.ref b) H) ∧ (xs ≠ [] → ys = [] → Q (.ref a) H) ∧
  (xs ≠ [] → ys ≠ [] → ∀ p o, H p = none → TpO o → Q (.ref p) (upd H p (.frz o (.tup (xs ++ ys)))))
theorem op_catF : OpR X (binaryOp .Add) (rCatF X.K) := by
  intro pins s σ H x y v u Q J rx ry q
  obtain ⟨a, b, xs, ys, rfl, rfl, ha, hb, hz, q0, q1, q2⟩ := q
  cases rx
  cases ry
  obtain ⟨i1, r1, p1, _⟩ := J.tuple ha
  obtain ⟨i2, r2, p2, _⟩ := J.tuple hb
  by_cases c : xs = []
  · subst c
    cases r1
    exact cat_tup0 p1 p2 ⟨.ref b, H, J, rfl, q0 rfl⟩
  · refine HT.cat_tup p1 p2 (fun z => c (r1.nil_iff.mp z)) (fun z => ⟨.ref a, H, J, rfl, q1 c (r2.nil_iff.mp z)⟩) (fun z => ?_) (by rw [← r1.length, ← r2.length]; exact hz)
    obtain ⟨o, to, J2⟩ := Inv.ltup (t' := s.toks) J (r1.append r2) (by rw [List.length_append]; exact hz)
    exact ⟨.ref s.heap.objs.size, _, J2, rfl, q2 c (fun w => z (r2.nil_iff.mpr w)) _ o (J.hok.fresh (Nat.le_refl _)) to⟩
def rSlF (K : PySem.W.Frag) : V → Option Int → Option Int → Hp → VK → Prop := fun x lo hi H Q => ∃ a xs, x = .ref a ∧ SqT K H a xs ∧
  (HT.sIx xs.length 0 lo = 0 ∧ HT.sIx xs.length xs.length hi = xs.length → Q (.ref a) H) ∧ (¬ (HT.sIx xs.length 0 lo = 0 ∧ HT.sIx xs.length xs.length hi = xs.length) → ∀ p o, H p = none → TpO o → Q (.ref p) (upd H p (.frz o (.tup (cutV xs lo hi)))))
theorem sl_tupF : SlR X (rSlF X.K) := by
  intro pins s σ H x v vl vu lo hi sl Q J rx hs pl pu q
  obtain ⟨a, xs, rfl, hx, q1, q2⟩ := q
  cases rx
  obtain ⟨its, r, ht, hz⟩ := J.tuple hx
  have hn : its.toArray.size = xs.length := by rw [List.size_toArray]; exact r.length.symm
  refine ⟨"tuple", _, PyProof.Rows.slot_tuple_getitem.lookup, ht.typeIs, ?_⟩
  by_cases c : HT.sIx xs.length 0 lo = 0 ∧ HT.sIx xs.length xs.length hi = xs.length
  · exact getItem_tuple_whole ht hs pl pu (by rw [hn]; exact c) ⟨.ref a, H, J, rfl, q1 c⟩
  · refine HT.getItem_tuple_cut ht hs pl pu (by rw [hn]; exact c) ?_ (by rw [hn]; exact hz)
    rw [hn]
    obtain ⟨o, to, J2⟩ := Inv.ltup (t' := s.toks) J ((r.drop (HT.sIx xs.length 0 lo)).take (HT.sIx xs.length xs.length hi - HT.sIx xs.length 0 lo)) (Nat.le_trans (cutV_length xs lo hi) hz)
    exact ⟨.ref s.heap.objs.size, _, J2, rfl, q2 c _ o (J.hok.fresh (Nat.le_refl _)) to⟩
theorem call_tupF : CallR X (.type "tuple") (fun xs H Q => ∃ p ys, xs = [.ref p] ∧ ((SqL X.K H p ys ∧ ∀ l o, H l = none → TpO o → Q (.ref l) (upd H l (.frz o (.tup ys)))) ∨ (SqT X.K H p ys ∧ Q (.ref p) H))) := by
  intro pins s σ H xs us Q J r q
  obtain ⟨p, ys, rfl, q⟩ := q
  obtain ⟨u, rfl, rx⟩ := vals1 r
  cases rx
  rcases q with ⟨hq, q⟩ | ⟨hq, q⟩
  · obtain ⟨its, r2, pl, hz⟩ := J.list hq
    have hl := r2.length
    refine call_tuple_list pl.isList (fun h2 kp => ?_) (by simp only [List.size_toArray] <;> omega)
    have J1 : Inv X pins σ H { s with heap := h2 } := J.kept (t' := s.toks) kp
    obtain ⟨o, to, J2⟩ := Inv.ltup (t' := s.toks) J1 r2 hz
    exact ⟨.ref h2.objs.size, _, J2, rfl, q _ o (J1.hok.fresh (Nat.le_refl _)) to⟩
  · obtain ⟨its, r2, pl, hz⟩ := J.tuple hq
    exact call_tuple_same pl ⟨.ref p, H, J, rfl, q⟩
end
end Mp

end
section
set_option maxRecDepth 100000
set_option maxHeartbeats 4000000
namespace Mp
open PySem PySem.Spec PyProof.Rows L2
section
variable {prog : Program} {w : World} {A : Around} {E : Value → Shared → Prop} {s : Shared}
theorem rev_pick (xs : Array Value) : ((List.range xs.size).filterMap fun (k : Nat) => xs[((xs.size : Int) - 1 + (k : Int) * (-1)).toNat]?).toArray = xs.toList.reverse.toArray := by
  have e : ((List.range xs.size).filterMap fun (k : Nat) => xs[((xs.size : Int) - 1 + (k : Int) * (-1)).toNat]?) = ((List.range xs.size).map fun k => xs.size - 1 - k).filterMap (xs[·]?) := by
    rw [List.filterMap_map]
    have fc : ∀ (f g : Nat → Option Value) (l : List Nat), (∀ k ∈ l, f k = g k) → l.filterMap f = l.filterMap g := fun f g l => by
      induction l with
      | nil => intro _; rfl
      | cons a l ih =>
        intro h
        have e1 := h a List.mem_cons_self
        have e2 := ih fun k hk => h k (List.mem_cons_of_mem _ hk)
        rw [List.filterMap_cons, List.filterMap_cons, e1, e2]
    refine fc _ _ _ fun k hk => ?_
    have := List.mem_range.mp hk
    show xs[((xs.size : Int) - 1 + (k : Int) * (-1)).toNat]? = xs[xs.size - 1 - k]?
    congr 1
    omega
  rw [e, PySem.W.krv_range, List.filterMap_reverse, PySem.W.krv_all]
theorem getItem_tuple_rev {t sl : Addr} {items : Array Value} {vl vu vs : Value} {Q : Value → Shared → Prop} (ht : IsTup s.heap t items) (hs : s.heap.IsSliceOf sl vl vu vs) (pl : IsPart vl none) (pu : IsPart vu none) (ps : IsPart vs (some (-1)))
    (h : Q (.ref s.heap.objs.size) { s with heap := s.heap.push { cls := .type "tuple", data := .seq items.toList.reverse.toArray } })
    (hsz : items.size ≤ sizeLine) : wpAny (model prog w) A (getItem (.ref t) (.ref sl)) Q E s := by
  have hz2 : sizeOk (.seq items.toList.reverse.toArray) := by
    show items.toList.reverse.toArray.size ≤ sizeLine
    rw [List.size_toArray, List.length_reverse, Array.length_toList]
    exact hsz
  obtain ⟨os, hos, hcs, hds⟩ := id hs
  have hTs : s.TypeIs (.ref sl) "slice" := ⟨os, hos, hcs⟩
  unfold getItem
  try with_reducible refine wpAny_holding ?_
  first | refine wpAny_bind (wpAny_pure ?_) | skip
  refine wpAny_bind (wpAny_sequenceKey ht.typeIs (by decide) (wpAny_bind (wpAny_callSpecial?_slot (name := Str.ofString "__getitem__") ht.typeIs PyProof.Rows.slot_tuple_getitem
    (wpAny_call_entry PyProof.Rows.slot_tuple_getitem ht.typeIs PyProof.Rows.entry_tuple_getitem ?_ (PyProof.Rows.args_tuple_getitem _ _)))))
  show wpAny _ _ (Builtin.Tuple.tupleItemsOf (.ref t) >>= _) _ _ s
  refine wpAny_bind (tupleItemsOf_ ht (wpAny_bind (wpAny_typeOf hTs ?_)))
  rw [if_pos (by decide)]
  have ap : ∀ {Q1 : Int × Int × Nat → Shared → Prop}, Q1 ((items.size : Int) - 1, -1, items.size) s → wpAny (model prog w) A.in1 (Builtin.Slice.sliceApplied (.ref sl) (pure (items.size : Int))) Q1 E s := fun {Q1} q => by
    unfold Builtin.Slice.sliceApplied Builtin.Slice.sliceFields
    refine wpAny_bind (wpAny_bind (wpAny_field hos hds (x := vl) rfl (wpAny_bind (wpAny_field hos hds (x := vu) rfl (wpAny_bind (wpAny_field hos hds (x := vs) rfl (wpAny_pure ?_)))))))
    refine wpAny_bind (HT.slicePart_ ps ?_)
    show wpAny _ _ (if ((-1 : Int) == 0) = true then _ else _) _ _ s
    rw [if_neg (by decide)]
    refine wpAny_bind (HT.slicePart_ pl (wpAny_bind (HT.slicePart_ pu (wpAny_bind (wpAny_pure ?_)))))
    have e : Builtin.Slice.slicePlaces ((items.size : Int) - 1) (-1) (-1) = items.size := by
      unfold Builtin.Slice.slicePlaces
      rw [if_neg (by decide), show (- -1 : Int) = 1 from rfl, Int.ediv_one]
      split <;> omega
    show wpAny _ _ (pure ((items.size : Int) - 1, (-1 : Int), Builtin.Slice.slicePlaces ((items.size : Int) - 1) (-1) (-1))) _ _ s
    rw [e]
    exact wpAny_pure q
  refine wpAny_bind (ap ?_)
  have hno : ¬ ((((items.size : Int) - 1) == 0 && (-1 : Int) == 1 && items.size == items.size) = true) := by
    rw [show ((-1 : Int) == 1) = false from rfl, Bool.and_false, Bool.false_and]
    exact Bool.false_ne_true
  show wpAny _ _ (if ((((items.size : Int) - 1) == 0 && (-1 : Int) == 1 && items.size == items.size) = true) then _ else _) _ _ s
  rw [if_neg hno, rev_pick]
  first
    | exact wpAny_bind (m := Builtin.Tuple.tupleExact _) (wpAny_newObj_type (wpAny_pure ⟨_, rfl, wpAny_pure h⟩) hz2)
    | exact wpAny_bind (m := Builtin.Tuple.tupleExact _) (wpAny_newObj_type (wpAny_bind (wpAny_pure (wpAny_pure ⟨_, rfl, wpAny_pure h⟩))) hz2)
    | exact wpAny_bind (wpAny_bind (m := Builtin.Tuple.tupleExact _) (wpAny_newObj_type (wpAny_pure (wpAny_pure ⟨_, rfl, wpAny_pure h⟩)) hz2))
    | exact wpAny_bind (wpAny_bind (m := Builtin.Tuple.tupleExact _) (wpAny_newObj_type (wpAny_pure ⟨_, rfl, wpAny_pure h⟩) hz2))
end
section
variable {X : Cx}
def tRevA (K : PySem.W.Frag) (te : TE) : TE := fun σ H Q => te σ H fun x H1 => ∃ a xs, x = .ref a ∧ ((SqL K H1 a xs ∧ ∀ p, H1 p = none → Q (.ref p) (upd H1 p (.lst xs.reverse))) ∨
  (SqT K H1 a xs ∧ ∀ p o, H1 p = none → TpO o → Q (.ref p) (upd H1 p (.frz o (.tup xs.reverse)))))
theorem pe_revA {e : Expr} {te : TE} {k : Nat} {p1 p2 p3 pos : Pos} (he : PE X e te) : PE X (.Subscript e (.Slice none none (some (.UnaryOp .USub (.Constant (.int 1) k p1) p2)) p3) pos) (tRevA X.K te) := by
  refine ⟨fun pins s σ H Q I h => Subscript_ (thn (he.run pins s σ H _ I h) fun v s1 ⟨x, H1, I1, r1, q1⟩ => ?_)⟩
  obtain ⟨a, xs, ex, q⟩ := q1
  subst ex
  cases r1
  have hst : PO X (some (.UnaryOp .USub (.Constant (.int 1) k p1) p2)) (tPart (tUn (rU fun i => .int (-i)) (tC (.int 1)))) := po_some (pe_un un_neg pe_int)
  refine wpAny_Slice (thn (po_none.run pins s1 σ H1 (fun o H2 => o = none ∧ H2 = H1) I1 ⟨rfl, rfl⟩) fun vl s2 ⟨l, H2, I2, pl, el, e2⟩ => ?_)
  subst el e2
  refine thn (po_none.run pins s2 σ H2 (fun o H3 => o = none ∧ H3 = H2) I2 ⟨rfl, rfl⟩) fun vu s3 ⟨u, H3, I3, pu, eu, e3⟩ => ?_
  subst eu e3
  refine thn (hst.run pins s3 σ H3 (fun o H4 => o = some (-1) ∧ H4 = H3) I3 ⟨1, rfl, -1, rfl, rfl, rfl⟩) fun vs s4 ⟨o, H4, I4, ps, eo, e4⟩ => ?_
  subst eo e4
  have I5 : Inv X pins σ H4 { s4 with heap := s4.heap.push { cls := .type "slice", data := .fields #[vl, vu, vs] } } := I4.kept (t' := s4.toks) fun b ob q => Heap.get?_push_of_some _ q
  show wpAny (model X.prog X.w) X.A (subscriptTail e (.Slice none none (some (.UnaryOp .USub (.Constant (.int 1) k p1) p2)) p3) (.ref a) (.ref s4.heap.objs.size)) (EP X pins σ Q) X.xe { s4 with heap := s4.heap.push { cls := .type "slice", data := .fields #[vl, vu, vs] } }
  rcases q with ⟨hx, q⟩ | ⟨hx, q⟩
  · obtain ⟨its, r, ht, hz⟩ := I5.list hx
    have hlen := r.length
    refine tail_any (ops := [.ref a, .ref s4.heap.objs.size]) ht.isList.typeIs (PySem.slot_list_getitem.lookup) (wpAny_getItem_list_slice ht.isList (Heap.IsSliceOf.new _ vl vu vs) pl pu ps (by decide) ?_ (by rw [List.size_toArray]; omega)) (by with_unfolding_all rfl)
    rw [PySem.W.krv_pick]
    exact ⟨.ref _, _, I5.laid (t' := s4.toks) (o := .lst xs.reverse) (fun b ob q => Heap.get?_push_of_some _ q) (Nat.le_refl _) ⟨by rw [List.length_reverse]; exact hz, _, 0, r.reverse, Heap.get?_push_size _ rfl⟩, rfl, q _ (I5.hok.fresh (Nat.le_refl _))⟩
  · obtain ⟨its, r, ht, hz⟩ := I5.tuple hx
    have hlen := r.length
    refine tail_any (ops := [.ref a, .ref s4.heap.objs.size]) ht.typeIs (PyProof.Rows.slot_tuple_getitem.lookup) (getItem_tuple_rev ht (Heap.IsSliceOf.new _ vl vu vs) pl pu ps ?_ (by rw [List.size_toArray]; omega)) (by with_unfolding_all rfl)
    obtain ⟨o, to, J2⟩ := Inv.ltup (t' := s4.toks) I5 r.reverse (by rw [List.length_reverse]; exact hz)
    exact ⟨.ref _, _, J2, rfl, q _ o (I5.hok.fresh (Nat.le_refl _)) to⟩
def CPowW (i j : Int) : Prop := 0 ≤ j ∧ (Builtin.Int.intBits i : Int) * j ≤ 134217728
theorem op_powW : OpR X (binaryOp .Pow) (rI CPowW fun i j => .int (i ^ j.toNat)) := opI fun _ _ _ _ _ _ _ hc q => pow_int hc.1 (by have := hc.2; omega) q
end
end Mp

end
section
set_option maxRecDepth 100000
set_option maxHeartbeats 4000000
namespace Mp
open PySem PySem.Spec PyProof.Rows L2

/-- an exception as it flies -/
abbrev XRel := List Addr → Hp → List Addr → Xn → Value → Option Addr → Prop
/-- how the text's values stand: the written part, the classes, exceptions; fb: lists that are being made by comprehensions that run -/
structure St0 where
  K : PySem.W.Frag
  cA : Nat → Addr
  XR : XRel
  fb : List Addr
abbrev St0.wf (Z : St0) (f : List Addr) : St0 := { Z with fb := f }
/-- a tuple that stays: tracked as it is, or of the written part -/
def FT (Z : St0) (H : Hp) (bx : List Addr) (a : Addr) (vs : List V) : Prop :=
  vs.length ≤ sizeLine ∧ ((∃ o, H a = some (.frz o (.tup vs)) ∧ TpO o ∧ a ∉ bx ∧ a ∉ Z.fb) ∨
    ∃ (o : Obj) (its : Array Value) (n : Nat), Z.K.lookup a = some o ∧ TpO o ∧ o.data = .seq its n ∧ its.size ≤ sizeLine ∧ Vals vs its.toList)
/-- a list that stays -/
def FL (Z : St0) (H : Hp) (bx : List Addr) (a : Addr) (vs : List V) : Prop :=
  vs.length ≤ sizeLine ∧ ((Rd H a (.lst vs) ∧ a ∉ bx ∧ a ∉ Z.fb) ∨
    ∃ (o : Obj) (its : Array Value) (n : Nat), Z.K.lookup a = some o ∧ o.cls = .type "list" ∧ o.dict = none ∧ o.data = .seq its n ∧ its.size ≤ sizeLine ∧ Vals vs its.toList)
mutual
def Rep (Z : St0) (H : Hp) (bx : List Addr) : D → V → Prop
  | .non, v => v = .non
  | .bl b, v => v = .bl b
  | .int i, v => v = .int i
  | .str x, v => v = .str x
  | .tup xs, v => ∃ a vs, v = .ref a ∧ FT Z H bx a vs ∧ RepL Z H bx xs vs
  | .lst xs, v => ∃ a vs, v = .ref a ∧ FL Z H bx a vs ∧ RepL Z H bx xs vs
  | .box n, v => ∃ a, v = .ref a ∧ bx[n]? = some a
  | .obj c xs, v => ∃ a dx vs, v = .ref a ∧ H a = some (SlX.SlO a (Z.cA c) dx (vs.map some)) ∧ H dx = some (.xd []) ∧ (a ∉ bx ∧ a ∉ Z.fb) ∧ (dx ∉ bx ∧ dx ∉ Z.fb) ∧ RepL Z H bx xs vs
def RepL (Z : St0) (H : Hp) (bx : List Addr) : List D → List V → Prop
  | [], vs => vs = []
  | x :: xs, vs => ∃ v r, vs = v :: r ∧ Rep Z H bx x v ∧ RepL Z H bx xs r
end
/-- later heaps -/
structure Ext (H : Hp) (bx : List Addr) (H' : Hp) (bx' : List Addr) : Prop where
  keep : ∀ a o, H a = some o → a ∉ bx → H' a = some o
  there : ∀ a, H a ≠ none → H' a ≠ none
  pre : ∃ more, bx' = bx ++ more ∧ ∀ a ∈ more, H a = none
theorem Ext.refl (H : Hp) (bx : List Addr) : Ext H bx H bx := ⟨fun _ _ h _ => h, fun _ h => h, [], by simp, fun _ h => by simp at h⟩
theorem Ext.notin {H H' : Hp} {bx bx' : List Addr} (e : Ext H bx H' bx') {a : Addr} {o : HO} (h : H a = some o) (n : a ∉ bx) : a ∉ bx' := by
  obtain ⟨more, rfl, hm⟩ := e.pre
  intro z
  rcases List.mem_append.mp z with z | z
  · exact n z
  · rw [hm a z] at h
    cases h
theorem Ext.trans {H1 H2 H3 : Hp} {b1 b2 b3 : List Addr} (x : Ext H1 b1 H2 b2) (y : Ext H2 b2 H3 b3) : Ext H1 b1 H3 b3 where
  keep := fun a o h n => y.keep a o (x.keep a o h n) (x.notin h n)
  there := fun a h => y.there a (x.there a h)
  pre := by
    obtain ⟨m1, rfl, h1⟩ := x.pre
    obtain ⟨m2, rfl, h2⟩ := y.pre
    refine ⟨m1 ++ m2, by simp, fun a ha => ?_⟩
    rcases List.mem_append.mp ha with z | z
    · exact h1 a z
    · cases q : H1 a with
      | none => rfl
      | some o => exact absurd (h2 a z) (x.there a (by rw [q]; simp))
theorem Ext.get {H H' : Hp} {bx bx' : List Addr} (e : Ext H bx H' bx') {n : Nat} {a : Addr} (h : bx[n]? = some a) : bx'[n]? = some a := by
  obtain ⟨more, rfl, _⟩ := e.pre
  rw [List.getElem?_append_left (List.getElem?_eq_some_iff.mp h).1]
  exact h
theorem Ext.rd {H H' : Hp} {bx bx' : List Addr} (e : Ext H bx H' bx') {a : Addr} {u : HO} (h : Rd H a u) (n : a ∉ bx) : Rd H' a u ∧ a ∉ bx' := by
  rcases h with h | ⟨o, h⟩
  · exact ⟨.inl (e.keep _ _ h n), e.notin h n⟩
  · exact ⟨.inr ⟨o, e.keep _ _ h n⟩, e.notin h n⟩
theorem Ext.ft {Z : St0} {H H' : Hp} {bx bx' : List Addr} (e : Ext H bx H' bx') {a : Addr} {vs : List V} (h : FT Z H bx a vs) : FT Z H' bx' a vs := by
  obtain ⟨l, ⟨o, h1, h2, h3, h4⟩ | h⟩ := h
  · exact ⟨l, .inl ⟨o, e.keep _ _ h1 h3, h2, e.notin h1 h3, h4⟩⟩
  · exact ⟨l, .inr h⟩
theorem Ext.fl {Z : St0} {H H' : Hp} {bx bx' : List Addr} (e : Ext H bx H' bx') {a : Addr} {vs : List V} (h : FL Z H bx a vs) : FL Z H' bx' a vs := by
  obtain ⟨l, h | h⟩ := h
  · exact ⟨l, .inl ⟨(e.rd h.1 h.2.1).1, (e.rd h.1 h.2.1).2, h.2.2⟩⟩
  · exact ⟨l, .inr h⟩
mutual
theorem Rep.ext {Z : St0} {H H' : Hp} {bx bx' : List Addr} (e : Ext H bx H' bx') : ∀ (d : D) {v : V}, Rep Z H bx d v → Rep Z H' bx' d v
  | .non, _, h => h
  | .bl _, _, h => h
  | .int _, _, h => h
  | .str _, _, h => h
  | .tup xs, _, h => by
    obtain ⟨a, vs, q, f, r⟩ := h
    exact ⟨a, vs, q, e.ft f, RepL.ext e xs r⟩
  | .lst xs, _, h => by
    obtain ⟨a, vs, q, f, r⟩ := h
    exact ⟨a, vs, q, e.fl f, RepL.ext e xs r⟩
  | .box n, _, h => by
    obtain ⟨a, q, f⟩ := h
    exact ⟨a, q, e.get f⟩
  | .obj c xs, _, h => by
    obtain ⟨a, dx, vs, q, h1, h2, n1, n2, r⟩ := h
    exact ⟨a, dx, vs, q, e.keep _ _ h1 n1.1, e.keep _ _ h2 n2.1, ⟨e.notin h1 n1.1, n1.2⟩, ⟨e.notin h2 n2.1, n2.2⟩, RepL.ext e xs r⟩
theorem RepL.ext {Z : St0} {H H' : Hp} {bx bx' : List Addr} (e : Ext H bx H' bx') : ∀ (ds : List D) {vs : List V}, RepL Z H bx ds vs → RepL Z H' bx' ds vs
  | [], _, h => h
  | x :: xs, _, h => by
    obtain ⟨v, r, q, h1, h2⟩ := h
    exact ⟨v, r, q, Rep.ext e x h1, RepL.ext e xs h2⟩
end
section
variable {Z : St0} {H H' : Hp} {bx bx' : List Addr}
theorem RepL.length : ∀ {ds : List D} {vs : List V}, RepL Z H bx ds vs → vs.length = ds.length
  | [], _, h => by
    have h : _ = _ := h
    subst h
    rfl
  | x :: xs, _, h => by
    obtain ⟨v, r, rfl, h1, h2⟩ := h
    rw [List.length_cons, List.length_cons, RepL.length h2]
theorem RepL.nil : RepL Z H bx [] [] := rfl
theorem RepL.cons {d : D} {v : V} {ds : List D} {vs : List V} (h : Rep Z H bx d v) (r : RepL Z H bx ds vs) : RepL Z H bx (d :: ds) (v :: vs) := ⟨v, vs, rfl, h, r⟩
theorem RepL.append : ∀ {ds es : List D} {vs ws : List V}, RepL Z H bx ds vs → RepL Z H bx es ws → RepL Z H bx (ds ++ es) (vs ++ ws)
  | [], _, _, _, h, r => by
    have h : _ = _ := h
    subst h
    exact r
  | x :: xs, _, _, _, h, r => by
    obtain ⟨v, r2, rfl, h1, h2⟩ := h
    exact ⟨v, r2 ++ _, rfl, h1, RepL.append h2 r⟩
theorem RepL.get : ∀ {ds : List D} {vs : List V} {i : Nat} {d : D}, RepL Z H bx ds vs → ds[i]? = some d → ∃ v, vs[i]? = some v ∧ Rep Z H bx d v
  | [], _, _, _, _, e => by simp at e
  | x :: xs, _, 0, d, h, e => by
    obtain ⟨v, r, rfl, h1, h2⟩ := h
    have e : x = d := by simpa using e
    subst e
    exact ⟨v, rfl, h1⟩
  | x :: xs, _, i + 1, d, h, e => by
    obtain ⟨v, r, rfl, h1, h2⟩ := h
    have e : xs[i]? = some d := by simpa using e
    obtain ⟨w, q, h3⟩ := RepL.get h2 e
    exact ⟨w, by simpa using q, h3⟩
theorem RepL.drop : ∀ {ds : List D} {vs : List V} (n : Nat), RepL Z H bx ds vs → RepL Z H bx (ds.drop n) (vs.drop n)
  | _, _, 0, h => by simpa using h
  | [], _, n + 1, h => by
    have h : _ = _ := h
    subst h
    exact rfl
  | x :: xs, _, n + 1, h => by
    obtain ⟨v, r, rfl, h1, h2⟩ := h
    simpa using RepL.drop n h2
theorem RepL.take : ∀ {ds : List D} {vs : List V} (n : Nat), RepL Z H bx ds vs → RepL Z H bx (ds.take n) (vs.take n)
  | _, _, 0, h => by
    rw [List.take_zero, List.take_zero]
    exact rfl
  | [], _, n + 1, h => by
    have h : _ = _ := h
    subst h
    exact rfl
  | x :: xs, _, n + 1, h => by
    obtain ⟨v, r, rfl, h1, h2⟩ := h
    exact ⟨v, r.take n, rfl, h1, RepL.take n h2⟩
theorem RepL.reverse : ∀ {ds : List D} {vs : List V}, RepL Z H bx ds vs → RepL Z H bx ds.reverse vs.reverse
  | [], _, h => by
    have h : _ = _ := h
    subst h
    exact rfl
  | x :: xs, _, h => by
    obtain ⟨v, r, rfl, h1, h2⟩ := h
    rw [List.reverse_cons, List.reverse_cons]
    exact (RepL.reverse h2).append (.cons h1 .nil)
theorem RepL.set : ∀ {ds : List D} {vs : List V} {d : D} {v : V} (i : Nat), RepL Z H bx ds vs → Rep Z H bx d v → RepL Z H bx (ds.set i d) (vs.set i v)
  | [], _, _, _, _, h, _ => by
    have h : _ = _ := h
    subst h
    exact rfl
  | x :: xs, _, _, _, 0, h, q => by
    obtain ⟨v, r, rfl, h1, h2⟩ := h
    exact ⟨_, r, rfl, q, h2⟩
  | x :: xs, _, _, _, i + 1, h, q => by
    obtain ⟨v, r, rfl, h1, h2⟩ := h
    exact ⟨_, r.set i _, rfl, h1, RepL.set i h2 q⟩
end
inductive KVR (R : D → V → Prop) {κ : Type} : List (κ × D) → List (κ × V) → Prop where
  | nil : KVR R [] []
  | cons {k : κ} {d : D} {v : V} {r : List (κ × D)} {s : List (κ × V)} (h : R d v) (t : KVR R r s) : KVR R ((k, d) :: r) ((k, v) :: s)
theorem KVR.imp {R R' : D → V → Prop} {κ : Type} (f : ∀ d v, R d v → R' d v) : ∀ {r : List (κ × D)} {s : List (κ × V)}, KVR R r s → KVR R' r s
  | _, _, .nil => .nil
  | _, _, .cons h t => .cons (f _ _ h) (KVR.imp f t)
theorem KVR.length {R : D → V → Prop} {κ : Type} : ∀ {r : List (κ × D)} {s : List (κ × V)}, KVR R r s → s.length = r.length
  | _, _, .nil => rfl
  | _, _, .cons h t => by rw [List.length_cons, List.length_cons, KVR.length t]
def BRep (Z : St0) (H : Hp) (bx : List Addr) : BO → Option HO → Prop
  | .lst xs, o => ∃ vs, o = some (.lst vs) ∧ vs.length ≤ sizeLine ∧ RepL Z H bx xs vs
  | .dK kvs, o => ∃ vs, o = some (.dK vs) ∧ vs.length ≤ sizeLine ∧ KVR (Rep Z H bx) kvs vs
  | .dT kvs, o => ∃ vs, o = some (.dT vs) ∧ vs.length ≤ sizeLine ∧ KVR (Rep Z H bx) kvs vs
theorem BRep.ext {Z : St0} {H H' : Hp} {bx bx' : List Addr} (e : Ext H bx H' bx') {o : BO} {u : Option HO} (h : BRep Z H bx o u) : BRep Z H' bx' o u := by
  cases o with
  | lst xs =>
    obtain ⟨vs, q, z, r⟩ := h
    exact ⟨vs, q, z, RepL.ext e _ r⟩
  | dK kvs =>
    obtain ⟨vs, q, z, r⟩ := h
    exact ⟨vs, q, z, r.imp fun d v z => Rep.ext e d z⟩
  | dT kvs =>
    obtain ⟨vs, q, z, r⟩ := h
    exact ⟨vs, q, z, r.imp fun d v z => Rep.ext e d z⟩
structure HeapR (Z : St0) (H : Hp) (bx : List Addr) (h : HP) : Prop where
  nd : bx.Nodup
  fbt : ∀ a ∈ Z.fb, H a ≠ none
  fbb : ∀ a ∈ Z.fb, a ∉ bx
  len : bx.length = h.length
  at_ : ∀ (n : Nat) (a : Addr) (o : BO), bx[n]? = some a → h[n]? = some o → BRep Z H bx o (H a)
section
variable {Z : St0} {H H' : Hp} {bx bx' : List Addr} {h h' : HP}
theorem HeapR.tracked (R : HeapR Z H bx h) {a : Addr} (m : a ∈ bx) : H a ≠ none := by
  obtain ⟨n, hn, e⟩ := List.mem_iff_getElem.mp m
  have h1 : bx[n]? = some a := by rw [List.getElem?_eq_getElem hn, e]
  have h2 : n < h.length := by rw [← R.len]; exact hn
  have z := R.at_ n a h[n] h1 (by simp [h2])
  cases q : h[n] with
  | lst xs =>
    rw [q] at z
    obtain ⟨vs, e, _⟩ := z
    rw [e]
    simp
  | dK kvs =>
    rw [q] at z
    obtain ⟨vs, e, _⟩ := z
    rw [e]
    simp
  | dT kvs =>
    rw [q] at z
    obtain ⟨vs, e, _⟩ := z
    rw [e]
    simp
theorem HeapR.free (R : HeapR Z H bx h) {p : Addr} (n : H p = none) : p ∉ bx := fun m => R.tracked m n
theorem HeapR.ffree (R : HeapR Z H bx h) {p : Addr} (n : H p = none) : p ∉ Z.fb := fun m => R.fbt p m n
/-- a new object that is no box -/
theorem ext_new (R : HeapR Z H bx h) {p : Addr} (o : HO) (n : H p = none) : Ext H bx (upd H p o) bx where
  keep := fun a u q _ => by rw [upd_ne (ne_of_none q n)]; exact q
  there := fun a q => by
    by_cases e : a = p
    · subst e; rw [upd_same]; simp
    · rw [upd_ne e]; exact q
  pre := ⟨[], by simp, fun _ m => by simp at m⟩
theorem heap_new (R : HeapR Z H bx h) {p : Addr} (o : HO) (n : H p = none) : HeapR Z (upd H p o) bx h where
  nd := R.nd
  fbt := fun a m => (ext_new R o n).there a (R.fbt a m)
  fbb := R.fbb
  len := R.len
  at_ := fun i a u h1 h2 => by
    have z := R.at_ i a u h1 h2
    have ne : a ≠ p := fun e => R.free n (e ▸ List.mem_of_getElem? h1)
    rw [upd_ne ne]
    exact z.ext (ext_new R o n)
/-- a new box -/
theorem ext_box (R : HeapR Z H bx h) {p : Addr} (o : HO) (n : H p = none) : Ext H bx (upd H p o) (bx ++ [p]) where
  keep := (ext_new R o n).keep
  there := (ext_new R o n).there
  pre := ⟨[p], rfl, fun a m => by
    have e : a = p := by simpa using m
    rw [e]; exact n⟩
theorem heap_box (R : HeapR Z H bx h) {p : Addr} (o : HO) (b : BO) (n : H p = none) (hb : BRep Z H bx b (some o)) : HeapR Z (upd H p o) (bx ++ [p]) (h ++ [b]) where
  nd := by
    rw [List.nodup_append]
    refine ⟨R.nd, by simp, fun a ha c hc => ?_⟩
    have e : c = p := by simpa using hc
    rw [e]
    exact fun q => R.free n (q ▸ ha)
  fbt := fun a m => (ext_box R o n).there a (R.fbt a m)
  fbb := fun a m => by
    rw [List.mem_append]
    rintro (z | z)
    · exact R.fbb a m z
    · have e : a = p := by simpa using z
      exact R.ffree n (e ▸ m)
  len := by rw [List.length_append, List.length_append, R.len]; rfl
  at_ := fun i a u h1 h2 => by
    have E := ext_box R o n
    by_cases hi : i < bx.length
    · rw [List.getElem?_append_left hi] at h1
      rw [List.getElem?_append_left (by rw [← R.len]; exact hi)] at h2
      have z := R.at_ i a u h1 h2
      have ne : a ≠ p := fun e => R.free n (e ▸ List.mem_of_getElem? h1)
      rw [upd_ne ne]
      exact z.ext E
    · have e1 : i = bx.length := by
        have := (List.getElem?_eq_some_iff.mp h1).1
        rw [List.length_append] at this
        simp at this
        omega
      subst e1
      rw [List.getElem?_append_right (Nat.le_refl _)] at h1
      rw [List.getElem?_append_right (by rw [R.len]; exact Nat.le_refl _)] at h2
      have e2 : p = a := by simpa using h1
      have e3 : b = u := by simpa [R.len] using h2
      subst e2 e3
      rw [upd_same]
      exact hb.ext E
/-- a box is written -/
theorem ext_set (R : HeapR Z H bx h) {n : Nat} {a : Addr} (o : HO) (e : bx[n]? = some a) : Ext H bx (upd H a o) bx where
  keep := fun b u q m => by rw [upd_ne (fun z => m (by rw [z]; exact List.mem_of_getElem? e))]; exact q
  there := fun b q => by
    by_cases z : b = a
    · subst z; rw [upd_same]; simp
    · rw [upd_ne z]; exact q
  pre := ⟨[], by simp, fun _ m => by simp at m⟩
theorem heap_set (R : HeapR Z H bx h) {n : Nat} {a : Addr} (o : HO) (b : BO) (e : bx[n]? = some a) (hb : BRep Z H bx b (some o)) : HeapR Z (upd H a o) bx (h.set n b) where
  nd := R.nd
  fbt := fun c m => (ext_set R o e).there c (R.fbt c m)
  fbb := R.fbb
  len := by rw [List.length_set]; exact R.len
  at_ := fun i c u h1 h2 => by
    have E := ext_set R o e
    by_cases hi : i = n
    · subst hi
      rw [e] at h1
      have ec : a = c := Option.some.inj h1
      subst ec
      have hl : i < h.length := by rw [← R.len]; exact (List.getElem?_eq_some_iff.mp e).1
      rw [List.getElem?_set_self hl] at h2
      have eu : b = u := Option.some.inj h2
      subst eu
      rw [upd_same]
      exact hb.ext E
    · rw [List.getElem?_set_ne (fun z => hi z.symm)] at h2
      have z := R.at_ i c u h1 h2
      have ne : c ≠ a := fun q => by
        subst q
        obtain ⟨l1, g1⟩ := List.getElem?_eq_some_iff.mp h1
        obtain ⟨l2, g2⟩ := List.getElem?_eq_some_iff.mp e
        exact hi ((List.getElem_inj R.nd).mp (g1.trans g2.symm))
      rw [upd_ne ne]
      exact z.ext E
end
section
variable {Z : St0} {H H' : Hp} {bx bx' : List Addr} {h h' : HP}
theorem FT.sq {a : Addr} {vs : List V} (f : FT Z H bx a vs) : SqT Z.K H a vs := by
  obtain ⟨_, ⟨o, f, _⟩ | ⟨o, its, n, h1, h2, h3, h4, h5⟩⟩ := f
  · exact .inl (.inr ⟨o, f⟩)
  · exact .inr ⟨o, its, n, h1, h2.cls, h3, h4, h5⟩
theorem FL.sq {a : Addr} {vs : List V} (f : FL Z H bx a vs) : SqL Z.K H a vs := by
  obtain ⟨_, f | f⟩ := f
  · exact .inl f.1
  · exact .inr f
theorem rep_tup (R : HeapR Z H bx h) {p : Addr} {o : Obj} (n : H p = none) (to : TpO o) {ds : List D} {vs : List V} (r : RepL Z H bx ds vs) (hl : vs.length ≤ sizeLine) : Rep Z (upd H p (.frz o (.tup vs))) bx (.tup ds) (.ref p) :=
  ⟨p, vs, rfl, ⟨hl, .inl ⟨o, upd_same, to, R.free n, R.ffree n⟩⟩, RepL.ext (ext_new R _ n) _ r⟩
theorem rep_lst (R : HeapR Z H bx h) {p : Addr} (n : H p = none) {ds : List D} {vs : List V} (r : RepL Z H bx ds vs) (hl : vs.length ≤ sizeLine) : Rep Z (upd H p (.lst vs)) bx (.lst ds) (.ref p) :=
  ⟨p, vs, rfl, ⟨hl, .inl ⟨.inl upd_same, R.free n, R.ffree n⟩⟩, RepL.ext (ext_new R _ n) _ r⟩
theorem rep_box (R : HeapR Z H bx h) {p : Addr} (o : HO) (n : H p = none) : Rep Z (upd H p o) (bx ++ [p]) (.box h.length) (.ref p) :=
  ⟨p, rfl, by rw [← R.len]; simp⟩
end
abbrev WK := Value → Option Addr → Hp → Prop
def Pst (Z : St0) (H : Hp) (bx : List Addr) (W : WK) {α β : Type} (R : Hp → List Addr → α → β → Prop) (r : Rs α) (Q : β → Hp → Prop) : Prop := match r with
  | .ok a h' => ∀ H' bx' b, Ext H bx H' bx' → HeapR Z H' bx' h' → R H' bx' a b → Q b H'
  | .exc x h' => ∀ H' bx' c d, Ext H bx H' bx' → HeapR Z H' bx' h' → Z.XR Z.fb H' bx' x c d → W c d H'
  | .bad => False
section
variable {Z : St0} {H H' : Hp} {bx bx' : List Addr} {W : WK}
theorem Pst.ext {α β : Type} {R : Hp → List Addr → α → β → Prop} {r : Rs α} {Q : β → Hp → Prop} (h : Pst Z H bx W R r Q) (e : Ext H bx H' bx') : Pst Z H' bx' W R r Q := by
  cases r with
  | ok a h' => exact fun H2 bx2 b e2 => h H2 bx2 b (e.trans e2)
  | exc x h' => exact fun H2 bx2 c d e2 => h H2 bx2 c d (e.trans e2)
  | bad => exact h
theorem Pst.bnd {α β γ δ : Type} {R : Hp → List Addr → α → β → Prop} {R2 : Hp → List Addr → γ → δ → Prop} {r : Rs α} {k : α → HP → Rs γ} {Q : δ → Hp → Prop} {Q1 : β → Hp → Prop} (h : Pst Z H bx W R2 (r.bnd k) Q)
    (f : ∀ a h' H' bx' b, Ext H bx H' bx' → HeapR Z H' bx' h' → R H' bx' a b → Pst Z H' bx' W R2 (k a h') Q → Q1 b H') : Pst Z H bx W R r Q1 := by
  cases r with
  | ok a h' => exact fun H2 bx2 b e2 hr rr => f a h' H2 bx2 b e2 hr rr (Pst.ext h e2)
  | exc x h' => exact h
  | bad => exact h
theorem Pst.bndE {α β γ δ : Type} {R : Hp → List Addr → α → β → Prop} {R2 : Hp → List Addr → γ → δ → Prop} {r : Rs α} {k : α → HP → Rs γ} {Q : δ → Hp → Prop} {Q1 : β → Hp → Prop} (h : Pst Z H bx W R2 (r.bnd k) Q)
    (f : ∀ a h' H' bx' b, r = .ok a h' → Ext H bx H' bx' → HeapR Z H' bx' h' → R H' bx' a b → Pst Z H' bx' W R2 (k a h') Q → Q1 b H') : Pst Z H bx W R r Q1 := by
  cases r with
  | ok a h' => exact fun H2 bx2 b e2 hr rr => f a h' H2 bx2 b rfl e2 hr rr (Pst.ext h e2)
  | exc x h' => exact h
  | bad => exact h
theorem Pst.ok {α β : Type} {R : Hp → List Addr → α → β → Prop} {a : α} {h : HP} {b : β} {Q : β → Hp → Prop} (p : Pst Z H bx W R (.ok a h) Q) (hr : HeapR Z H bx h) (r : R H bx a b) : Q b H := p H bx b (Ext.refl _ _) hr r
end
/-- slots -/
structure EnvR (Z : St0) (H : Hp) (bx : List Addr) (σ : L2.St) (env : Env) : Prop where
  len : σ.length = env.length
  at_ : ∀ (i : Nat) (d : D), env[i]? = some (some d) → ∃ v, σ[i]? = some (some v) ∧ Rep Z H bx d v
section
variable {Z : St0} {H H' : Hp} {bx bx' : List Addr} {σ : L2.St} {env : Env}
theorem EnvR.ext (h : EnvR Z H bx σ env) (e : Ext H bx H' bx') : EnvR Z H' bx' σ env := ⟨h.len, fun i d q => by
  obtain ⟨v, h1, h2⟩ := h.at_ i d q
  exact ⟨v, h1, Rep.ext e d h2⟩⟩
theorem EnvR.set (h : EnvR Z H bx σ env) {i : Nat} {d : D} {v : V} (r : Rep Z H bx d v) : EnvR Z H bx (σ.set i (some v)) (env.set i (some d)) := by
  refine ⟨by simp [h.len], fun j e q => ?_⟩
  by_cases hj : j = i
  · subst hj
    have hl : j < env.length := by
      have := (List.getElem?_eq_some_iff.mp q).1
      simpa using this
    rw [List.getElem?_set_self hl] at q
    have q : d = e := Option.some.inj (Option.some.inj q)
    subst q
    exact ⟨v, List.getElem?_set_self (by rw [h.len]; exact hl), r⟩
  · rw [List.getElem?_set_ne (fun z => hj z.symm)] at q
    obtain ⟨w, h1, h2⟩ := h.at_ j e q
    exact ⟨w, by rw [List.getElem?_set_ne (fun z => hj z.symm)]; exact h1, h2⟩
theorem EnvR.forget (h : EnvR Z H bx σ env) (i : Nat) : EnvR Z H bx (σ.set i none) (env.set i none) := by
  refine ⟨by simp [h.len], fun j e q => ?_⟩
  by_cases hj : j = i
  · subst hj
    have hl : j < env.length := by
      have := (List.getElem?_eq_some_iff.mp q).1
      simpa using this
    rw [List.getElem?_set_self hl] at q
    cases q
  · rw [List.getElem?_set_ne (fun z => hj z.symm)] at q
    obtain ⟨w, h1, h2⟩ := h.at_ j e q
    exact ⟨w, by rw [List.getElem?_set_ne (fun z => hj z.symm)]; exact h1, h2⟩
theorem EnvR.wipe (h : EnvR Z H bx σ env) : ∀ vs : List Nat, EnvR Z H bx (wipe σ vs) (wipeD env vs)
  | [] => h
  | v :: vs => (EnvR.wipe h vs).forget v
end
end Mp

end
section
set_option maxRecDepth 100000
set_option maxHeartbeats 4000000
namespace Mp
open PySem PySem.Spec PyProof.Rows L2

section
variable {X : Cx}
theorem pe_imp {e : Expr} {t t' : TE} (h : PE X e t) (f : ∀ σ H Q, t' σ H Q → t σ H Q) : PE X e t' := ⟨fun pins s σ H Q I hw => h.run pins s σ H Q I (f σ H Q hw)⟩
theorem pt_imp {e : Expr} {t t' : TT} (h : PT X e t) (f : ∀ σ H Q, t' σ H Q → t σ H Q) : PT X e t' := ⟨fun pins s σ H Q I hw => h.run pins s σ H Q I (f σ H Q hw)⟩
theorem pw_imp {e : Expr} {t t' : TT} (h : L2.PW X e t) (f : ∀ σ H Q, t' σ H Q → t σ H Q) : L2.PW X e t' := ⟨fun wh pins s σ H Q I hw => h.run wh pins s σ H Q I (f σ H Q hw)⟩
theorem pa_imp {e : List Expr} {t t' : TA} (h : PA X e t) (f : ∀ σ H Q, t' σ H Q → t σ H Q) : PA X e t' := ⟨fun pos pins s σ H Q I hw => h.run pos pins s σ H Q I (f σ H Q hw)⟩
theorem ps_imp {e : Stmt} {t t' : TS} (h : PS X e t) (f : ∀ D σ H, t' D σ H → t D σ H) : PS X e t' := ⟨fun pins s σ H D I hw => h.run pins s σ H D I (f D σ H hw)⟩
theorem pss_imp {e : List Stmt} {t t' : TS} (h : PSs X e t) (f : ∀ D σ H, t' D σ H → t D σ H) : PSs X e t' := ⟨fun pins s σ H D I hw => h.run pins s σ H D I (f D σ H hw)⟩
theorem opR_imp {F : Value → Value → Sem Value} {r r' : R2} (h : OpR X F r) (f : ∀ x y H Q, r' x y H Q → r x y H Q) : OpR X F r' := fun pins s σ H x y v u Q I rx ry q => h pins s σ H x y v u Q I rx ry (f x y H Q q)
theorem unR_imp {F : Value → Sem Value} {r r' : V → Hp → VK → Prop} (h : UnR X F r) (f : ∀ x H Q, r' x H Q → r x H Q) : UnR X F r' := fun pins s σ H x v Q I rx q => h pins s σ H x v Q I rx (f x H Q q)
theorem callR_imp {F : Value} {r r' : List V → Hp → VK → Prop} (h : CallR X F r) (f : ∀ x H Q, r' x H Q → r x H Q) : CallR X F r' := fun pins s σ H x v Q I rx q => h pins s σ H x v Q I rx (f x H Q q)
end

/-- what is fixed: names of the text's defs, constants, classes -/
structure Tab where
  fnm : Nat → Str
  gnm : Nat → Str
  gl : Nat → D
  cnm : Nat → Str
structure CC where
  N : List Str
  sc : Scope
  fn : Str → Bool
abbrev RepS (Z : St0) : Hp → List Addr → D → V → Prop := Rep Z
abbrev RepLS (Z : St0) : Hp → List Addr → List D → List V → Prop := RepL Z
abbrev HeapS (Z : St0) : Hp → List Addr → HP → Prop := HeapR Z
abbrev EnvS (Z : St0) : Hp → List Addr → L2.St → Env → Prop := EnvR Z
abbrev PstS (Z : St0) (H : Hp) (bx : List Addr) (W : WK) {α β : Type} (R : Hp → List Addr → α → β → Prop) (r : Rs α) (Q : β → Hp → Prop) : Prop := Pst Z H bx W R r Q
/-- the reading of a piece of code by a function of the small language -/
def tG (Z : St0) {α β : Type} (R : Hp → List Addr → α → β → Prop) (W : WX) (f : Env → HP → Rs α) : L2.St → Hp → (β → Hp → Prop) → Prop := fun σ H Q =>
  ∃ bx env h, EnvS Z H bx σ env ∧ HeapS Z H bx h ∧ PstS Z H bx (fun c d H' => W c d σ H') R (f env h) Q
abbrev tE (Z : St0) (W : WX) (f : Env → HP → Rs D) : TE := tG Z (RepS Z) W f
abbrev tA (Z : St0) (W : WX) (f : Env → HP → Rs (List D)) : TA := tG Z (RepLS Z) W f
abbrev EqB : Hp → List Addr → Bool → Bool → Prop := fun _ _ a b => a = b
abbrev tT (Z : St0) (W : WX) (f : Env → HP → Rs Bool) : TT := tG Z EqB W f
/-- a def's promise -/
def spF (Z : St0) (n : Nat) (g : List D → HP → Rs D) : Sp := fun vs H Q E =>
  ∃ fb bx ds h, RepLS (Z.wf fb) H bx ds vs ∧ HeapS (Z.wf fb) H bx h ∧ ds.length = n ∧ PstS (Z.wf fb) H bx E (RepS (Z.wf fb)) (g ds h) Q
section
variable {Z : St0} {X : Cx} {W : WX}
/-- one behind the other -/
theorem tG_bnd {α β γ δ : Type} {R : Hp → List Addr → α → β → Prop} {R2 : Hp → List Addr → γ → δ → Prop} {f : Env → HP → Rs α} {g : Env → α → HP → Rs γ} {σ : L2.St} {H : Hp} {Q : δ → Hp → Prop} {Q1 : β → Hp → Prop}
    (h : tG Z R2 W (fun env h => (f env h).bnd (g env)) σ H Q)
    (k : ∀ env a h' H' bx' b, EnvS Z H' bx' σ env → HeapS Z H' bx' h' → R H' bx' a b → PstS Z H' bx' (fun c d H' => W c d σ H') R2 (g env a h') Q → Q1 b H') : tG Z R W f σ H Q1 := by
  obtain ⟨bx, env, hp, he, hh, p⟩ := h
  exact ⟨bx, env, hp, he, hh, Pst.bnd p fun a h' H' bx' b e hr r q => k env a h' H' bx' b (he.ext e) hr r q⟩
end
section
variable {Z : St0} {X : Cx}
/-- two values -/
def r2 (Z : St0) (g : List D → HP → Rs D) : R2 := fun x y H Q => ∃ (W : WK) (bx : List Addr) (d e : D) (h : HP), RepS Z H bx d x ∧ RepS Z H bx e y ∧ HeapS Z H bx h ∧ PstS Z H bx W (RepS Z) (g [d, e] h) Q
def r1 (Z : St0) (g : List D → HP → Rs D) : V → Hp → VK → Prop := fun x H Q => ∃ (W : WK) (bx : List Addr) (d : D) (h : HP), RepS Z H bx d x ∧ HeapS Z H bx h ∧ PstS Z H bx W (RepS Z) (g [d] h) Q
def rL (Z : St0) (g : List D → HP → Rs D) : List V → Hp → VK → Prop := fun xs H Q => ∃ (W : WK) (bx : List Addr) (ds : List D) (h : HP), RepLS Z H bx ds xs ∧ HeapS Z H bx h ∧ PstS Z H bx W (RepS Z) (g ds h) Q
theorem r2_int {f : Int → Int → HP → Rs D} {C : Int → Int → Prop} {v : Int → Int → V} (h1 : ∀ i j h, (∃ d, f i j h = .ok d h ∧ C i j ∧ ∀ H bx, RepS Z H bx d (v i j)) ∨ f i j h = .bad) :
    ∀ x y H Q, r2 Z (fun ds h => int2 (fun i j => f i j h) ds) x y H Q → rI C v x y H Q := by
  intro x y H Q q
  obtain ⟨W, bx, d, e, h, r1, r2, hr, p⟩ := q
  cases d <;> cases e <;> first | exact False.elim p | skip
  rename_i i j
  have r1 : x = _ := r1
  have r2 : y = _ := r2
  have p : Pst Z H bx W (RepS Z) (f i j h) Q := p
  rcases h1 i j h with ⟨d, e, c, r⟩ | e
  · rw [e] at p
    exact ⟨i, j, r1, r2, c, p.ok hr (r H bx)⟩
  · rw [e] at p
    exact False.elim p
theorem rI0_of {v : Int → Int → V} {C : Int → Int → Prop} {x y : V} {H : Hp} {Q : VK} (h : rI C v x y H Q) : rI0 v x y H Q := by
  obtain ⟨i, j, a, b, _, c⟩ := h
  exact ⟨i, j, a, b, c⟩
theorem rI_and {v : Int → Int → V} {C C' : Int → Int → Prop} {x y : V} {H : Hp} {Q : VK} (h : rI C v x y H Q) (f : ∀ i j, C i j → C' i j) : rI C' v x y H Q := by
  obtain ⟨i, j, a, b, c, q⟩ := h
  exact ⟨i, j, a, b, f i j c, q⟩
theorem or_sub : OpR X (binaryOp .Sub) (r2 Z (evOp .sub)) := opR_imp op_sub fun x y H Q q => rI0_of (C := fun _ _ => True) (r2_int (f := fun i j h => .ok (.int (i - j)) h) (fun i j h => .inl ⟨_, rfl, trivial, fun _ _ => rfl⟩) x y H Q q)
theorem or_fdiv : OpR X (binaryOp .FloorDiv) (r2 Z (evOp .fdiv)) := opR_imp op_fdivW fun x y H Q q =>
  r2_int (f := fun i j h => if 0 < j ∧ j.natAbs.log2 < 9000 then .ok (.int (i / j)) h else .bad) (fun i j h => by
    by_cases c : 0 < j ∧ j.natAbs.log2 < 9000
    · exact .inl ⟨.int (i / j), by rw [if_pos c], c, fun _ _ => rfl⟩
    · exact .inr (by rw [if_neg c])) x y H Q q
theorem or_mod : OpR X (binaryOp .Mod) (r2 Z (evOp .mod)) := opR_imp op_mod fun x y H Q q =>
  r2_int (f := fun i j h => if 0 < j then .ok (.int (i % j)) h else .bad) (fun i j h => by
    by_cases c : 0 < j
    · exact .inl ⟨.int (i % j), by rw [if_pos c], c, fun _ _ => rfl⟩
    · exact .inr (by rw [if_neg c])) x y H Q q
theorem or_pow : OpR X (binaryOp .Pow) (r2 Z (evOp .pow)) := opR_imp op_powW fun x y H Q q =>
  r2_int (f := fun i j h => if 0 ≤ j ∧ (Builtin.Int.intBits i : Int) * j ≤ 134217728 then .ok (.int (i ^ j.toNat)) h else .bad) (fun i j h => by
    by_cases c : 0 ≤ j ∧ (Builtin.Int.intBits i : Int) * j ≤ 134217728
    · exact .inl ⟨.int (i ^ j.toNat), by rw [if_pos c], c, fun _ _ => rfl⟩
    · exact .inr (by rw [if_neg c])) x y H Q q
theorem or_shl : OpR X (binaryOp .LShift) (r2 Z (evOp .shl)) := opR_imp op_shlW fun x y H Q q =>
  r2_int (f := fun i j h => if 0 ≤ j ∧ (Builtin.Int.intBits i : Int) + j ≤ 134217728 then .ok (.int (i * 2 ^ j.toNat)) h else .bad) (fun i j h => by
    by_cases c : 0 ≤ j ∧ (Builtin.Int.intBits i : Int) + j ≤ 134217728
    · exact .inl ⟨.int (i * 2 ^ j.toNat), by rw [if_pos c], ⟨c.1, by have := c.2; omega⟩, fun _ _ => rfl⟩
    · exact .inr (by rw [if_neg c])) x y H Q q
theorem or_shr : OpR X (binaryOp .RShift) (r2 Z (evOp .shr)) := opR_imp op_shr fun x y H Q q =>
  r2_int (f := fun i j h => if 0 ≤ j then .ok (.int (i / 2 ^ j.toNat)) h else .bad) (fun i j h => by
    by_cases c : 0 ≤ j
    · exact .inl ⟨.int (i / 2 ^ j.toNat), by rw [if_pos c], c, fun _ _ => rfl⟩
    · exact .inr (by rw [if_neg c])) x y H Q q
theorem or_band : OpR X (binaryOp .BitAnd) (r2 Z (evOp .band)) := opR_imp op_and fun x y H Q q => rI0_of (C := fun _ _ => True) (r2_int (f := fun i j h => .ok (.int (Builtin.bitAnd i j)) h) (fun i j h => .inl ⟨_, rfl, trivial, fun _ _ => rfl⟩) x y H Q q)
theorem or_bor : OpR X (binaryOp .BitOr) (r2 Z (evOp .bor)) := opR_imp op_or fun x y H Q q => rI0_of (C := fun _ _ => True) (r2_int (f := fun i j h => .ok (.int (Builtin.bitOr i j)) h) (fun i j h => .inl ⟨_, rfl, trivial, fun _ _ => rfl⟩) x y H Q q)
theorem or_bxor : OpR X (binaryOp .BitXor) (r2 Z (evOp .bxor)) := opR_imp op_xor fun x y H Q q => rI0_of (C := fun _ _ => True) (r2_int (f := fun i j h => .ok (.int (Builtin.bitXor i j)) h) (fun i j h => .inl ⟨_, rfl, trivial, fun _ _ => rfl⟩) x y H Q q)
theorem or_cmp {op : CmpOp} {f : Int → Int → Bool} (h : OpR X (compareOp op) (rI0 fun i j => .bl (f i j))) : OpR X (compareOp op) (r2 Z (evCmp f)) := opR_imp h fun x y H Q q => by
  obtain ⟨W, bx, d, e, hp, r1, r2, hr, p⟩ := q
  cases d <;> cases e <;> first | exact False.elim p | skip
  rename_i i j
  exact ⟨i, j, r1, r2, p.ok hr rfl⟩
theorem or_le : OpR X (compareOp .LtE) (r2 Z (evOp .le)) := or_cmp op_le
theorem or_gt : OpR X (compareOp .Gt) (r2 Z (evOp .gt)) := or_cmp op_gt
theorem or_ge : OpR X (compareOp .GtE) (r2 Z (evOp .ge)) := or_cmp op_ge
theorem or_mul : OpR X (binaryOp .Mult) (r2 Z (evOp .mul)) := opR_imp op_mulX fun x y H Q q => by
  obtain ⟨W, bx, d, e, hp, r1, r2, hr, p⟩ := q
  cases d <;> cases e <;> first | exact False.elim p | skip
  rename_i i j
  have p : Pst Z H bx W (RepS Z) (if (Builtin.Int.intBits i : Int) + (Builtin.Int.intBits j : Int) ≤ 134217728 then .ok (.int (i * j)) hp else .bad) Q := p
  by_cases c : (Builtin.Int.intBits i : Int) + (Builtin.Int.intBits j : Int) ≤ 134217728
  · rw [if_pos c] at p
    exact ⟨i, j, r1, r2, c, p.ok hr rfl⟩
  · rw [if_neg c] at p
    exact False.elim p

end
mutual
theorem py_lay : ∀ d : D, d.data = true → d.py.canLay0 = true
  | .non, _ => rfl
  | .bl _, _ => rfl
  | .int _, _ => rfl
  | .str x, h => by
    have h : PyData.strOk x = true := h
    simpa [D.py, PyData.canLay0] using h
  | .tup xs, h => by
    have h : dataL xs = true := h
    simpa [D.py, PyData.canLay0] using pyL_lay xs h
  | .lst xs, h => by
    have h : dataL xs = true := h
    simpa [D.py, PyData.canLay0] using pyL_lay xs h
  | .box _, h => nomatch h
  | .obj _ _, h => nomatch h
theorem pyL_lay : ∀ ds : List D, dataL ds = true → PyData.canLayAll0 (pyL ds) = true
  | [], _ => rfl
  | d :: ds, h => by
    have h : (D.data d && dataL ds) = true := h
    rw [Bool.and_eq_true] at h
    show (PyData.canLay0 (D.py d) && PyData.canLayAll0 (pyL ds)) = true
    rw [py_lay d h.1, pyL_lay ds h.2]
    rfl
end
mutual
theorem py_depth : ∀ d : D, d.py.depth = d.dep
  | .non => rfl
  | .bl _ => rfl
  | .int _ => rfl
  | .str _ => rfl
  | .tup xs => by
    show PyData.depth (.tuple (pyL xs)) = depL xs + 1
    rw [← pyL_depth xs]
    simp only [PyData.depth]
  | .lst xs => by
    show PyData.depth (.list (pyL xs)) = depL xs + 1
    rw [← pyL_depth xs]
    simp only [PyData.depth]
  | .box _ => rfl
  | .obj _ _ => rfl
theorem pyL_depth : ∀ ds : List D, PyData.depthAll (pyL ds) = depL ds
  | [] => rfl
  | d :: ds => by
    show max (PyData.depth (D.py d)) (PyData.depthAll (pyL ds)) = max (D.dep d) (depL ds)
    rw [py_depth d, pyL_depth ds]
end
theorem py_shaped {d : D} (h : d.ok = true) : SeqAt.shaped d.py = true := by
  unfold D.ok at h
  rw [Bool.and_eq_true, decide_eq_true_eq] at h
  show (d.py.canLay0 && decide (d.py.depth ≤ 64)) = true
  rw [Bool.and_eq_true, decide_eq_true_eq, py_depth]
  exact ⟨py_lay d h.1, by omega⟩
mutual
theorem py_eqv : ∀ d e : D, d.data = true → e.data = true → PyData.eqv d.py e.py = d.eqv e
  | .non, e, _, h => by cases e <;> first | rfl | exact nomatch h
  | .bl _, e, _, h => by cases e <;> first | rfl | exact nomatch h
  | .int _, e, _, h => by cases e <;> first | rfl | exact nomatch h
  | .str _, e, _, h => by cases e <;> first | rfl | exact nomatch h
  | .tup xs, e, h1, h => by
    cases e with
    | tup ys => exact pyL_eqv xs ys h1 h
    | box _ => exact nomatch h
    | obj _ _ => exact nomatch h
    | _ => rfl
  | .lst xs, e, h1, h => by
    cases e with
    | lst ys => exact pyL_eqv xs ys h1 h
    | box _ => exact nomatch h
    | obj _ _ => exact nomatch h
    | _ => rfl
  | .box _, _, h, _ => nomatch h
  | .obj _ _, _, h, _ => nomatch h
theorem pyL_eqv : ∀ ds es : List D, dataL ds = true → dataL es = true → PyData.eqvAll (pyL ds) (pyL es) = eqvL ds es
  | [], [], _, _ => rfl
  | [], _ :: _, _, _ => rfl
  | _ :: _, [], _, _ => rfl
  | d :: ds, e :: es, h1, h2 => by
    have h1 : (D.data d && dataL ds) = true := h1
    have h2 : (D.data e && dataL es) = true := h2
    rw [Bool.and_eq_true] at h1 h2
    show (PyData.eqv (D.py d) (D.py e) && PyData.eqvAll (pyL ds) (pyL es)) = (D.eqv d e && eqvL ds es)
    rw [py_eqv d e h1.1 h2.1, pyL_eqv ds es h1.2 h2.2]
end
mutual
theorem rep_dp {Z : St0} {H : Hp} {bx : List Addr} : ∀ (d : D) {v : V}, d.data = true → RepS Z H bx d v → Dp Z.K H v d.py
  | .non, _, _, r => by
    have r : _ = _ := r
    subst r
    exact .non
  | .bl b, _, _, r => by
    have r : _ = _ := r
    subst r
    exact .bl b
  | .int i, _, _, r => by
    have r : _ = _ := r
    subst r
    exact .int i
  | .str x, _, _, r => by
    have r : _ = _ := r
    subst r
    exact .str x
  | .tup xs, _, h, r => by
    obtain ⟨a, vs, rfl, f, rr⟩ := r
    exact .tup f.sq (rep_dpL xs h rr)
  | .lst xs, _, h, r => by
    obtain ⟨a, vs, rfl, f, rr⟩ := r
    exact .lst f.sq (rep_dpL xs h rr)
  | .box _, _, h, _ => nomatch h
  | .obj _ _, _, h, _ => nomatch h
theorem rep_dpL {Z : St0} {H : Hp} {bx : List Addr} : ∀ (ds : List D) {vs : List V}, dataL ds = true → RepLS Z H bx ds vs → DpAll Z.K H vs (pyL ds)
  | [], _, _, r => by
    have r : _ = _ := r
    subst r
    exact .nil
  | d :: ds, _, h, r => by
    have h : (D.data d && dataL ds) = true := h
    rw [Bool.and_eq_true] at h
    obtain ⟨v, r, rfl, r1, r2⟩ := r
    exact .cons (rep_dp d h.1 r1) (rep_dpL ds h.2 r2)
end
/-- a value as data, a box read through -/
theorem deref_dp {Z : St0} {H : Hp} {bx : List Addr} {h : HP} {d : D} {v : V} (hr : HeapS Z H bx h) (r : RepS Z H bx d v) (hd : (deref h d).data = true) : Dp Z.K H v (deref h d).py := by
  cases d with
  | box n =>
    obtain ⟨a, rfl, e⟩ := r
    unfold deref at hd ⊢
    cases q : h[n]? with
    | none =>
      simp only [q] at hd
      exact nomatch hd
    | some o =>
      cases o with
      | lst xs =>
        simp only [q] at hd ⊢
        obtain ⟨vs, e2, hz, rr⟩ := hr.at_ n a _ e q
        exact .lst (SqL.of e2) (rep_dpL xs hd rr)
      | _ =>
        simp only [q] at hd
        exact nomatch hd
  | _ => exact rep_dp _ hd r
theorem isDat_and {x y : D} (h : isDat x y = true) : x.ok = true ∧ y.ok = true := by
  unfold isDat at h
  rw [Bool.and_eq_true] at h
  exact h
theorem ok_data {x : D} (h : x.ok = true) : x.data = true := by
  unfold D.ok at h
  rw [Bool.and_eq_true] at h
  exact h.1
theorem ok_dep {x : D} (h : x.ok = true) : x.dep ≤ 60 := by
  unfold D.ok at h
  rw [Bool.and_eq_true, decide_eq_true_eq] at h
  exact h.2
section
variable {Z : St0} {X : Cx}
theorem pst_ite {H : Hp} {bx : List Addr} {W : WK} {α β : Type} {R : Hp → List Addr → α → β → Prop} {c : Prop} [Decidable c] {r : Rs α} {Q : β → Hp → Prop} (p : PstS Z H bx W R (if c then r else .bad) Q) : c ∧ PstS Z H bx W R r Q := by
  by_cases h : c
  · rw [if_pos h] at p
    exact ⟨h, p⟩
  · rw [if_neg h] at p
    exact False.elim p
theorem evEq_cases (neg : Bool) (d e : D) (h : HP) : (∃ x y, d = .str x ∧ e = .str y) ∨ evEq neg [d, e] h = if isDat (deref h d) (deref h e) then .ok (.bl (if neg then !(deref h d).eqv (deref h e) else (deref h d).eqv (deref h e))) h else .bad := by
  cases d <;> cases e <;> first | exact .inl ⟨_, _, rfl, rfl⟩ | exact .inr rfl
theorem or_eq (hK : X.K = Z.K) (hu : X.A.units + 64 < cLine) : OpR X (compareOp .Eq) (r2 Z (evOp .eq)) := by
  intro pins s σ H x y v u Q I rx ry q
  obtain ⟨W, bx, d, e, h, r1, r2, hr, p⟩ := q
  rcases evEq_cases false d e h with ⟨i, j, rfl, rfl⟩ | ee
  · have r1 : x = _ := r1
    have r2 : y = _ := r2
    subst r1 r2
    have p : PstS Z H bx W (RepS Z) (.ok (.bl (decide (i = j))) h) Q := p
    refine op_eq pins s σ H _ _ v u Q I rx ry ⟨rfl, ?_⟩
    have e : decide (V.str i = V.str j) = decide (i = j) := by simp
    rw [e]
    exact p.ok hr rfl
  · replace p : PstS Z H bx W (RepS Z) (evEq false [d, e] h) Q := p
    rw [ee] at p
    obtain ⟨c, p⟩ := pst_ite p
    obtain ⟨c1, c2⟩ := isDat_and c
    refine op_eqD hu pins s σ H x y v u Q I rx ry ?_
    rw [hK]
    refine ⟨_, _, deref_dp hr r1 (ok_data c1), deref_dp hr r2 (ok_data c2), py_shaped c1, py_shaped c2, ?_⟩
    rw [py_eqv _ _ (ok_data c1) (ok_data c2)]
    exact p.ok hr rfl
theorem or_ne (hK : X.K = Z.K) (hu : X.A.units + 64 < cLine) : OpR X (compareOp .NotEq) (r2 Z (evOp .ne)) := by
  intro pins s σ H x y v u Q I rx ry q
  obtain ⟨W, bx, d, e, h, r1, r2, hr, p⟩ := q
  rcases evEq_cases true d e h with ⟨i, j, rfl, rfl⟩ | ee
  · have r1 : x = _ := r1
    have r2 : y = _ := r2
    subst r1 r2
    have p : PstS Z H bx W (RepS Z) (.ok (.bl (!decide (i = j))) h) Q := p
    refine op_ne pins s σ H _ _ v u Q I rx ry ⟨rfl, ?_⟩
    have e : decide (V.str i = V.str j) = decide (i = j) := by simp
    rw [e]
    exact p.ok hr rfl
  · replace p : PstS Z H bx W (RepS Z) (evEq true [d, e] h) Q := p
    rw [ee] at p
    obtain ⟨c, p⟩ := pst_ite p
    obtain ⟨c1, c2⟩ := isDat_and c
    refine op_neD hu pins s σ H x y v u Q I rx ry ?_
    rw [hK]
    refine ⟨_, _, deref_dp hr r1 (ok_data c1), deref_dp hr r2 (ok_data c2), py_shaped c1, py_shaped c2, ?_⟩
    rw [py_eqv _ _ (ok_data c1) (ok_data c2)]
    exact p.ok hr rfl
/-- the kinds of a pair, where the rest is nothing -/
theorem or_lt (hK : X.K = Z.K) (hu : X.A.units + 64 < cLine) : OpR X (compareOp .Lt) (r2 Z (evOp .lt)) := by
  intro pins s σ H x y v u Q I rx ry q
  obtain ⟨W, bx, d, e, h, r1, r2, hr, p⟩ := q
  cases d <;> cases e <;> first | exact False.elim p | skip
  · rename_i i j
    exact op_lt pins s σ H x y v u Q I rx ry ⟨i, j, r1, r2, p.ok hr rfl⟩
  · rename_i i j
    exact op_lt_str pins s σ H x y v u Q I rx ry ⟨i, j, r1, r2, p.ok hr rfl⟩
  · rename_i xs ys
    replace p : PstS Z H bx W (RepS Z) (if (isDat (.tup xs) (.tup ys) && (D.tup xs).like (.tup ys)) = true then .ok (.bl ((D.tup xs).lt (.tup ys))) h else .bad) Q := p
    obtain ⟨c, p⟩ := pst_ite p
    rw [Bool.and_eq_true] at c
    obtain ⟨c1, c2⟩ := isDat_and c.1
    have d1 : Dp X.K H x (D.tup xs).py := by rw [hK]; exact rep_dp _ (ok_data c1) r1
    have d2 : Dp X.K H y (D.tup ys).py := by rw [hK]; exact rep_dp _ (ok_data c2) r2
    obtain ⟨as, q1⟩ := Dp.reads I _ x v d1 rx
    obtain ⟨bs, q2⟩ := Dp.reads I _ y u d2 ry
    refine PySem.W.rcLt_alike _ _ _ _ _ _ _ _ q1 q2 c.2 (fun z => nomatch z) ?_ X.prog X.w X.xe _ ⟨.bl _, H, I, rfl, p.ok hr rfl⟩
    rw [py_depth, py_depth]
    have := ok_dep c1
    omega
theorem or_isN (op : Bool) : OpR X (compareOp (if op then .IsNot else .Is)) (fun x y H Q => y = .non ∧ r1 Z (evOp (if op then .notN else .isN)) x H Q) := by
  cases op with
  | false =>
    refine opR_imp op_isN fun x y H Q q => ?_
    obtain ⟨hy, W, bx, d, h, r, hr, p⟩ := q
    refine ⟨hy, ?_⟩
    cases d <;> (first
      | (have r : x = _ := r; subst r; exact p.ok hr rfl)
      | (obtain ⟨a, vs, rfl, _⟩ := r; exact p.ok hr rfl)
      | (obtain ⟨a, rfl, _⟩ := r; exact p.ok hr rfl)
      | (obtain ⟨a, dx, vs, rfl, _⟩ := r; exact p.ok hr rfl))
  | true =>
    refine opR_imp op_notN fun x y H Q q => ?_
    obtain ⟨hy, W, bx, d, h, r, hr, p⟩ := q
    refine ⟨hy, ?_⟩
    cases d <;> (first
      | (have r : x = _ := r; subst r; exact p.ok hr rfl)
      | (obtain ⟨a, vs, rfl, _⟩ := r; exact p.ok hr rfl)
      | (obtain ⟨a, rfl, _⟩ := r; exact p.ok hr rfl)
      | (obtain ⟨a, dx, vs, rfl, _⟩ := r; exact p.ok hr rfl))

theorem rd_lst {K : PySem.W.Frag} {H : Hp} {a : Addr} {vs : List V} (h : Rd H a (.lst vs)) : SqL K H a vs := .inl h
/-- where a value reads as a list -/
theorem deref_lst {H : Hp} {bx : List Addr} {h : HP} {d : D} {v : V} {xs : List D} (hr : HeapS Z H bx h) (r : RepS Z H bx d v) (e : deref h d = .lst xs) : ∃ a vs, v = .ref a ∧ SqL Z.K H a vs ∧ vs.length ≤ sizeLine ∧ RepLS Z H bx xs vs := by
  cases d with
  | box n =>
    obtain ⟨a, rfl, q⟩ := r
    unfold deref at e
    cases q2 : h[n]? with
    | none => simp [q2] at e
    | some o =>
      cases o with
      | lst ys =>
        simp only [q2] at e
        injection e with e
        subst e
        obtain ⟨vs, e2, hz, rr⟩ := hr.at_ n a _ q q2
        exact ⟨a, vs, rfl, SqL.of e2, hz, rr⟩
      | _ => simp [q2] at e
  | lst ys =>
    have e : D.lst ys = .lst xs := e
    injection e with e
    subst e
    obtain ⟨a, vs, rfl, f, rr⟩ := r
    exact ⟨a, vs, rfl, f.sq, f.1, rr⟩
  | non => exact nomatch (show D.non = .lst xs from e)
  | bl b => exact nomatch (show D.bl b = .lst xs from e)
  | int b => exact nomatch (show D.int b = .lst xs from e)
  | str b => exact nomatch (show D.str b = .lst xs from e)
  | tup b => exact nomatch (show D.tup b = .lst xs from e)
  | obj b c => exact nomatch (show D.obj b c = .lst xs from e)
theorem deref_tup {h : HP} {d : D} {xs : List D} (e : deref h d = .tup xs) : d = .tup xs := by
  cases d with
  | box n =>
    unfold deref at e
    cases q2 : h[n]? with
    | none => simp [q2] at e
    | some o => cases o <;> simp [q2] at e
  | _ => exact e
theorem deref_str {h : HP} {d : D} {x : Str} (e : deref h d = .str x) : d = .str x := by
  cases d with
  | box n =>
    unfold deref at e
    cases q2 : h[n]? with
    | none => simp [q2] at e
    | some o => cases o <;> simp [q2] at e
  | _ => exact e
theorem seqOf_rep {H : Hp} {bx : List Addr} {h : HP} {d : D} {v : V} {xs : List D} (hr : HeapS Z H bx h) (r : RepS Z H bx d v) (e : seqOf h d = some xs) : ∃ a vs, v = .ref a ∧ (SqL Z.K H a vs ∨ SqT Z.K H a vs) ∧ RepLS Z H bx xs vs := by
  cases d with
  | box n =>
    obtain ⟨a, rfl, q⟩ := r
    unfold seqOf at e
    cases q2 : h[n]? with
    | none => simp [q2] at e
    | some o =>
      cases o with
      | lst ys =>
        simp only [q2] at e
        injection e with e
        subst e
        obtain ⟨vs, e2, hz, rr⟩ := hr.at_ n a _ q q2
        exact ⟨a, vs, rfl, .inl (SqL.of e2), rr⟩
      | _ => simp [q2] at e
  | lst ys =>
    have e : some ys = some xs := e
    injection e with e
    subst e
    obtain ⟨a, vs, rfl, f, rr⟩ := r
    exact ⟨a, vs, rfl, .inl f.sq, rr⟩
  | tup ys =>
    have e : some ys = some xs := e
    injection e with e
    subst e
    obtain ⟨a, vs, rfl, f, rr⟩ := r
    exact ⟨a, vs, rfl, .inr f.sq, rr⟩
  | _ => exact nomatch (show none = some xs from e)
/-- a new list, boxed or not -/
theorem new_lst {H : Hp} {bx : List Addr} {W : WK} {h : HP} {b : Bool} {ds : List D} {vs : List V} {Q : VK} (hr : HeapS Z H bx h) (r : RepLS Z H bx ds vs) (hl : vs.length ≤ sizeLine) (q : PstS Z H bx W (RepS Z) (newL b ds h) Q) {p : Addr} (n : H p = none) : Q (.ref p) (upd H p (.lst vs)) := by
  cases b with
  | false => exact q _ _ _ (ext_new hr _ n) (heap_new hr _ n) (rep_lst hr n r hl)
  | true => exact q _ _ _ (ext_box hr _ n) (heap_box hr _ _ n ⟨vs, rfl, hl, r⟩) (rep_box hr _ n)
/-- list + list, of any that are read -/
def rCatR (K : PySem.W.Frag) : R2 := fun x y H Q => ∃ l b xs zs, x = .ref l ∧ y = .ref b ∧ SqL K H l xs ∧ SqL K H b zs ∧ xs.length + zs.length ≤ sizeLine ∧ ∀ p, H p = none → Q (.ref p) (upd H p (.lst (xs ++ zs)))
theorem op_catR : OpR X (binaryOp .Add) (rCatR X.K) := by
  intro pins s σ H x y v u Q I rx ry h
  obtain ⟨l, b, xs, zs, rfl, rfl, hH, hB, hz, q⟩ := h
  cases rx
  cases ry
  obtain ⟨i1, r1, e1, _⟩ := I.list hH
  obtain ⟨i2, r2, e2, _⟩ := I.list hB
  have l1 := r1.length
  have l2 := r2.length
  obtain ⟨⟨c1, d1, t1, sl1⟩, n1, g1, k1, m1, q1⟩ := e1
  obtain ⟨⟨c2, d2, t2, sl2⟩, n2, g2, k2, m2, q2⟩ := e2
  simp only at k1 m1 q1 k2 m2 q2
  subst k1 m1 q1 k2 m2 q2
  have e : i1.toArray ++ i2.toArray = (i1 ++ i2).toArray := by simp
  refine concat_meets ⟨_, g1, rfl⟩ ⟨_, g2, rfl⟩ noFill_list_add seq_list_add PySem.F.slot_list_add PySem.F.entry_list_add (PySem.F.args_list_add_2 _ _) (PyProof.Rows.list_addW l b i1.toArray i2.toArray n1 n2 none none sl1 sl2 (by rw [List.size_toArray, List.size_toArray]; omega)) ⟨g1, g2, ?_⟩
  rw [e]
  exact ⟨.ref _, _, I.lnew (t' := s.toks) (r1.append r2) (by rw [List.length_append]; omega), rfl, q _ I.fresh⟩
theorem line_eq : line = sizeLine := by
  rw [sizeLine_eq]
  rfl
theorem or_add (hK : X.K = Z.K) (b : Bool) : OpR X (binaryOp .Add) (r2 Z (evOp (.add b))) := by
  intro pins s σ H x y v u Q I rx ry q
  obtain ⟨W, bx, d, e, h, r1, r2, hr, p⟩ := q
  replace p : PstS Z H bx W (RepS Z) (evAdd b [d, e] h) Q := p
  unfold evAdd at p
  split at p
  · rename_i i j he
    injection he with e1 he
    injection he with e2 he
    subst e1 e2
    exact op_add pins s σ H x y v u Q I rx ry ⟨i, j, r1, r2, p.ok hr rfl⟩
  · rename_i i j he
    injection he with e1 he
    injection he with e2 he
    subst e1 e2
    obtain ⟨c, p⟩ := pst_ite p
    exact op_add_str pins s σ H x y v u Q I rx ry ⟨i, j, r1, r2, by rw [← line_eq]; exact c, p.ok hr rfl⟩
  · rename_i xs ys he
    injection he with e1 he
    injection he with e2 he
    subst e1 e2
    obtain ⟨c, p⟩ := pst_ite p
    obtain ⟨a1, v1, rfl, f1, q1⟩ := r1
    obtain ⟨a2, v2, rfl, f2, q2⟩ := r2
    have l1 := q1.length
    have l2 := q2.length
    rw [line_eq] at c
    refine op_catF pins s σ H _ _ v u Q I rx ry ⟨a1, a2, v1, v2, rfl, rfl, by rw [hK]; exact f1.sq, by rw [hK]; exact f2.sq, by omega, fun z => ?_, fun _ z => ?_, fun _ _ pp o n to => ?_⟩
    · subst z
      have : xs = [] := List.length_eq_zero_iff.mp (by rw [← l1]; rfl)
      subst this
      exact p.ok hr ⟨a2, v2, rfl, f2, q2⟩
    · subst z
      have : ys = [] := List.length_eq_zero_iff.mp (by rw [← l2]; rfl)
      subst this
      exact p.ok hr ⟨a1, v1, rfl, f1, by rw [List.append_nil]; exact q1⟩
    · exact p _ _ _ (ext_new hr _ n) (heap_new hr _ n) (rep_tup hr n to (q1.append q2) (by rw [List.length_append]; omega))
  · rename_i d' e' _ _ _ he
    injection he with e1 he
    injection he with e2 he
    subst e1 e2
    split at p
    · rename_i xs ys g1 g2
      obtain ⟨c, p⟩ := pst_ite p
      obtain ⟨a1, v1, rfl, f1, _, q1⟩ := deref_lst hr r1 g1
      obtain ⟨a2, v2, rfl, f2, _, q2⟩ := deref_lst hr r2 g2
      have l1 := q1.length
      have l2 := q2.length
      rw [line_eq] at c
      exact op_catR pins s σ H _ _ v u Q I rx ry ⟨a1, a2, v1, v2, rfl, rfl, by rw [hK]; exact f1, by rw [hK]; exact f2, by omega, fun pp n => new_lst hr (q1.append q2) (by rw [List.length_append]; omega) p n⟩
    · exact False.elim p
  · exact False.elim p
theorem pyL_any (x : D) (hx : x.data = true) : ∀ ys : List D, dataL ys = true → ((pyL ys).any fun z => PyData.eqv z x.py) = anyEq x ys
  | [], _ => rfl
  | y :: ys, h => by
    have h : (D.data y && dataL ys) = true := h
    rw [Bool.and_eq_true] at h
    show (PyData.eqv y.py x.py || (pyL ys).any fun z => PyData.eqv z x.py) = (y.eqv x || anyEq x ys)
    rw [py_eqv y x h.1 hx, pyL_any x hx ys h.2]
theorem or_in (hK : X.K = Z.K) (hu : X.A.units + 65 < cLine) (neg : Bool) : OpR X (compareOp (if neg then .NotIn else .In)) (r2 Z (evOp (if neg then .notin else .isin))) := by
  intro pins s σ H x y v u Q I rx ry q
  obtain ⟨W, bx, d, e, h, r1, r2, hr, p⟩ := q
  replace p : PstS Z H bx W (RepS Z) (evIn neg [d, e] h) Q := by cases neg <;> exact p
  unfold evIn at p
  split at p
  · rename_i i j he
    injection he with e1 he
    injection he with e2 he
    subst e1 e2
    cases neg with
    | false => exact op_in_str pins s σ H x y v u Q I rx ry ⟨i, j, r1, r2, p.ok hr rfl⟩
    | true => exact op_notin_str pins s σ H x y v u Q I rx ry ⟨i, j, r1, r2, p.ok hr rfl⟩
  · rename_i d' e' _ he
    injection he with e1 he
    injection he with e2 he
    subst e1 e2
    split at p
    · rename_i ys g
      obtain ⟨c, p⟩ := pst_ite p
      obtain ⟨c1, c2⟩ := isDat_and c
      obtain ⟨a, vs, rfl, sq, rr⟩ := seqOf_rep hr r2 g
      cases ry
      have d1 : Dp X.K H x d.py := by rw [hK]; exact rep_dp _ (ok_data c1) r1
      obtain ⟨as, q1⟩ := Dp.reads I _ x v d1 rx
      have hd : dataL ys = true := ok_data c2
      have l1 := pyL_lay ys hd
      have l2 := py_lay d (ok_data c1)
      have hroom : X.A.units + 1 + min (PyData.depthAll (pyL ys)) d.py.depth < cLine := by
        rw [py_depth]
        have := ok_dep c1
        omega
      rw [← pyL_any d (ok_data c1) ys hd] at p
      rcases sq with sq | sq
      · obtain ⟨bs, q2⟩ := Dp.reads I (.list (pyL ys)) (.ref a) _ (.lst (by rw [hK]; exact sq) (by rw [hK]; exact rep_dpL ys hd rr)) rfl
        cases neg with
        | false => exact SeqAt.in_list_reads q2 q1 l1 l2 hroom ⟨.bl _, H, I, rfl, p.ok hr rfl⟩
        | true => exact SeqAt.notIn_list_reads q2 q1 l1 l2 hroom ⟨.bl _, H, I, rfl, p.ok hr rfl⟩
      · obtain ⟨bs, q2⟩ := Dp.reads I (.tuple (pyL ys)) (.ref a) _ (.tup (by rw [hK]; exact sq) (by rw [hK]; exact rep_dpL ys hd rr)) rfl
        cases neg with
        | false => exact SeqAt.in_tuple_reads q2 q1 l1 l2 hroom ⟨.bl _, H, I, rfl, p.ok hr rfl⟩
        | true => exact SeqAt.notIn_tuple_reads q2 q1 l1 l2 hroom ⟨.bl _, H, I, rfl, p.ok hr rfl⟩
    · exact False.elim p
  · exact False.elim p
theorem or_isB (neg b : Bool) : OpR X (compareOp (if neg then .IsNot else .Is)) (fun x y H Q => y = .bl b ∧ r1 Z (evOp (if neg then .notB b else .isB b)) x H Q) := by
  intro pins s σ H x y v u Q I rx ry q
  obtain ⟨hy, W, bx, d, h, r, hr, p⟩ := q
  cases neg with
  | false =>
    cases d <;> first | exact False.elim p | skip
    exact op_isBl pins s σ H x y v u Q I rx ry ⟨_, _, r, hy, p.ok hr rfl⟩
  | true =>
    cases d <;> first | exact False.elim p | skip
    exact op_notBl pins s σ H x y v u Q I rx ry ⟨_, _, r, hy, p.ok hr rfl⟩
theorem atI_rep {H : Hp} {bx : List Addr} {ds : List D} {vs : List V} {i : Int} {d : D} (r : RepLS Z H bx ds vs) (e : atI ds i = some d) : ∃ v, atI vs i = some v ∧ RepS Z H bx d v := by
  unfold atI at e ⊢
  rw [r.length]
  cases q : ixN ds.length i with
  | none => rw [q] at e; cases e
  | some j =>
    rw [q] at e
    obtain ⟨v, h1, h2⟩ := r.get (i := j) (by simpa using e)
    exact ⟨v, by simpa using h1, h2⟩
theorem ix_of (hK : X.K = Z.K) : IxR X (r2 Z (evOp .ix)) := by
  intro value slice pins s σ H x y v u Q I rx ry q hs
  obtain ⟨W, bx, d, e, h, r1, r2, hr, p⟩ := q
  refine ix_seq value slice pins s σ H x y v u Q I rx ry ?_ hs
  replace p : PstS Z H bx W (RepS Z) (evIx [d, e] h) Q := p
  unfold evIx at p
  split at p
  · rename_i z i he
    injection he with e1 he
    injection he with e2 he
    subst e1 e2
    obtain ⟨c, p⟩ := pst_ite p
    split at p
    · rename_i k g
      exact .inr (.inr ⟨z, i, k, r1, r2, by rw [← line_eq]; exact c, g, p.ok hr rfl⟩)
    · exact False.elim p
  · rename_i d' i _ he
    injection he with e1 he
    injection he with e2 he
    subst e1 e2
    split at p
    · rename_i xs g
      obtain ⟨a, vs, rfl, sq, rr⟩ := seqOf_rep hr r1 g
      split at p
      · rename_i d2 g2
        obtain ⟨v2, h1, h2⟩ := atI_rep rr g2
        rcases sq with sq | sq
        · exact .inl ⟨a, vs, i, v2, rfl, r2, by rw [hK]; exact sq, h1, p.ok hr h2⟩
        · exact .inr (.inl ⟨a, vs, i, v2, rfl, r2, by rw [hK]; exact sq, h1, p.ok hr h2⟩)
      · exact False.elim p
    · exact False.elim p
  · exact False.elim p
/-- slices by values -/
def rS (Z : St0) : V → Option Int → Option Int → Hp → VK → Prop := fun x lo hi H Q => ∃ (W : WK) (bx : List Addr) (d : D) (h : HP), RepS Z H bx d x ∧ HeapS Z H bx h ∧ PstS Z H bx W (RepS Z) (evSl d lo hi h) Q
theorem cut_rep {H : Hp} {bx : List Addr} {ds : List D} {vs : List V} (r : RepLS Z H bx ds vs) (lo hi : Option Int) : RepLS Z H bx (cutD ds lo hi) (cutV vs lo hi) := by
  unfold cutD cutV
  rw [r.length]
  exact (r.drop _).take _
theorem cut_all {ds : List D} {lo hi : Option Int} (h : HT.sIx ds.length 0 lo = 0 ∧ HT.sIx ds.length ds.length hi = ds.length) : cutD ds lo hi = ds := by
  unfold cutD
  rw [h.1, h.2]
  simp
theorem sl_of (hK : X.K = Z.K) : SlR X (rS Z) := by
  intro pins s σ H x v vl vu lo hi sl Q I rx hs pl pu q
  obtain ⟨W, bx, d, h, r, hr, p⟩ := q
  unfold evSl at p
  split at p
  · rename_i z g
    have e := deref_str g
    subst e
    obtain ⟨c, p⟩ := pst_ite p
    exact sl_str pins s σ H x v vl vu lo hi sl Q I rx hs pl pu ⟨z, r, by rw [← line_eq]; exact c, p.ok hr rfl⟩
  · rename_i xs g
    have e := deref_tup g
    subst e
    obtain ⟨a, vs, rfl, f, rr⟩ := r
    refine sl_tupF pins s σ H _ v vl vu lo hi sl Q I rx hs pl pu ⟨a, vs, rfl, by rw [hK]; exact f.sq, fun w => ?_, fun w pp o n to => ?_⟩
    · rw [rr.length] at w
      rw [cut_all w] at p
      exact p.ok hr ⟨a, vs, rfl, f, rr⟩
    · exact p _ _ _ (ext_new hr _ n) (heap_new hr _ n) (rep_tup hr n to (cut_rep rr lo hi) (Nat.le_trans (cutV_length vs lo hi) f.1))
  · rename_i xs g
    obtain ⟨a, vs, rfl, f, hz, rr⟩ := deref_lst hr r g
    refine sl_list pins s σ H _ v vl vu lo hi sl Q I rx hs pl pu ⟨a, vs, rfl, by rw [hK]; exact f, fun pp n => ?_⟩
    exact p _ _ _ (ext_new hr _ n) (heap_new hr _ n) (rep_lst hr n (cut_rep rr lo hi) (Nat.le_trans (cutV_length vs lo hi) hz))
  · exact False.elim p
/-- truth -/
theorem tru_rep (hK : X.K = Z.K) {H : Hp} {bx : List Addr} {h : HP} {d : D} {v : V} {k : Bool} (hr : HeapS Z H bx h) (r : RepS Z H bx d v) (e : truD h d = some k) : TruV X.K v H k := by
  cases d with
  | non =>
    have r : v = _ := r
    subst r
    have e : some false = some k := e
    injection e with e
    exact e.symm
  | bl b =>
    have r : v = _ := r
    subst r
    have e : some b = some k := e
    injection e with e
    exact e.symm
  | int i =>
    have r : v = _ := r
    subst r
    have e : some (i != 0) = some k := e
    injection e with e
    exact e.symm
  | str x =>
    have r : v = _ := r
    subst r
    have e : (if x.length ≤ line then some (x.length != 0) else none) = some k := e
    by_cases c : x.length ≤ line
    · rw [if_pos c] at e
      injection e with e
      refine ⟨by rw [← line_eq]; exact c, ?_⟩
      rw [← e]
      rw [Bool.eq_iff_iff, bne_iff_ne, bne_iff_ne]
      constructor <;> intro h <;> omega
    · rw [if_neg c] at e
      cases e
  | tup xs =>
    obtain ⟨a, vs, rfl, f, rr⟩ := r
    have e : some (!xs.isEmpty) = some k := e
    injection e with e
    refine .inr (.inl ⟨vs, by rw [hK]; exact f.sq, ?_⟩)
    rw [← e]
    have l := rr.length
    cases xs <;> cases vs <;> simp at l ⊢
  | lst xs =>
    obtain ⟨a, vs, rfl, f, rr⟩ := r
    have e : some (!xs.isEmpty) = some k := e
    injection e with e
    refine .inl ⟨vs, by rw [hK]; exact f.sq, ?_⟩
    rw [← e]
    have l := rr.length
    cases xs <;> cases vs <;> simp at l ⊢
  | box n =>
    obtain ⟨a, rfl, q⟩ := r
    unfold truD at e
    cases q2 : h[n]? with
    | none => simp [q2] at e
    | some o =>
      cases o with
      | lst xs =>
        simp only [q2] at e
        injection e with e
        obtain ⟨vs, e2, hz, rr⟩ := hr.at_ n a _ q q2
        refine .inl ⟨vs, SqL.of e2, ?_⟩
        rw [← e]
        have l := rr.length
        cases xs <;> cases vs <;> simp at l ⊢
      | dK kvs =>
        simp only [q2] at e
        injection e with e
        obtain ⟨vs, e2, hz, rr⟩ := hr.at_ n a _ q q2
        refine .inr (.inr ⟨vs, e2, ?_⟩)
        rw [← e]
        have l := rr.length
        cases kvs <;> cases vs <;> simp at l ⊢
      | dT kvs => simp [q2] at e
  | obj c xs => exact nomatch (show none = some k from e)
theorem rep1 {H : Hp} {bx : List Addr} {d : D} {vs : List V} (r : RepLS Z H bx [d] vs) : ∃ v, vs = [v] ∧ RepS Z H bx d v := by
  obtain ⟨v, t, rfl, r1, r2⟩ := r
  have r2 : t = _ := r2
  subst r2
  exact ⟨v, rfl, r1⟩
theorem rep2 {H : Hp} {bx : List Addr} {d e : D} {vs : List V} (r : RepLS Z H bx [d, e] vs) : ∃ v w, vs = [v, w] ∧ RepS Z H bx d v ∧ RepS Z H bx e w := by
  obtain ⟨v, t, rfl, r1, r2⟩ := r
  obtain ⟨w, rfl, r3⟩ := rep1 r2
  exact ⟨v, w, rfl, r1, r3⟩
theorem cr_len (hK : X.K = Z.K) : CallR X (.builtin "len") (rL Z (evOp .len)) := callR_imp call_len fun vs H Q q => by
  obtain ⟨W, bx, ds, h, r, hr, p⟩ := q
  replace p : PstS Z H bx W (RepS Z) (evLen ds h) Q := p
  unfold evLen at p
  split at p
  · rename_i z
    obtain ⟨v, t, rfl, r1, r2⟩ := r
    have r2 : t = _ := r2
    subst r2
    have r1 : v = _ := r1
    subst r1
    obtain ⟨c, p⟩ := pst_ite p
    exact ⟨_, z.length, rfl, ⟨by rw [← line_eq]; exact c, rfl⟩, p.ok hr rfl⟩
  · rename_i n
    obtain ⟨v, t, rfl, r1, r2⟩ := r
    have r2 : t = _ := r2
    subst r2
    obtain ⟨a, rfl, q⟩ := r1
    split at p
    · rename_i xs g
      obtain ⟨vs, e2, hz, rr⟩ := hr.at_ n a _ q g
      exact ⟨_, xs.length, rfl, .inl ⟨vs, SqL.of e2, rr.length.symm⟩, p.ok hr rfl⟩
    · exact False.elim p
  · rename_i xs
    obtain ⟨v, t, rfl, r1, r2⟩ := r
    have r2 : t = _ := r2
    subst r2
    obtain ⟨a, vs, rfl, f, rr⟩ := r1
    exact ⟨_, xs.length, rfl, .inr ⟨vs, by rw [hK]; exact f.sq, rr.length.symm⟩, p.ok hr rfl⟩
  · rename_i xs
    obtain ⟨v, t, rfl, r1, r2⟩ := r
    have r2 : t = _ := r2
    subst r2
    obtain ⟨a, vs, rfl, f, rr⟩ := r1
    exact ⟨_, xs.length, rfl, .inl ⟨vs, by rw [hK]; exact f.sq, rr.length.symm⟩, p.ok hr rfl⟩
  · exact False.elim p
theorem cr_abs : CallR X (.builtin "abs") (rL Z (evOp .abs)) := callR_imp call_abs fun vs H Q q => by
  obtain ⟨W, bx, ds, h, r, hr, p⟩ := q
  unfold evOp at p
  dsimp only at p
  split at p
  · obtain ⟨v, rfl, r1⟩ := rep1 r
    cases r1
    exact ⟨_, rfl, p.ok hr rfl⟩
  · exact False.elim p
theorem cr_toint : CallR X (.type "int") (rL Z (evOp .toint)) := callR_imp call_int1 fun vs H Q q => by
  obtain ⟨W, bx, ds, h, r, hr, p⟩ := q
  unfold evOp at p
  dsimp only at p
  split at p
  · obtain ⟨v, rfl, r1⟩ := rep1 r
    cases r1
    exact .inl ⟨_, rfl, p.ok hr rfl⟩
  · obtain ⟨v, rfl, r1⟩ := rep1 r
    cases r1
    exact .inr ⟨_, rfl, p.ok hr rfl⟩
  · exact False.elim p
theorem cr_min2 (hc : X.calm = true) : CallR X (.builtin "min") (rL Z (evOp .min2)) := callR_imp (call_min2 hc) fun vs H Q q => by
  obtain ⟨W, bx, ds, h, r, hr, p⟩ := q
  unfold evOp int2 at p
  dsimp only at p
  split at p
  · obtain ⟨v, w, rfl, r1, r2⟩ := rep2 r
    cases r1
    cases r2
    exact ⟨_, _, rfl, p.ok hr rfl⟩
  · exact False.elim p
theorem cr_max2 (hc : X.calm = true) : CallR X (.builtin "max") (rL Z (evOp .max2)) := callR_imp (call_max2 hc) fun vs H Q q => by
  obtain ⟨W, bx, ds, h, r, hr, p⟩ := q
  unfold evOp int2 at p
  dsimp only at p
  split at p
  · obtain ⟨v, w, rfl, r1, r2⟩ := rep2 r
    cases r1
    cases r2
    exact ⟨_, _, rfl, p.ok hr rfl⟩
  · exact False.elim p
theorem ur_neg : UnR X (unaryOp .USub) (r1 Z (evOp .neg)) := unR_imp un_neg fun x H Q q => by
  obtain ⟨W, bx, d, h, r, hr, p⟩ := q
  cases d <;> first | exact False.elim p | skip
  exact ⟨_, r, p.ok hr rfl⟩
theorem ur_inv : UnR X (unaryOp .Invert) (r1 Z (evOp .inv)) := unR_imp un_inv fun x H Q q => by
  obtain ⟨W, bx, d, h, r, hr, p⟩ := q
  cases d <;> first | exact False.elim p | skip
  exact ⟨_, r, p.ok hr rfl⟩
end
end Mp

end
section
set_option maxRecDepth 100000
set_option maxHeartbeats 4000000
namespace Mp
open PySem PySem.Spec PyProof.Rows L2
/-- a def's promise, no repr in progress around -/
structure FnG (P : Program) (w : World) (K : PySem.W.Frag) (mg : Str → Option Value) (base : Heap) (C : CXT) (k : Nat) (f : Addr) (fd : FuncData) (ps : List Str) (sp : Sp) : Prop where
  len : ∀ vs H Q E, sp vs H Q E → vs.length = ps.length
  go : ∀ (A : Around) (out : List PySem.Env) (s : Shared) (H : Hp) (as : Args) (us : List Value) (vs : List V) (Q : VK) (E : XK), Room k A → A.guards = some [] → Env0 P w K mg base A out s H → BindsTo s fd as (ps.zip us) → Vals vs us → sp vs H Q E →
    codeAny (model P w) A (.call (.ref f) as) (CR C out P w H s Q E) s
section
variable {X : Cx} {C : CXT} {k : Nat} {f : Addr} {fd : FuncData} {ps : List Str} {sp : Sp} {E : L2.St → XK} {x : Str} {p pos : Pos} {e : Expr} {es : List Expr} {t : TA}
theorem run_fnG {pins : List (Addr × Obj)} {σ : L2.St} {H : Hp} {s : Shared} {Q : VK} {us : List Value} {vs : List V} (F : FnG X.prog X.w X.K X.mg X.base C k f fd ps sp) (hr : Room k X.A) (hg : X.A.guards = some []) (hb : L2.Binds X.K fd ps []) (hx : PassesAt C X σ (E σ))
    (J : Inv X pins σ H s) (rv : Vals vs us) (q : sp vs H Q (E σ)) : wpAny (model X.prog X.w) X.A (call (.ref f) us) (EP X pins σ Q) X.xe s := by
  have l1 : us.length = ps.length := rv.length.symm.trans (F.len _ _ _ _ q)
  have b1 := hb s us J.kIn (by simpa using l1)
  rw [List.append_nil] at b1
  refine wpAny_call (codeAny_mono (F.go X.A X.stack s H ⟨us, []⟩ us vs Q (E σ) hr hg J.env0 b1 rv q) fun res s2 z => ?_)
  cases res with
  | error ev => exact hx pins H s ev s2 J z
  | ok fl =>
    cases fl <;> first | exact False.elim z | exact J.after z
theorem pe_callG (F : FnG X.prog X.w X.K X.mg X.base C k f fd ps sp) (hr : Room k X.A) (hq : X.A.guards = some []) (hg : Gl X x) (hm : X.mg x = some (.ref f)) (hk : PySem.W.keepIn X.K (.ref f) = true) (hb : L2.Binds X.K fd ps []) (hx : ∀ σ, PassesAt C X σ (E σ))
    (ha : PA X (e :: es) t) (hd : (x == ("__debug__" : Str)) = false) (h1 : starEach (e :: es) X.env = (false, eval e X.env) :: starEach es X.env) (h2 : (backTo pos (starEach es X.env)).any (·.1) = false) :
    PE X (.Call (.Name x p) (e :: es) [] pos) (tCallS sp E t) := ⟨fun pins s σ H Q J q => by
  refine wpAny_Call_Name_kw (ld_glob J hg hm ?_ hd)
  exact PySem.W.callWith_K (h₀ := X.base) J.ok.mod.kin hk (thn (ha.run pos pins s σ H _ J q) fun us s2 ⟨vs, H2, J2, rv, z⟩ => ⟨J2.kIn, run_fnG F hr hq hb (hx σ) J2 rv z⟩) h1 h2⟩
end
section
variable {P : Program} {w : World} {K : PySem.W.Frag} {mg : Str → Option Value} {base : Heap}
/-- a def by its body -/
theorem fnG_of {C : CXT} {x qual : Str} {params : Arguments} {body : List Stmt} {sc : Scope} {dvs : List V} {kws : List (Str × V)} {f : Addr} {fd : FuncData} {N ps : List Str} {k : Nat} {sp : Sp} (F : FunD K x qual params body sc dvs kws f fd) (S : FnScope N ps sc)
    (len : ∀ vs H Q E, sp vs H Q E → vs.length = ps.length)
    (hb : ∀ (cd : Value) (A : Around) (out : List PySem.Env) (s : Shared) (H : Hp) (vs : List V) (Q : VK) (E : XK), Room k (A.deeper (envOfC qual sc s.heap.objs.size f cd)) → (A.deeper (envOfC qual sc s.heap.objs.size f cd)).guards = some [] → sp vs H Q E →
      ∃ t, PSs (cxOf C P w K mg base N qual sc f cd A out s H E) body t ∧ t { nx := fun _ H' => Q .non H', rt := Q } (L2.start N vs) H) : FnG P w K mg base C (k + 1) f fd ps sp := by
  obtain ⟨oc, od, dV, kV, doc, pm, an, cd, ct, osl, rfl, lk, hcd, _, _⟩ := F.ex
  refine ⟨len, fun A out s H as us vs Q E hr hg e0 bt rv q => ?_⟩
  have K1 : K.In s.heap := e0.mod.kin.keeps fun b o z => (e0.bs b o z).1
  have L1 : s.heap.NoLimit := e0.mod.nolimit.keeps fun b o z => (e0.bs b o z).1
  refine codeAny_call_function hr.depth (K1 _ _ lk) rfl S.co S.gen rfl (PySem.W.codeRec_of K1 hcd) (bt _ _ _ _ ?_)
  refine wpAny_newFunctionEnv_cells S.kind (fun ⟨n, v⟩ hy => ?_) fun env he s1 ic => ?_
  · rcases S.par n (List.of_mem_zip hy).1 with z | z
    · exact .inl z
    · exact .inr ⟨z, PySem.W.cellsFrom_some _ _ _ (.inl z)⟩
  · subst he
    refine ⟨L1.keeps ic.toInCall.keep, codeAny_func ?_⟩
    obtain ⟨t, ht, tq⟩ := hb cd A out s H vs Q E (hr.deeper _) hg q
    have J : Inv (cxOf C P w K mg base N qual sc f cd A out s H E) [] (L2.start N vs) H s1 := inv_start S hr.hd e0 (len _ _ _ _ q) rv ic
    refine wpAny_mono (ht.run [] s1 (L2.start N vs) H _ J tq) (fun fl s2 z => ?_) fun _ _ z => z
    have fin : ∀ {σ2 : L2.St} {H2 : Hp} {v : V} {u : Value}, Inv (cxOf C P w K mg base N qual sc f cd A out s H E) [] σ2 H2 s2 → RelV v u → Q v H2 → CE out P w H s Q u s2 :=
      fun J2 r2 q2 => ⟨_, _, J2.os, J2.bare, J2.base, J2.hok, r2, q2⟩
    cases fl with
    | next =>
      obtain ⟨σ2, H2, J2, q2⟩ := z
      exact fin (v := V.non) (u := Value.none) J2 rfl q2
    | ret u =>
      obtain ⟨v, σ2, H2, J2, r2, q2⟩ := z
      exact fin J2 r2 q2
    | brk => obtain ⟨_, _, _, q2⟩ := z; exact False.elim q2
    | cont => obtain ⟨_, _, _, q2⟩ := z; exact False.elim q2
/-- the script alone may be tracked: the law's call -/
theorem law_callG {mb : Str → Option Value} {C : CXT} {k : Nat} {fa a : Addr} {fd : FuncData} {x : Str} {sp : Sp} {s1 : Shared} {vs : List Value} {ns : List Int} (K1 : K.In s1.heap) (h1 : s1.heap.Ns mainGlobals mg) (h2 : s1.heap.Ns builtinsNs mb) (h3 : ∀ y : Str, y ≠ "__name__" → mb y = bootBuiltins y)
    (h4 : s1.heap.NoLimit) (h5 : s1.gens = #[]) (ha : s1.heap.get? a = some { cls := .type "list", data := .seq vs.toArray }) (hi : IntsAre vs ns) (hl : ns.length ≤ sizeLine) (hr : Room k callerA) (F : ∀ b : Heap, K.In b → b.Ns mainGlobals mg → FnG P w K mg b C k fa fd [x] sp)
    (hb : ∀ (s : Shared) (u : Value), BindsTo s fd ⟨[u], []⟩ [(x, u)]) (hsp : ∀ H : Hp, SqL K H a (ns.map V.int) → sp [.ref a] H (fun v _ => v = .bl true) fun _ _ _ => False) (hC : ∀ H e s2, C [] H s1 (fun _ _ _ => False) e s2 → False) :
    codeAny (model P w) callerA (.call (.ref fa) ⟨[.ref a], []⟩) (fun r s2 => r = .ok (.ret (.bool true)) ∧ OldK s1.heap s2.heap ∧ s2.os = s1.os ∧ AllBare s2.gens) s1 := by
  have lv := hi.length
  have rv := vals_ints hi
  have key : ∀ H : Hp, Only H → SqL K H a (ns.map V.int) → HOk P w H s1.heap → (∀ b, H b ≠ none → b = a) → (H a ≠ none → K.lookup a = none) →
      codeAny (model P w) callerA (.call (.ref fa) ⟨[.ref a], []⟩) (fun r s2 => r = .ok (.ret (.bool true)) ∧ OldK s1.heap s2.heap ∧ s2.os = s1.os ∧ AllBare s2.gens) s1 := by
    intro H only hS hok hA hK
    have un0 : ∀ {b : Addr} {o : Obj} {es : Array DictEntry} {ep : Nat}, s1.heap.get? b = some o → o.data = .dict es ep → H b = none := fun {b o es ep} z d => by
      cases q : H b with
      | none => rfl
      | some u =>
        obtain rfl : b = a := hA b (by rw [q]; simp)
        rw [ha] at z
        cases z
        cases (show Data.seq vs.toArray _ = Data.dict es ep from d)
    have bs : ∀ {b : Addr} {o : Obj}, s1.heap.get? b = some o → H b = none → (hidT s1.heap H).get? b = some o := fun z n => hidT_get z n
    have ns1 : ∀ {b : Addr} {m : Str → Option Value}, s1.heap.Ns b m → (hidT s1.heap H).Ns b m := fun ⟨o, es, ep, z, d, r⟩ => ⟨o, es, ep, bs z (un0 z d), d, r⟩
    have Kb : K.In (hidT s1.heap H) := fun b o z => bs (K1 b o z) (by
      cases q : H b with
      | none => rfl
      | some u =>
        obtain rfl : b = a := hA b (by rw [q]; simp)
        rw [hK (by rw [q]; simp)] at z
        cases z)
    have e0 : Env0 P w K mg (hidT s1.heap H) callerA [] s1 H := ⟨rfl, ⟨Kb, ns1 h1, ⟨mb, ns1 h2, h3⟩, let ⟨mc, z1, z2⟩ := h4; ⟨mc, ns1 z1, z2⟩⟩, fun b o z => of_hidT z, Nat.le_of_eq (hidT_size _ _), trivial, fun b z => absurd (show b ∈ ([] : List Addr) from z) (by simp), hok, .of_eq h5⟩
    refine codeAny_mono ((F _ Kb (ns1 h1)).go callerA [] s1 H ⟨[.ref a], []⟩ [.ref a] [.ref a] _ _ hr rfl e0 (hb s1 (.ref a)) (.cons rfl .nil) (hsp H hS)) fun r s2 z => ?_
    cases r with
    | error ev => exact (hC H ev s2 z).elim
    | ok fl =>
      cases fl <;> first | exact False.elim z | skip
      obtain ⟨v, H2, os, bare, un, hok2, r2, q⟩ := z
      have q : v = .bl true := q
      subst q
      obtain rfl : _ = Value.bool true := r2
      refine ⟨rfl, OldK.of_keep fun b o z => ?_, os, bare⟩
      cases q : H b with
      | none => exact un.keep b o z q (fun m => absurd (show b ∈ ([] : List Addr) from m) (by simp)) (by simp)
      | some u =>
        rcases only b with z2 | ⟨ob, xs, z2⟩
        · rw [q] at z2; cases z2
        · obtain ⟨g1, _⟩ := hok b _ z2
          obtain ⟨g2, _⟩ := hok2 b _ (un.frzs b ob _ z2)
          rw [z] at g1
          cases g1
          exact g2
  cases hk : K.lookup a with
  | some o =>
    have z := K1 a o hk
    rw [ha] at z
    cases z
    exact key (fun _ => none) (fun _ => .inl rfl) (.inr ⟨_, vs.toArray, _, hk, rfl, rfl, rfl, by rw [List.size_toArray, lv]; exact hl, by simpa using rv⟩) (fun b u z => nomatch (show (none : Option HO) = some u from z)) (fun b z => absurd rfl z) fun z => absurd rfl z
  | none =>
    let H0 : Hp := fun b => if b = a then some (.frz { cls := .type "list", data := .seq vs.toArray } (.lst (ns.map V.int))) else none
    have at_ : H0 a = some (.frz { cls := .type "list", data := .seq vs.toArray } (.lst (ns.map V.int))) := if_pos rfl
    have off : ∀ {b}, b ≠ a → H0 b = none := fun z => if_neg z
    refine key H0 (fun b => ?_) (.inl (.inr ⟨_, at_⟩)) (fun b u z => ?_) (fun b z => ?_) fun _ => hk
    · by_cases c : b = a
      · exact .inr ⟨_, _, by rw [c]; exact at_⟩
      · exact .inl (off c)
    · by_cases c : b = a
      · subst c
        rw [at_] at z
        cases z
        exact ⟨ha, by rw [List.length_map]; exact hl, vs, _, rv, ha⟩
      · rw [off c] at z
        cases z
    · by_cases c : b = a
      · exact c
      · exact absurd (off c) z
end
theorem walk_ofG {l : PySem.W.OpenLaw} {n k : Nat} {q : Program} {loose : List Str} {XP : (Str → Option Value) → Heap → Prop} {YP : World → Heap → Prop} {d : DefRec} {C : CXT} {x : Str} (hn : l.most = some n) (hn2 : n ≤ sizeLine) (hdf : d.params.defaults = []) (hr : Room k callerA)
    (F : ∀ (w : World) (mg : Str → Option Value) (fa : Addr) (h : Heap), YP w h → h.Ns mainGlobals mg → mg d.name = some (.ref fa) → ∃ (K : PySem.W.Frag) (fd : FuncData) (sp : Sp), K.In h ∧ (∀ (s : Shared) (u : Value), BindsTo s fd ⟨[u], []⟩ [(x, u)]) ∧
        (∀ (H : Hp) (a : Addr) (ns : List Int), ns.length ≤ n → SqL K H a (ns.map V.int) → sp [.ref a] H (fun v _ => v = .bl true) fun _ _ _ => False) ∧ ∀ b : Heap, K.In b → b.Ns mainGlobals mg → FnG l.prog w K mg b C k fa fd [x] sp)
    (hC : ∀ (H : Hp) (s : Shared) (e : Value) (s2 : Shared), C [] H s (fun _ _ _ => False) e s2 → False) : PySem.W.WalkO q loose XP YP l.row.toRowW d [] (fun f vs => PySem.call f vs) := by
  refine Att.attach_call hn hdf fun w s0 s1 mg mb fa o pm cd doc a vs ns G Y ho hd hcd hmg hobj hints hlen hgens => ?_
  obtain ⟨K, fd, sp, K1, hb, hsp, hF⟩ := F w mg fa _ Y G.T.g hmg
  exact law_callG K1 G.T.g G.T.b G.T.builtins G.T.nolimit hgens hobj hints (Nat.le_trans hlen hn2) hr hF hb (fun H hS => hsp H a ns hlen hS) fun H e s2 => hC H s1 e s2
end Mp

end
section
set_option maxRecDepth 100000
set_option maxHeartbeats 4000000
namespace Mp
open PySem PySem.Spec PyProof.Rows L2

/-- forms of no special rule -/
def plainX : Expr → Bool
  | .Starred .. => false
  | .Set .. => false
  | .Slice .. => false
  | .NamedExpr .. => false
  | _ => true
theorem plain_marks {op : CmpOp} {b : Expr} (h : plainX b = true) : behindInMarks op b = false := by
  cases b <;> first | rfl | exact Bool.noConfusion (show false = true from h)
theorem plain_star {e : Expr} {es : List Expr} {env : PySem.Env} (h : plainX e = true) : starEach (e :: es) env = (false, eval e env) :: starEach es env := by
  cases e <;> first | rfl | exact Bool.noConfusion (show false = true from h)
theorem plain_ix {b : Expr} (h : plainX b = true) : PlainIx b := by
  intro o i
  cases b <;> first | rfl | exact Bool.noConfusion (show false = true from h)
theorem plain_fold {b : Expr} {env : PySem.Env} (h : plainX b = true) : ∀ x, foldedSetIterable b env x = pure x := by
  intro x
  cases b <;> first | rfl | exact Bool.noConfusion (show false = true from h)
/-- what stands plainly in a test -/
def plainT : Expr → Bool
  | .UnaryOp .Not _ _ => false
  | .BoolOp .. => false
  | .IfExp .. => false
  | .Compare .. => false
  | _ => true
theorem plain_test {e : Expr} {env : PySem.Env} (h : plainT e = true) : ∀ whole, isTrue e env whole = (do let v ← whole; standAt e.pos; holding [v] (truthy v)) := by
  intro whole
  cases e <;> first | rfl | exact Bool.noConfusion (show false = true from h) | skip
  rename_i op a p
  cases op <;> first | rfl | exact Bool.noConfusion (show false = true from h)
def allPlain (es : List Expr) : Bool := es.all plainX
theorem plain_any {es : List Expr} {env : PySem.Env} {pos : Pos} (h : allPlain es = true) : (backTo pos (starEach es env)).any (·.1) = false := by
  induction es with
  | nil => rfl
  | cons e r ih =>
    have h : (plainX e && allPlain r) = true := h
    rw [Bool.and_eq_true] at h
    rw [plain_star h.1]
    show (false || (backTo pos (starEach r env)).any (·.1)) = false
    rw [ih h.2]
    rfl

def bltNames : List Str := ["len", "abs", "min", "max", "int", "range", "enumerate", "zip", "isinstance", "repr", "sum", "all", "any", "sorted", "tuple", "list", "set", "dict", "str", "bool"]
structure FnGood (P : Program) (w : World) (K : PySem.W.Frag) (mg : Str → Option Value) (base : Heap) (Z : St0) (k : Nat) (x : Str) (g : List D → HP → Rs D) : Prop where
  ex : ∃ (a : Addr) (fd : FuncData) (ps : List Str), mg x = some (.ref a) ∧ PySem.W.keepIn K (.ref a) = true ∧ L2.Binds K fd ps [] ∧ (∀ ds h, ds.length ≠ ps.length → g ds h = .bad) ∧ FnG P w K mg base (L2.CX P w) k a fd ps (spF Z ps.length g)
  dbg : (x == ("__debug__" : Str)) = false
structure Good (G : Tab) (Z : St0) (cf : Fns) (k : Nat) (cc : CC) (X : Cx) : Prop where
  K : X.K = Z.K
  calm : X.calm = true
  N : X.N = cc.N
  nd : cc.N.Nodup
  sc : X.env.scope = cc.sc
  fn : X.fn = cc.fn
  room : Room k X.A
  gd : X.A.guards = some []
  blt : ∀ x ∈ bltNames, X.mg x = none
  glo : ∀ i, (∃ u v, X.mg (G.gnm i) = some u ∧ RelV v u ∧ ∀ fb H bx, Rep (Z.wf fb) H bx (G.gl i) v) ∨ G.gnm i = Str.empty
  fns : ∀ f, FnGood X.prog X.w X.K X.mg X.base Z k (G.fnm f) (cf f) ∨ G.fnm f = Str.empty
/-- soundness of a piece -/
def SE (Z : St0) (X : Cx) (x : Expr) (f : Env → HP → Rs D) : Prop := ∀ fb W, Takes X W → PE X x (tE (Z.wf fb) W f)
def ST (Z : St0) (X : Cx) (x : Expr) (f : Env → HP → Rs Bool) : Prop := ∀ fb W, Takes X W → PT X x (tT (Z.wf fb) W f)
def SA (Z : St0) (X : Cx) (xs : List Expr) (f : Env → HP → Rs (List D)) : Prop := ∀ fb W, Takes X W → PA X xs (tA (Z.wf fb) W f)
section
variable {G : Tab} {Z : St0} {cf : Fns} {k : Nat} {cc : CC} {X : Cx} {pos : Pos}
theorem Good.un64 (g : Good G Z cf k cc X) : X.A.units + 64 < cLine := g.room.units
theorem Good.un65 (g : Good G Z cf k cc X) : X.A.units + 65 < cLine := by have := g.room.un; omega
def visOk (cc : CC) (i : Nat) (x : Str) : Bool := decide (cc.N[i]? = some x) && (decide (cc.sc.names.lookup x = some .local) || (decide (cc.sc.names.lookup x = some .cell) || decide (cc.sc.names.lookup x = some .free))) && !(x == ("__debug__" : Str)) && !(x == ("__classdict__" : Str))
def glOk (cc : CC) (x : Str) : Bool := decide (cc.sc.names.lookup x = some .globalImplicit) && !(x == ("__debug__" : Str)) && !(x == ("__name__" : Str))
theorem glOk_of (g : Good G Z cf k cc X) {x : Str} (h : glOk cc x = true) : Gl X x ∧ (x == ("__debug__" : Str)) = false ∧ x ≠ "__name__" := by
  unfold glOk at h
  simp only [Bool.and_eq_true, decide_eq_true_eq, Bool.not_eq_true'] at h
  refine ⟨?_, h.1.2, fun e => ?_⟩
  · show X.env.scope.names.lookup x = _
    rw [g.sc]
    exact h.1.1
  · rw [e] at h
    have := h.2
    simp at this
theorem se_loc (g : Good G Z cf k cc X) {i : Nat} {x : Str} (h : visOk cc i x = true) : SE Z X (.Name x pos) (fun env hp => match env[i]? with
    | some (some d) => .ok d hp
    | _ => .bad) := by
  intro fb W tk
  unfold visOk at h
  simp only [Bool.and_eq_true, decide_eq_true_eq, Bool.not_eq_true', Bool.or_eq_true] at h
  obtain ⟨⟨⟨h1, h2⟩, h3⟩, h4⟩ := h
  refine pe_imp (pe_var (i := i) (by rw [g.N]; exact h1) (by unfold Vis; rw [g.sc]; exact h2) h3 h4) fun σ H Q q => ?_
  obtain ⟨bx, env, hp, he, hh, p⟩ := q
  dsimp only at p
  split at p
  · rename_i d e
    obtain ⟨v, h5, h6⟩ := he.at_ i d e
    exact ⟨v, h5, p.ok hh h6⟩
  · exact False.elim p
def ltOk : Lt → Const → Bool
  | .non, .none => true
  | .bl b, .bool c => b == c
  | .int i, .int j => decide (i = j)
  | .str x, .str y => decide (x = y)
  | _, _ => false
theorem se_lit {v : Lt} {c : Const} {j : Nat} (h : ltOk v c = true) : SE Z X (.Constant c j pos) (fun _ hp => .ok v.d hp) := by
  intro fb W tk
  have fin : ∀ (w : V), (∀ H bx, Rep (Z.wf fb) H bx v.d w) → PE X (.Constant c j pos) (tC w) → PE X (.Constant c j pos) (tE (Z.wf fb) W fun _ hp => .ok v.d hp) := fun w hw hp => pe_imp hp fun σ H Q q => by
    obtain ⟨bx, env, h2, he, hh, p⟩ := q
    exact p.ok hh (hw H bx)
  cases v with
  | non =>
    cases c <;> first | exact Bool.noConfusion (show false = true from h) | skip
    exact fin .non (fun _ _ => rfl) pe_non
  | bl b =>
    cases c <;> first | exact Bool.noConfusion (show false = true from h) | skip
    rename_i b2
    have e : b = b2 := by simpa [ltOk] using h
    subst e
    exact fin (.bl b) (fun _ _ => rfl) pe_bl
  | int i =>
    cases c <;> first | exact Bool.noConfusion (show false = true from h) | skip
    rename_i b2
    have e : i = b2 := by simpa [ltOk] using h
    subst e
    exact fin (.int i) (fun _ _ => rfl) pe_int
  | str i =>
    cases c <;> first | exact Bool.noConfusion (show false = true from h) | skip
    rename_i b2
    have e : i = b2 := by simpa [ltOk] using h
    subst e
    exact fin (.str i) (fun _ _ => rfl) pe_str
theorem se_glo (g : Good G Z cf k cc X) {i : Nat} {x : Str} (h : glOk cc x = true) (e : x = G.gnm i) (ne : x ≠ Str.empty) : SE Z X (.Name x pos) (fun _ hp => .ok (G.gl i) hp) := by
  intro fb W tk
  obtain ⟨h1, h2, h3⟩ := glOk_of g h
  rcases g.glo i with ⟨u, v, e1, r, rr⟩ | e1
  · rw [← e] at e1
    refine pe_imp (pe_glob h1 e1 r h2) fun σ H Q q => ?_
    obtain ⟨bx, env, hp, he, hh, p⟩ := q
    exact p.ok hh (rr fb H bx)
  · rw [← e] at e1
    exact absurd e1 ne
theorem sa_nil : SA Z X [] (fun _ hp => .ok [] hp) := fun fb W tk => pa_imp pa_nil fun σ H Q q => by
  obtain ⟨bx, env, hp, he, hh, p⟩ := q
  exact p.ok hh rfl
theorem sa_cons {x : Expr} {xs : List Expr} {f : Env → HP → Rs D} {fs : Env → HP → Rs (List D)} (h : SE Z X x f) (hs : SA Z X xs fs) (hp : plainX x = true) :
    SA Z X (x :: xs) (fun env hp => (f env hp).bnd fun d hp => (fs env hp).bnd fun ds hp => .ok (d :: ds) hp) := fun fb W tk => pa_imp (pa_cons (h fb W tk) (hs fb W tk) (plain_star hp)) fun σ H Q q => by
  obtain ⟨bx, env, hp, he, hh, p⟩ := q
  refine ⟨bx, env, hp, he, hh, Pst.bnd p fun a h1 H1 bx1 x e1 hh1 r1 p1 => ?_⟩
  refine ⟨bx1, env, h1, he.ext e1, hh1, Pst.bnd p1 fun ds h2 H2 bx2 ys e2 hh2 r2 p2 => ?_⟩
  exact p2.ok hh2 (.cons (Rep.ext e2 _ r1) r2)
theorem st2 {fb : List Addr} {W : WX} {fa fb2 : Env → HP → Rs D} {g : List D → HP → Rs D} {σ : L2.St} {H : Hp} {Q : VK} (q : tE (Z.wf fb) W (fun env hp => (fa env hp).bnd fun x hp => (fb2 env hp).bnd fun y hp => g [x, y] hp) σ H Q) :
    tE (Z.wf fb) W fa σ H fun x H1 => tE (Z.wf fb) W fb2 σ H1 fun y H2 => r2 (Z.wf fb) g x y H2 Q := by
  obtain ⟨bx, env, hp, he, hh, p⟩ := q
  refine ⟨bx, env, hp, he, hh, Pst.bnd p fun a h1 H1 bx1 x e1 hh1 r1 p1 => ?_⟩
  refine ⟨bx1, env, h1, he.ext e1, hh1, Pst.bnd p1 fun b h2 H2 bx2 y e2 hh2 r2 p2 => ?_⟩
  exact ⟨_, bx2, a, b, h2, Rep.ext e2 _ r1, r2, hh2, p2⟩
theorem st1 {fb : List Addr} {W : WX} {fa : Env → HP → Rs D} {g : List D → HP → Rs D} {σ : L2.St} {H : Hp} {Q : VK} (q : tE (Z.wf fb) W (fun env hp => (fa env hp).bnd fun x hp => g [x] hp) σ H Q) :
    tE (Z.wf fb) W fa σ H fun x H1 => r1 (Z.wf fb) g x H1 Q := by
  obtain ⟨bx, env, hp, he, hh, p⟩ := q
  exact ⟨bx, env, hp, he, hh, Pst.bnd p fun a h1 H1 bx1 x e1 hh1 r1 p1 => ⟨_, bx1, a, h1, r1, hh1, p1⟩⟩
theorem stL {fb : List Addr} {W : WX} {fs : Env → HP → Rs (List D)} {g : List D → HP → Rs D} {σ : L2.St} {H : Hp} {Q : VK} (q : tE (Z.wf fb) W (fun env hp => (fs env hp).bnd fun ds hp => g ds hp) σ H Q) :
    tA (Z.wf fb) W fs σ H fun x H1 => rL (Z.wf fb) g x H1 Q := by
  obtain ⟨bx, env, hp, he, hh, p⟩ := q
  exact ⟨bx, env, hp, he, hh, Pst.bnd p fun a h1 H1 bx1 x e1 hh1 r1 p1 => ⟨_, bx1, a, h1, r1, hh1, p1⟩⟩
theorem se_bin {o : Operator} {a b : Expr} {fa fb : Env → HP → Rs D} {gg : List D → HP → Rs D} (ho : ∀ f, OpR X (binaryOp o) (r2 (Z.wf f) gg)) (ha : SE Z X a fa) (hb : SE Z X b fb) :
    SE Z X (.BinOp a o b pos) (fun env hp => (fa env hp).bnd fun x hp => (fb env hp).bnd fun y hp => gg [x, y] hp) := fun f W tk => pe_imp (pe_op (ho f) (ha f W tk) (hb f W tk)) fun _ _ _ q => st2 q
theorem se_un {o : UnaryOp} {a : Expr} {fa : Env → HP → Rs D} {gg : List D → HP → Rs D} (ho : ∀ f, UnR X (unaryOp o) (r1 (Z.wf f) gg)) (ha : SE Z X a fa) :
    SE Z X (.UnaryOp o a pos) (fun env hp => (fa env hp).bnd fun x hp => gg [x] hp) := fun f W tk => pe_imp (pe_un (ho f) (ha f W tk)) fun _ _ _ q => st1 q
theorem se_cmp {o : CmpOp} {a b : Expr} {fa fb : Env → HP → Rs D} {gg : List D → HP → Rs D} (ho : ∀ f, OpR X (compareOp o) (r2 (Z.wf f) gg)) (ha : SE Z X a fa) (hb : SE Z X b fb) (hp : plainX b = true) :
    SE Z X (.Compare a [o] [b] pos) (fun env hp => (fa env hp).bnd fun x hp => (fb env hp).bnd fun y hp => gg [x, y] hp) := fun f W tk => pe_imp (pe_cmpR (ho f) (ha f W tk) (hb f W tk) (plain_marks hp)) fun _ _ _ q => st2 q
theorem se_cmp1 {o : CmpOp} {a : Expr} {c : Const} {j : Nat} {cp : Pos} {v : V} {fa : Env → HP → Rs D} {gg : List D → HP → Rs D} (ho : ∀ f, OpR X (compareOp o) (fun x y H Q => y = v ∧ r1 (Z.wf f) gg x H Q)) (ha : SE Z X a fa) (hc : PE X (.Constant c j cp) (tC v)) :
    SE Z X (.Compare a [o] [.Constant c j cp] pos) (fun env hp => (fa env hp).bnd fun x hp => gg [x] hp) := fun f W tk => pe_imp (pe_cmpR (ho f) (ha f W tk) hc (plain_marks rfl)) fun _ _ _ q => by
  obtain ⟨bx, env, hp, he, hh, p⟩ := q
  exact ⟨bx, env, hp, he, hh, Pst.bnd p fun a h1 H1 bx1 x e1 hh1 r1 p1 => ⟨rfl, _, bx1, a, h1, r1, hh1, p1⟩⟩
theorem se_ix {a b : Expr} {fa fb : Env → HP → Rs D} {gg : List D → HP → Rs D} (ho : ∀ f, IxR X (r2 (Z.wf f) gg)) (ha : SE Z X a fa) (hb : SE Z X b fb) (hp : plainX b = true) :
    SE Z X (.Subscript a b pos) (fun env hp => (fa env hp).bnd fun x hp => (fb env hp).bnd fun y hp => gg [x, y] hp) := fun f W tk => pe_imp (pe_ix (ho f) (ha f W tk) (hb f W tk) (plain_ix hp)) fun _ _ _ q => st2 q
/-- parts of a slice -/
def optF (f : Option (Env → HP → Rs D)) (env : Env) (hp : HP) : Rs (Option Int) := match f with
  | none => .ok none hp
  | some f => (f env hp).bnd fun d hp => match d with
    | .int i => .ok (some i) hp
    | _ => .bad
def SO (Z : St0) (X : Cx) : Option Expr → Option (Env → HP → Rs D) → Prop
  | none, none => True
  | some x, some f => SE Z X x f
  | _, _ => False
theorem po_of {fb : List Addr} {W : WX} (tk : Takes X W) {x : Option Expr} {f : Option (Env → HP → Rs D)} (h : SO Z X x f) : PO X x (tG (Z.wf fb) (fun _ _ (a b : Option Int) => a = b) W (optF f)) := by
  cases x with
  | none =>
    cases f with
    | none =>
      refine ⟨fun pins s σ H Q I q => po_none.run pins s σ H Q I ?_⟩
      obtain ⟨bx, env, hp, he, hh, p⟩ := q
      exact p.ok hh rfl
    | some f => exact h.elim
  | some x =>
    cases f with
    | none => exact h.elim
    | some f =>
      have h : SE Z X x f := h
      refine ⟨fun pins s σ H Q I q => (po_some (h fb W tk)).run pins s σ H Q I ?_⟩
      obtain ⟨bx, env, hp, he, hh, p⟩ := q
      refine ⟨bx, env, hp, he, hh, Pst.bnd p fun a h1 H1 bx1 v e1 hh1 r1 p1 => ?_⟩
      cases a <;> first | exact False.elim p1 | skip
      exact ⟨_, r1, p1.ok hh1 rfl⟩
theorem se_sl (g : Good G Z cf k cc X) {a : Expr} {lo hi : Option Expr} {p2 : Pos} {fa : Env → HP → Rs D} {fl fh : Option (Env → HP → Rs D)} (ha : SE Z X a fa) (hl : SO Z X lo fl) (hh : SO Z X hi fh) :
    SE Z X (.Subscript a (.Slice lo hi none p2) pos) (fun env hp => (fa env hp).bnd fun x hp => (optF fl env hp).bnd fun l hp => (optF fh env hp).bnd fun u hp => evSl x l u hp) := fun f W tk =>
  pe_imp (pe_slice (sl_of (Z := Z.wf f) g.K) (ha f W tk) (po_of tk hl) (po_of tk hh)) fun σ H Q q => by
    obtain ⟨bx, env, hp, he, hh, p⟩ := q
    refine ⟨bx, env, hp, he, hh, Pst.bnd p fun a h1 H1 bx1 x e1 hh1 r1 p1 => ?_⟩
    refine ⟨bx1, env, h1, he.ext e1, hh1, Pst.bnd p1 fun l h2 H2 bx2 l' e2 hh2 r2 p2 => ?_⟩
    subst r2
    refine ⟨bx2, env, h2, (he.ext e1).ext e2, hh2, Pst.bnd p2 fun u h3 H3 bx3 u' e3 hh3 r3 p3 => ?_⟩
    subst r3
    exact ⟨_, bx3, a, h3, Rep.ext e3 _ (Rep.ext e2 _ r1), hh3, p3⟩
theorem se_rev (g : Good G Z cf k cc X) {a : Expr} {j : Nat} {p1 p2 p3 : Pos} {fa : Env → HP → Rs D} (ha : SE Z X a fa) :
    SE Z X (.Subscript a (.Slice none none (some (.UnaryOp .USub (.Constant (.int 1) j p1) p2)) p3) pos) (fun env hp => (fa env hp).bnd fun x hp => evOp .rev [x] hp) := fun f W tk =>
  pe_imp (pe_revA (ha f W tk)) fun σ H Q q => by
    obtain ⟨bx, env, hp, he, hh, p⟩ := q
    refine ⟨bx, env, hp, he, hh, Pst.bnd p fun a h1 H1 bx1 x e1 hh1 r1 p1 => ?_⟩
    replace p1 : PstS (Z.wf f) H1 bx1 (fun c d H' => W c d σ H') (RepS (Z.wf f)) (match deref h1 a with
      | .lst xs => .ok (.lst xs.reverse) h1
      | .tup xs => .ok (.tup xs.reverse) h1
      | _ => .bad) Q := p1
    split at p1
    · rename_i xs g1
      obtain ⟨b, vs, rfl, f1, hz, rr⟩ := deref_lst hh1 r1 g1
      exact ⟨b, vs, rfl, .inl ⟨by rw [g.K]; exact f1, fun pp n => p1 _ _ _ (ext_new hh1 _ n) (heap_new hh1 _ n) (rep_lst hh1 n rr.reverse (by rw [List.length_reverse]; exact hz))⟩⟩
    · rename_i xs g1
      have e := deref_tup g1
      subst e
      obtain ⟨b, vs, rfl, f1, rr⟩ := r1
      exact ⟨b, vs, rfl, .inr ⟨by rw [g.K]; exact f1.sq, fun pp o n to => p1 _ _ _ (ext_new hh1 _ n) (heap_new hh1 _ n) (rep_tup hh1 n to rr.reverse (by rw [List.length_reverse]; exact f1.1))⟩⟩
    · exact False.elim p1
end
end Mp

end
section
set_option maxRecDepth 100000
set_option maxHeartbeats 4000000
namespace Mp
open PySem PySem.Spec PyProof.Rows L2
theorem bnd_assoc {α β γ : Type} (r : Rs α) (k : α → HP → Rs β) (l : β → HP → Rs γ) : (r.bnd k).bnd l = r.bnd fun a h => (k a h).bnd l := by
  cases r <;> rfl
section
variable {G : Tab} {Z : St0} {cf : Fns} {k : Nat} {cc : CC} {X : Cx} {pos : Pos}
theorem se_tup {xs : List Expr} {j : Nat} {fs : Env → HP → Rs (List D)} (h : SA Z X xs fs) (hl : ∀ env hp ds hp', fs env hp = .ok ds hp' → ds.length ≤ 1000) : SE Z X (.Tuple xs j pos) (fun env hp => (fs env hp).bnd fun ds hp => .ok (.tup ds) hp) := fun f W tk =>
  pe_imp (pe_tupF (h f W tk)) fun σ H Q q => by
    obtain ⟨bx, env, hp, he, hh, p⟩ := q
    refine ⟨bx, env, hp, he, hh, Pst.bndE p fun ds h1 H1 bx1 vs e e1 hh1 r1 p1 => ?_⟩
    have l : vs.length ≤ 1000 := by rw [r1.length]; exact hl _ _ _ _ e
    have l2 : vs.length ≤ sizeLine := by rw [sizeLine_eq]; omega
    exact ⟨l2, fun pp o n to => p1 _ _ _ (ext_new hh1 _ n) (heap_new hh1 _ n) (rep_tup hh1 n to r1 l2)⟩
theorem se_lst {xs : List Expr} {b : Bool} {fs : Env → HP → Rs (List D)} (h : SA Z X xs fs) (hl : ∀ env hp ds hp', fs env hp = .ok ds hp' → ds.length ≤ 1000) : SE Z X (.List xs pos) (fun env hp => (fs env hp).bnd fun ds hp => newL b ds hp) := fun f W tk =>
  pe_imp (pe_lst (h f W tk)) fun σ H Q q => by
    obtain ⟨bx, env, hp, he, hh, p⟩ := q
    refine ⟨bx, env, hp, he, hh, Pst.bndE p fun ds h1 H1 bx1 vs e e1 hh1 r1 p1 => ?_⟩
    have l : vs.length ≤ 1000 := by rw [r1.length]; exact hl _ _ _ _ e
    have l2 : vs.length ≤ sizeLine := by rw [sizeLine_eq]; omega
    exact ⟨l2, fun pp n => new_lst hh1 r1 l2 p1 n⟩
theorem sp_call {f fb : List Addr} {W : WX} {σ : L2.St} {fs : Env → HP → Rs (List D)} {g : List D → HP → Rs D} {n : Nat} (hn : ∀ ds h, ds.length ≠ n → g ds h = .bad) {H : Hp} {Q : VK} (q : tE (Z.wf fb) W (fun env hp => (fs env hp).bnd fun ds hp => g ds hp) σ H Q) :
    tA (Z.wf fb) W fs σ H fun vs H1 => spF Z n g vs H1 Q (WE W σ) := by
  obtain ⟨bx, env, hp, he, hh, p⟩ := q
  refine ⟨bx, env, hp, he, hh, Pst.bnd p fun ds h1 H1 bx1 x e1 hh1 r1 p1 => ?_⟩
  by_cases e : ds.length = n
  · exact ⟨fb, bx1, ds, h1, r1, hh1, e, p1⟩
  · rw [hn ds h1 e] at p1
    exact False.elim p1
theorem se_call (g : Good G Z cf k cc X) {f : Nat} {x : Str} {p : Pos} {e0 : Expr} {es : List Expr} {fs : Env → HP → Rs (List D)} (h : SA Z X (e0 :: es) fs) (hx : glOk cc x = true) (e : x = G.fnm f) (ne : x ≠ Str.empty) (hp : allPlain (e0 :: es) = true) :
    SE Z X (.Call (.Name x p) (e0 :: es) [] pos) (fun env hp => (fs env hp).bnd fun ds hp => cf f ds hp) := by
  intro fb W tk
  obtain ⟨h1, h2, h3⟩ := glOk_of g hx
  rcases g.fns f with fg | e1
  · obtain ⟨⟨a, fd, ps, hm, hk, hb, hn, F⟩, hdb⟩ := fg
    rw [← e] at hm
    have hp' : (plainX e0 && allPlain es) = true := hp
    rw [Bool.and_eq_true] at hp'
    exact pe_imp (pe_callG F g.room g.gd h1 hm hk hb (fun σ => passAt tk σ) (h fb W tk) h2 (plain_star hp'.1) (plain_any hp'.2)) fun σ H Q q => sp_call (f := fb) hn q
  · rw [← e] at e1
    exact absurd e1 ne
theorem se_call0 (g : Good G Z cf k cc X) {f : Nat} {x : Str} {p : Pos} (hx : glOk cc x = true) (e : x = G.fnm f) (ne : x ≠ Str.empty) : SE Z X (.Call (.Name x p) [] [] pos) (fun env hp => cf f [] hp) := by
  intro fb W tk
  obtain ⟨h1, h2, h3⟩ := glOk_of g hx
  rcases g.fns f with fg | e1
  · obtain ⟨⟨a, fd, ps, hm, hk, hb, hn, F⟩, hdb⟩ := fg
    rw [← e] at hm
    refine ⟨fun pins s σ H Q I q => ?_⟩
    refine wpAny_Call_Name_kw (ld_glob I h1 hm ?_ h2)
    obtain ⟨bx, env, hp0, he, hh, p⟩ := q
    by_cases e : ([] : List D).length = ps.length
    · exact PySem.W.callWith_K0 I.kIn hk (run_fnG (us := []) (vs := []) F g.room g.gd hb (passAt tk σ) I .nil ⟨fb, bx, [], hp0, rfl, hh, e, p⟩)
    · have p : PstS (Z.wf fb) H bx (fun c d H' => W c d σ H') (RepS (Z.wf fb)) (cf f [] hp0) Q := p
      rw [hn [] hp0 e] at p
      exact False.elim p
  · rw [← e] at e1
    exact absurd e1 ne
def truth (d : D) (h : HP) : Rs Bool := match truD h d with
  | some b => .ok b h
  | none => .bad
theorem st_plain (g : Good G Z cf k cc X) {x : Expr} {f : Env → HP → Rs D} (h : SE Z X x f) (hp : plainT x = true) : ST Z X x (fun env hp => (f env hp).bnd truth) := fun fb W tk =>
  pt_imp (pt_truth (h fb W tk) (plain_test hp)) fun σ H Q q => by
    obtain ⟨bx, env, hp, he, hh, p⟩ := q
    refine ⟨bx, env, hp, he, hh, Pst.bnd p fun d h1 H1 bx1 v e1 hh1 r1 p1 => ?_⟩
    unfold truth at p1
    split at p1
    · rename_i b eb
      exact ⟨b, tru_rep (Z := Z.wf fb) g.K hh1 r1 eb, p1.ok hh1 rfl⟩
    · exact False.elim p1
/-- results that are truth values -/
def Blean (gg : List D → HP → Rs D) : Prop := ∀ ds h d h', gg ds h = .ok d h' → ∃ b, d = .bl b
/-- a reading whose value is a truth value, as a test -/
theorem st_bl {fb : List Addr} {W : WX} {ff : Env → HP → Rs D} (hb : ∀ env hp d hp', ff env hp = .ok d hp' → ∃ b, d = .bl b) {σ : L2.St} {H : Hp} {Q : Bool → Hp → Prop}
    (q : tT (Z.wf fb) W (fun env hp => (ff env hp).bnd truth) σ H Q) : tE (Z.wf fb) W ff σ H fun x H' => ∃ k, x = .bl k ∧ Q k H' := by
  obtain ⟨bx, env, hp, he, hh, p⟩ := q
  refine ⟨bx, env, hp, he, hh, Pst.bndE p fun d h1 H1 bx1 v e e1 hh1 r1 p1 => ?_⟩
  obtain ⟨b, rfl⟩ := hb _ _ _ _ e
  exact ⟨b, r1, p1.ok hh1 rfl⟩
theorem bl_of {gg : List D → HP → Rs D} (h : Blean gg) {fa fb : Env → HP → Rs D} : ∀ env hp d hp', ((fa env hp).bnd fun x hp => (fb env hp).bnd fun y hp => gg [x, y] hp) = .ok d hp' → ∃ b, d = .bl b := by
  intro env hp d hp' e
  cases e1 : fa env hp with
  | ok x h1 =>
    rw [e1] at e
    dsimp only [bnd_ok] at e
    cases e2 : fb env h1 with
    | ok y h2 =>
      rw [e2] at e
      exact h _ _ _ _ e
    | exc x h2 => rw [e2] at e; cases e
    | bad => rw [e2] at e; cases e
  | exc x h2 => rw [e1] at e; cases e
  | bad => rw [e1] at e; cases e
theorem bl_of1 {gg : List D → HP → Rs D} (h : Blean gg) {fa : Env → HP → Rs D} : ∀ env hp d hp', ((fa env hp).bnd fun x hp => gg [x] hp) = .ok d hp' → ∃ b, d = .bl b := by
  intro env hp d hp' e
  cases e1 : fa env hp with
  | ok x h1 =>
    rw [e1] at e
    exact h _ _ _ _ e
  | exc x h2 => rw [e1] at e; cases e
  | bad => rw [e1] at e; cases e
theorem st_cmp {o : CmpOp} {a b : Expr} {fa fb : Env → HP → Rs D} {gg : List D → HP → Rs D} (ho : ∀ f, OpR X (compareOp o) (r2 (Z.wf f) gg)) (hb : Blean gg) (ha : SE Z X a fa) (hb2 : SE Z X b fb) (hp : plainX b = true) :
    ST Z X (.Compare a [o] [b] pos) (fun env hp => ((fa env hp).bnd fun x hp => (fb env hp).bnd fun y hp => gg [x, y] hp).bnd truth) := fun f W tk =>
  pt_imp (pt_cmpR (ho f) (ha f W tk) (hb2 f W tk) (plain_marks hp)) fun _ _ _ q => st2 (st_bl (bl_of hb) q)
theorem st_cmp1 {o : CmpOp} {a : Expr} {c : Const} {j : Nat} {cp : Pos} {v : V} {fa : Env → HP → Rs D} {gg : List D → HP → Rs D} (ho : ∀ f, OpR X (compareOp o) (fun x y H Q => y = v ∧ r1 (Z.wf f) gg x H Q)) (hb : Blean gg) (ha : SE Z X a fa) (hc : PE X (.Constant c j cp) (tC v)) :
    ST Z X (.Compare a [o] [.Constant c j cp] pos) (fun env hp => ((fa env hp).bnd fun x hp => gg [x] hp).bnd truth) := fun f W tk => pt_imp (pt_cmpR (ho f) (ha f W tk) hc (plain_marks rfl)) fun _ _ _ q => by
  obtain ⟨bx, env, hp, he, hh, p⟩ := st_bl (bl_of1 hb) q
  exact ⟨bx, env, hp, he, hh, Pst.bnd p fun a h1 H1 bx1 x e1 hh1 r1 p1 => ⟨rfl, _, bx1, a, h1, r1, hh1, p1⟩⟩
theorem st_not {a : Expr} {f : Env → HP → Rs Bool} (h : ST Z X a f) : ST Z X (.UnaryOp .Not a pos) (fun env hp => (f env hp).bnd fun b hp => .ok (!b) hp) := fun fb W tk => pt_imp (pt_not (h fb W tk)) fun σ H Q q => by
  obtain ⟨bx, env, hp, he, hh, p⟩ := q
  refine ⟨bx, env, hp, he, hh, Pst.bnd p fun d h1 H1 bx1 v e1 hh1 r1 p1 => ?_⟩
  have r1 : d = v := r1
  subst r1
  exact p1.ok hh1 rfl
theorem se_not (g : Good G Z cf k cc X) {a : Expr} {f : Env → HP → Rs D} (h : SE Z X a f) : SE Z X (.UnaryOp .Not a pos) (fun env hp => (f env hp).bnd fun d hp => evOp .not [d] hp) := fun fb W tk => pe_imp (pe_notT (h fb W tk)) fun σ H Q q => by
  obtain ⟨bx, env, hp, he, hh, p⟩ := q
  refine ⟨bx, env, hp, he, hh, Pst.bnd p fun d h1 H1 bx1 v e1 hh1 r1 p1 => ?_⟩
  replace p1 : PstS (Z.wf fb) H1 bx1 (fun c d H' => W c d σ H') (RepS (Z.wf fb)) (match truD h1 d with
      | some b => .ok (.bl (!b)) h1
      | none => .bad) Q := p1
  split at p1
  · rename_i b eb
    exact ⟨b, tru_rep (Z := Z.wf fb) g.K hh1 r1 eb, p1.ok hh1 rfl⟩
  · exact False.elim p1
theorem se_ite {c a b : Expr} {fc : Env → HP → Rs Bool} {fa fb : Env → HP → Rs D} (hc : ST Z X c fc) (ha : SE Z X a fa) (hb : SE Z X b fb) : SE Z X (.IfExp c a b pos) (fun env hp => (fc env hp).bnd fun t hp => match t with
    | true => fa env hp
    | false => fb env hp) := fun f W tk => pe_imp (pe_ifExp (hc f W tk) (ha f W tk) (hb f W tk)) fun σ H Q q => by
  obtain ⟨bx, env, hp, he, hh, p⟩ := q
  refine ⟨bx, env, hp, he, hh, Pst.bnd p fun d h1 H1 bx1 v e1 hh1 r1 p1 => ?_⟩
  have r1 : d = v := r1
  subst r1
  cases d with
  | true => exact iteT ⟨bx1, env, h1, he.ext e1, hh1, p1⟩
  | false => exact iteF ⟨bx1, env, h1, he.ext e1, hh1, p1⟩
theorem st_ite {c a b : Expr} {fc fa fb : Env → HP → Rs Bool} (hc : ST Z X c fc) (ha : ST Z X a fa) (hb : ST Z X b fb) : ST Z X (.IfExp c a b pos) (fun env hp => (fc env hp).bnd fun t hp => match t with
    | true => fa env hp
    | false => fb env hp) := fun f W tk => by
  refine ⟨fun pins s σ H Q I q => ?_⟩
  have q1 : tT (Z.wf f) W fc σ H fun t H1 => if t = true then tT (Z.wf f) W fa σ H1 Q else tT (Z.wf f) W fb σ H1 Q := by
    obtain ⟨bx, env, hp, he, hh, p⟩ := q
    refine ⟨bx, env, hp, he, hh, Pst.bnd p fun d h1 H1 bx1 v e1 hh1 r1 p1 => ?_⟩
    have r1 : d = v := r1
    subst r1
    cases d with
    | true => exact iteT ⟨bx1, env, h1, he.ext e1, hh1, p1⟩
    | false => exact iteF ⟨bx1, env, h1, he.ext e1, hh1, p1⟩
  unfold PySem.isTrue
  refine wpAny_bind (thn ((hc f W tk).run pins s σ H _ I q1) fun d s1 ⟨H1, I1, q2⟩ => ?_)
  cases d with
  | true => exact (ha f W tk).run pins s1 σ H1 Q I1 q2
  | false => exact (hb f W tk).run pins s1 σ H1 Q I1 q2
theorem se_one {o : BoolOp} {a : Expr} {f : Env → HP → Rs D} (h : SE Z X a f) : SE Z X (.BoolOp o [a] pos) f := fun fb W tk => pe_one (h fb W tk)
def isAndOp (b : Bool) : BoolOp := if b then .And else .Or
theorem se_bop (g : Good G Z cf k cc X) {b : Bool} {x y : Expr} {rest : List Expr} {fa fr : Env → HP → Rs D} (ha : SE Z X x fa) (hr : SE Z X (.BoolOp (isAndOp b) (y :: rest) pos) fr) :
    SE Z X (.BoolOp (isAndOp b) (x :: y :: rest) pos) (fun env hp => (fa env hp).bnd fun d hp => match truD hp d with
      | some k => if k = b then fr env hp else .ok d hp
      | none => .bad) := fun fb W tk => by
  have key : ∀ {σ : L2.St} {H : Hp} {Q : VK}, tE (Z.wf fb) W (fun env hp => (fa env hp).bnd fun d hp => match truD hp d with
      | some k => if k = b then fr env hp else .ok d hp
      | none => .bad) σ H Q → tE (Z.wf fb) W fa σ H fun v H1 => ∃ k, TruV X.K v H1 k ∧ if k = b then tE (Z.wf fb) W fr σ H1 Q else Q v H1 := by
    intro σ H Q q
    obtain ⟨bx, env, hp, he, hh, p⟩ := q
    refine ⟨bx, env, hp, he, hh, Pst.bnd p fun d h1 H1 bx1 v e1 hh1 r1 p1 => ?_⟩
    split at p1
    · rename_i kk eb
      refine ⟨kk, tru_rep (Z := Z.wf fb) g.K hh1 r1 eb, ?_⟩
      by_cases c : kk = b
      · rw [if_pos c] at p1 ⊢
        exact ⟨bx1, env, h1, he.ext e1, hh1, p1⟩
      · rw [if_neg c] at p1 ⊢
        exact p1.ok hh1 r1
    · exact False.elim p1
  have imp : ∀ {σ : L2.St} {H : Hp} {Q Q' : VK}, (∀ v H1, Q v H1 → Q' v H1) → tE (Z.wf fb) W fa σ H Q → tE (Z.wf fb) W fa σ H Q' := by
    intro σ H Q Q' f q
    obtain ⟨bx, env, hp, he, hh, p⟩ := q
    refine ⟨bx, env, hp, he, hh, ?_⟩
    cases e : fa env hp with
    | ok d h1 => rw [e] at p; exact fun H1 bx1 v e1 hh1 r1 => f _ _ (p H1 bx1 v e1 hh1 r1)
    | exc x h1 => rw [e] at p; exact p
    | bad => rw [e] at p; exact p
  cases b with
  | true => exact pe_imp (pe_andT (ha fb W tk) (hr fb W tk)) fun σ H Q q => key q
  | false =>
    refine pe_imp (pe_orT (ha fb W tk) (hr fb W tk)) fun σ H Q q => imp (fun v H1 z => ?_) (key q)
    obtain ⟨k, t, z⟩ := z
    refine ⟨k, t, ?_⟩
    cases k with
    | true => exact iteT (by simpa using z)
    | false => exact iteF (by simpa using z)
/-- a test whatever its whole is -/
def SW (Z : St0) (X : Cx) (x : Expr) (f : Env → HP → Rs Bool) : Prop := ∀ fb W, Takes X W → L2.PW X x (tT (Z.wf fb) W f)
theorem SW.st {x : Expr} {f : Env → HP → Rs Bool} (h : SW Z X x f) : ST Z X x f := fun fb W tk => (h fb W tk).pt
theorem sw_one {b : Bool} {a : Expr} {f : Env → HP → Rs Bool} (h : ST Z X a f) : SW Z X (.BoolOp (isAndOp b) [a] pos) (fun env hp => (f env hp).bnd fun k hp => if k = b then .ok b hp else .ok k hp) := fun fb W tk => by
  have key : ∀ {σ : L2.St} {H : Hp} {Q : Bool → Hp → Prop}, tT (Z.wf fb) W (fun env hp => (f env hp).bnd fun k hp => if k = b then .ok b hp else .ok k hp) σ H Q → tT (Z.wf fb) W f σ H Q := by
    intro σ H Q q
    obtain ⟨bx, env, hp, he, hh, p⟩ := q
    refine ⟨bx, env, hp, he, hh, Pst.bnd p fun d h1 H1 bx1 v e1 hh1 r1 p1 => ?_⟩
    have r1 : d = v := r1
    subst r1
    by_cases c : d = b
    · rw [if_pos c] at p1
      subst c
      exact p1.ok hh1 rfl
    · rw [if_neg c] at p1
      exact p1.ok hh1 rfl
  cases b with
  | true => exact pw_imp (pw_and1 (h fb W tk)) fun _ _ _ q => key q
  | false => exact pw_imp (pw_or1 (h fb W tk)) fun _ _ _ q => key q
theorem sw_cons {b : Bool} {x y : Expr} {rest : List Expr} {fa fr : Env → HP → Rs Bool} (ha : ST Z X x fa) (hr : SW Z X (.BoolOp (isAndOp b) (y :: rest) pos) fr) :
    SW Z X (.BoolOp (isAndOp b) (x :: y :: rest) pos) (fun env hp => (fa env hp).bnd fun k hp => if k = b then fr env hp else .ok k hp) := fun fb W tk => by
  have key : ∀ {σ : L2.St} {H : Hp} {Q : Bool → Hp → Prop}, tT (Z.wf fb) W (fun env hp => (fa env hp).bnd fun k hp => if k = b then fr env hp else .ok k hp) σ H Q → tT (Z.wf fb) W fa σ H fun k H1 => if k = b then tT (Z.wf fb) W fr σ H1 Q else Q k H1 := by
    intro σ H Q q
    obtain ⟨bx, env, hp, he, hh, p⟩ := q
    refine ⟨bx, env, hp, he, hh, Pst.bnd p fun d h1 H1 bx1 v e1 hh1 r1 p1 => ?_⟩
    have r1 : d = v := r1
    subst r1
    by_cases c : d = b
    · rw [if_pos c] at p1 ⊢
      exact ⟨bx1, env, h1, he.ext e1, hh1, p1⟩
    · rw [if_neg c] at p1 ⊢
      exact p1.ok hh1 rfl
  have imp : ∀ {σ : L2.St} {H : Hp} {Q Q' : Bool → Hp → Prop}, (∀ v H1, Q v H1 → Q' v H1) → tT (Z.wf fb) W fa σ H Q → tT (Z.wf fb) W fa σ H Q' := by
    intro σ H Q Q' f q
    obtain ⟨bx, env, hp, he, hh, p⟩ := q
    refine ⟨bx, env, hp, he, hh, ?_⟩
    cases e : fa env hp with
    | ok d h1 => rw [e] at p; exact fun H1 bx1 v e1 hh1 r1 => f _ _ (p H1 bx1 v e1 hh1 r1)
    | exc x h1 => rw [e] at p; exact p
    | bad => rw [e] at p; exact p
  cases b with
  | true =>
    refine pw_imp (pw_and (ha fb W tk) (hr fb W tk)) fun σ H Q q => imp (fun v H1 z => ?_) (key q)
    cases v with
    | true => exact iteT (by simpa using z)
    | false => exact iteF (by simpa using z)
  | false =>
    refine pw_imp (pw_or (ha fb W tk) (hr fb W tk)) fun σ H Q q => imp (fun v H1 z => ?_) (key q)
    cases v with
    | true => exact iteT (by simpa using z)
    | false => exact iteF (by simpa using z)
theorem se_blt (g : Good G Z cf k cc X) {id : String} {x : Str} {p : Pos} {e0 : Expr} {es : List Expr} {fs : Env → HP → Rs (List D)} {gg : List D → HP → Rs D} (hc : ∀ f, CallR X (.builtin id) (rL (Z.wf f) gg)) (h : SA Z X (e0 :: es) fs) (hx : glOk cc x = true)
    (hm : x ∈ bltNames) (hv : bootBuiltins x = some (.builtin id)) (hp : allPlain (e0 :: es) = true) : SE Z X (.Call (.Name x p) (e0 :: es) [] pos) (fun env hp => (fs env hp).bnd fun ds hp => gg ds hp) := by
  intro fb W tk
  obtain ⟨h1, h2, h3⟩ := glOk_of g hx
  have hp' : (plainX e0 && allPlain es) = true := hp
  rw [Bool.and_eq_true] at hp'
  exact pe_imp (pe_callB (hc fb) h1 (g.blt x hm) hv (h fb W tk) h3 h2 (plain_star hp'.1) (plain_any hp'.2)) fun σ H Q q => stL q
theorem se_blty (g : Good G Z cf k cc X) {T : String} {x : Str} {p : Pos} {e0 : Expr} {es : List Expr} {fs : Env → HP → Rs (List D)} {gg : List D → HP → Rs D} (hc : ∀ f, CallR X (.type T) (rL (Z.wf f) gg)) (h : SA Z X (e0 :: es) fs) (hx : glOk cc x = true)
    (hm : x ∈ bltNames) (hv : bootBuiltins x = some (.type T)) (hp : allPlain (e0 :: es) = true) : SE Z X (.Call (.Name x p) (e0 :: es) [] pos) (fun env hp => (fs env hp).bnd fun ds hp => gg ds hp) := by
  intro fb W tk
  obtain ⟨h1, h2, h3⟩ := glOk_of g hx
  have hp' : (plainX e0 && allPlain es) = true := hp
  rw [Bool.and_eq_true] at hp'
  exact pe_imp (pe_callTy (hc fb) h1 (g.blt x hm) hv (h fb W tk) h3 h2 (plain_star hp'.1) (plain_any hp'.2)) fun σ H Q q => stL q
def chainF (fa fb fc : Env → HP → Rs D) (g1 g2 : List D → HP → Rs D) (env : Env) (hp : HP) : Rs D := (fa env hp).bnd fun x h => (fb env h).bnd fun y h => (g1 [x, y] h).bnd fun r h => match r with
    | .bl true => (fc env h).bnd fun z h => g2 [y, z] h
    | .bl false => .ok (.bl false) h
    | _ => .bad
theorem chain_read {f : List Addr} {W : WX} {fa fb fc : Env → HP → Rs D} {g1 g2 : List D → HP → Rs D} (hb : Blean g1) {σ : L2.St} {H : Hp} {Q : VK} (q : tE (Z.wf f) W (chainF fa fb fc g1 g2) σ H Q) :
    tChain (r2 (Z.wf f) g1) (r2 (Z.wf f) g2) (tE (Z.wf f) W fa) (tE (Z.wf f) W fb) (tE (Z.wf f) W fc) σ H Q := by
  obtain ⟨bx, env, hp, he, hh, p⟩ := q
  refine ⟨bx, env, hp, he, hh, Pst.bnd p fun x h1 H1 bx1 vx e1 hh1 rx p1 => ?_⟩
  refine ⟨bx1, env, h1, he.ext e1, hh1, Pst.bnd p1 fun y h2 H2 bx2 vy e2 hh2 ry p2 => ?_⟩
  refine ⟨_, bx2, x, y, h2, Rep.ext e2 _ rx, ry, hh2, Pst.bndE p2 fun r h3 H3 bx3 vr e e3 hh3 rr p3 => ?_⟩
  obtain ⟨b, rfl⟩ := hb _ _ _ _ e
  refine ⟨b, rr, ?_⟩
  cases b with
  | true =>
    refine iteT ⟨bx3, env, h3, ((he.ext e1).ext e2).ext e3, hh3, Pst.bnd p3 fun z h4 H4 bx4 vz e4 hh4 rz p4 => ?_⟩
    exact ⟨_, bx4, y, z, h4, Rep.ext e4 _ (Rep.ext e3 _ ry), rz, hh4, p4⟩
  | false => exact iteF (p3.ok hh3 rfl)
theorem plain_last {o1 o2 : CmpOp} {b c : Expr} (h : plainX c = true) : lastMarks [o1, o2] [b, c] = false := plain_marks h
theorem se_chain {o1 o2 : CmpOp} {a b c : Expr} {fa fb fc : Env → HP → Rs D} {g1 g2 : List D → HP → Rs D} (h1 : ∀ f, OpR X (compareOp o1) (r2 (Z.wf f) g1)) (h2 : ∀ f, OpR X (compareOp o2) (r2 (Z.wf f) g2)) (hb : Blean g1)
    (ha : SE Z X a fa) (hbb : SE Z X b fb) (hc : SE Z X c fc) (hp : plainX c = true) : SE Z X (.Compare a [o1, o2] [b, c] pos) (chainF fa fb fc g1 g2) := fun f W tk =>
  pe_imp (pe_chain (h1 f) (h2 f) (ha f W tk) (hbb f W tk) (hc f W tk) (plain_last hp)) fun σ H Q q => chain_read hb q
theorem chain_bl {fa fb fc : Env → HP → Rs D} {g1 g2 : List D → HP → Rs D} (h1 : Blean g1) (h2 : Blean g2) : ∀ env hp d hp', chainF fa fb fc g1 g2 env hp = .ok d hp' → ∃ b, d = .bl b := by
  intro env hp d hp' e
  unfold chainF at e
  cases e1 : fa env hp with
  | ok x h1' =>
    rw [e1] at e
    dsimp only [bnd_ok] at e
    cases e2 : fb env h1' with
    | ok y h2' =>
      rw [e2] at e
      dsimp only [bnd_ok] at e
      cases e3 : g1 [x, y] h2' with
      | ok r h3 =>
        obtain ⟨b, rfl⟩ := h1 _ _ _ _ e3
        rw [e3] at e
        dsimp only [bnd_ok] at e
        cases b with
        | true =>
          dsimp only at e
          cases e4 : fc env h3 with
          | ok z h4 =>
            rw [e4] at e
            exact h2 _ _ _ _ e
          | exc x h2 => rw [e4] at e; cases e
          | bad => rw [e4] at e; cases e
        | false =>
          injection e with e _
          exact ⟨false, e.symm⟩
      | exc x h2 => rw [e3] at e; cases e
      | bad => rw [e3] at e; cases e
    | exc x h2 => rw [e2] at e; cases e
    | bad => rw [e2] at e; cases e
  | exc x h2 => rw [e1] at e; cases e
  | bad => rw [e1] at e; cases e
theorem st_chain {o1 o2 : CmpOp} {a b c : Expr} {fa fb fc : Env → HP → Rs D} {g1 g2 : List D → HP → Rs D} (h1 : ∀ f, OpR X (compareOp o1) (r2 (Z.wf f) g1)) (h2 : ∀ f, OpR X (compareOp o2) (r2 (Z.wf f) g2)) (hb : Blean g1) (hb2 : Blean g2)
    (ha : SE Z X a fa) (hbb : SE Z X b fb) (hc : SE Z X c fc) (hp : plainX c = true) : ST Z X (.Compare a [o1, o2] [b, c] pos) (fun env hp => (chainF fa fb fc g1 g2 env hp).bnd truth) := fun f W tk =>
  pt_imp (pt_chain (h1 f) (h2 f) (ha f W tk) (hbb f W tk) (hc f W tk) (plain_last hp)) fun σ H Q q => chain_read hb (st_bl (chain_bl hb hb2) q)
end
end Mp

end
section
set_option maxRecDepth 100000
set_option maxHeartbeats 4000000
namespace Mp
open PySem PySem.Spec PyProof.Rows L2
section
variable {Z : St0} {X : Cx} {H : Hp} {bx : List Addr} {h : HP}
theorem bools_rep : ∀ {ds : List D} {bs : List Bool} {vs : List V}, boolsOf ds = some bs → RepL Z H bx ds vs → vs = bs.map V.bl
  | [], bs, vs, e, r => by
    cases e
    exact r
  | d :: ds, bs, vs, e, r => by
    obtain ⟨v, t, rfl, r1, r2⟩ := r
    cases d <;> first | exact nomatch (show none = some bs from e) | skip
    obtain ⟨cs, e1, rfl⟩ := Option.map_eq_some_iff.mp e
    have r1 : v = _ := r1
    rw [r1, bools_rep e1 r2]
    rfl
theorem ints_repL : ∀ {ds : List D} {bs : List Int} {vs : List V}, intsOf ds = some bs → RepL Z H bx ds vs → vs = bs.map V.int
  | [], bs, vs, e, r => by
    cases e
    exact r
  | d :: ds, bs, vs, e, r => by
    obtain ⟨v, t, rfl, r1, r2⟩ := r
    cases d <;> first | exact nomatch (show none = some bs from e) | skip
    obtain ⟨cs, e1, rfl⟩ := Option.map_eq_some_iff.mp e
    have r1 : v = _ := r1
    rw [r1, ints_repL e1 r2]
    rfl
theorem strs_repL : ∀ {ds : List D} {bs : List Str} {vs : List V}, strsOf ds = some bs → RepL Z H bx ds vs → vs = bs.map V.str
  | [], bs, vs, e, r => by
    cases e
    exact r
  | d :: ds, bs, vs, e, r => by
    obtain ⟨v, t, rfl, r1, r2⟩ := r
    cases d <;> first | exact nomatch (show none = some bs from e) | skip
    obtain ⟨cs, e1, rfl⟩ := Option.map_eq_some_iff.mp e
    have r1 : v = _ := r1
    rw [r1, strs_repL e1 r2]
    rfl
/-- of one list, read -/
theorem onL_read {W : WK} {f : List D → HP → Rs D} {ds : List D} {vs : List V} {Q : VK} (hr : HeapR Z H bx h) (r : RepL Z H bx ds vs) (p : Pst Z H bx W (RepS Z) (onL f ds h) Q) : ∃ a us xs, vs = [.ref a] ∧ SqL Z.K H a us ∧ us.length ≤ sizeLine ∧ RepL Z H bx xs us ∧ Pst Z H bx W (RepS Z) (f xs h) Q := by
  unfold onL at p
  split at p
  · rename_i d
    obtain ⟨v, rfl, r1⟩ := rep1 r
    split at p
    · rename_i xs g
      obtain ⟨a, us, rfl, sq, hz, rr⟩ := deref_lst hr r1 g
      exact ⟨a, us, xs, rfl, sq, hz, rr, p⟩
    · exact False.elim p
  · exact False.elim p
theorem seq_len {d : D} {v : V} {ys : List D} (hr : HeapR Z H bx h) (r : Rep Z H bx d v) (e : seqOf h d = some ys) : ys.length ≤ sizeLine := by
  cases d with
  | tup xs =>
    obtain ⟨a, vs, rfl, f, rr⟩ := r
    cases (show some xs = some ys from e)
    rw [← rr.length]
    exact f.1
  | lst xs =>
    obtain ⟨a, vs, rfl, f, rr⟩ := r
    cases (show some xs = some ys from e)
    rw [← rr.length]
    exact f.1
  | box n =>
    obtain ⟨a, rfl, q⟩ := r
    have e : (match h[n]? with
      | some (.lst xs) => some xs
      | _ => none) = some ys := e
    split at e
    · rename_i xs g
      cases e
      obtain ⟨vs, e2, hz, rr⟩ := hr.at_ n a _ q g
      rw [← rr.length]
      exact hz
    · cases e
  | _ => cases (show none = some ys from e)
theorem onQ_read {W : WK} {f : List D → HP → Rs D} {ds : List D} {vs : List V} {Q : VK} (hr : HeapR Z H bx h) (r : RepL Z H bx ds vs) (p : Pst Z H bx W (RepS Z) (onQ f ds h) Q) : ∃ a us xs, vs = [.ref a] ∧ (SqL Z.K H a us ∨ SqT Z.K H a us) ∧ us.length ≤ sizeLine ∧ RepL Z H bx xs us ∧ Pst Z H bx W (RepS Z) (f xs h) Q := by
  unfold onQ at p
  split at p
  · rename_i d
    obtain ⟨v, rfl, r1⟩ := rep1 r
    split at p
    · rename_i xs g
      obtain ⟨a, us, rfl, sq, rr⟩ := seqOf_rep hr r1 g
      exact ⟨a, us, xs, rfl, sq, by rw [rr.length]; exact seq_len hr r1 g, rr, p⟩
    · exact False.elim p
  · exact False.elim p
theorem cr_allD (hK : X.K = Z.K) (hc : X.calm = true) : CallR X (.builtin "all") (rL Z (evOp .all)) := callR_imp (cr_all hc) fun vs H Q q => by
  obtain ⟨W, bx, ds, h, r, hr, p⟩ := q
  obtain ⟨a, us, xs, rfl, sq, hz, rr, p⟩ := onL_read hr r p
  unfold evAll at p
  split at p
  · rename_i bs e
    rw [bools_rep e rr] at sq
    exact ⟨a, bs, rfl, by rw [hK]; exact sq, p.ok hr rfl⟩
  · exact False.elim p
theorem cr_anyD (hK : X.K = Z.K) (hc : X.calm = true) : CallR X (.builtin "any") (rL Z (evOp .any)) := callR_imp (cr_any hc) fun vs H Q q => by
  obtain ⟨W, bx, ds, h, r, hr, p⟩ := q
  obtain ⟨a, us, xs, rfl, sq, hz, rr, p⟩ := onL_read hr r p
  unfold evAny at p
  split at p
  · rename_i bs e
    rw [bools_rep e rr] at sq
    exact ⟨a, bs, rfl, by rw [hK]; exact sq, p.ok hr rfl⟩
  · exact False.elim p
theorem cr_sumD (hK : X.K = Z.K) (hc : X.calm = true) : CallR X (.builtin "sum") (rL Z (evOp .sum)) := callR_imp (cr_sum hc) fun vs H Q q => by
  obtain ⟨W, bx, ds, h, r, hr, p⟩ := q
  obtain ⟨a, us, xs, rfl, sq, hz, rr, p⟩ := onL_read hr r p
  unfold evSum at p
  split at p
  · rename_i ns e
    rw [ints_repL e rr] at sq
    exact ⟨a, ns, rfl, by rw [hK]; exact sq, p.ok hr rfl⟩
  · exact False.elim p
theorem cr_tupof (hK : X.K = Z.K) : CallR X (.type "tuple") (rL Z (evOp .tupof)) := callR_imp call_tupF fun vs H Q q => by
  obtain ⟨W, bx, ds, h, r, hr, p⟩ := q
  replace p : Pst Z H bx W (RepS Z) (evTupof ds h) Q := p
  unfold evTupof at p
  split at p
  · rename_i d
    obtain ⟨v, rfl, r1⟩ := rep1 r
    split at p
    · rename_i xs g
      obtain ⟨a, us, rfl, sq, hz, rr⟩ := deref_lst hr r1 g
      exact ⟨a, us, rfl, .inl ⟨by rw [hK]; exact sq, fun l o n to => p _ _ _ (ext_new hr _ n) (heap_new hr _ n) (rep_tup hr n to rr hz)⟩⟩
    · rename_i xs g
      have e := deref_tup g
      subst e
      obtain ⟨a, us, rfl, f, rr⟩ := r1
      exact ⟨a, us, rfl, .inr ⟨by rw [hK]; exact f.sq, p.ok hr ⟨a, us, rfl, f, rr⟩⟩⟩
    · exact False.elim p
  · exact False.elim p
theorem cr_lstof (hK : X.K = Z.K) (b : Bool) : CallR X (.type "list") (rL Z (evOp (.lstof b))) := callR_imp call_list_of fun vs H Q q => by
  obtain ⟨W, bx, ds, h, r, hr, p⟩ := q
  replace p : Pst Z H bx W (RepS Z) (evLstof b ds h) Q := p
  unfold evLstof at p
  split at p
  · rename_i d
    obtain ⟨v, rfl, r1⟩ := rep1 r
    split at p
    · rename_i xs g
      have hl := seq_len hr r1 g
      obtain ⟨a, us, rfl, sq, rr⟩ := seqOf_rep hr r1 g
      refine ⟨a, us, rfl, by rw [hK]; exact sq, fun l n => new_lst hr rr (by rw [rr.length]; exact hl) p n⟩
    · exact False.elim p
  · exact False.elim p
theorem cr_repr (hK : X.K = Z.K) (hg : X.A.guards = some []) (hu : X.A.units + 65 < cLine) : CallR X (.builtin "repr") (rL Z (evOp .repr)) := by
  intro pins s σ H xs us Q I rs q
  obtain ⟨W, bx, ds, h, r, hr, p⟩ := q
  replace p : Pst Z H bx W (RepS Z) (evRepr ds h) Q := p
  unfold evRepr at p
  split at p
  · rename_i d
    obtain ⟨v, rfl, r1⟩ := rep1 r
    obtain ⟨c, p⟩ := pst_ite p
    rw [Bool.and_eq_true, Bool.and_eq_true, decide_eq_true_eq] at c
    obtain ⟨⟨c1, c2⟩, c3⟩ := c
    obtain ⟨u, rfl, ru⟩ := vals1 rs
    have dp : Dp X.K H v (deref h d).py := by rw [hK]; exact deref_dp hr r1 (ok_data c1)
    have fin : Q (.str (deref h d).py.shown) H := p.ok hr rfl
    rw [line_eq] at c3
    have hd : (deref h d).py.depth ≤ 60 := by rw [py_depth]; exact ok_dep c1
    obtain ⟨as, rd⟩ := Dp.reads I _ v u dp ru
    have nd : (deref h d).py.hasDict = false := PyData.hasDict_of_canLay _ (py_lay _ (ok_data c1))
    generalize (deref h d).py = e at *
    have rd0 := rd
    have big : ∀ a, u = .ref a → wpAny (model X.prog X.w) X.A (call (.builtin "repr") [u]) (EP X pins σ Q) X.xe s := fun a eu => by
      subst eu
      exact repr_of_reads' rd0 c2 (fun z => by rw [nd] at z; cases z) hg (by omega) (fun _ _ z => z) (fun h' k tk hk => ⟨.str _, H, I.kept hk, ⟨k, rfl⟩, fin⟩) c3
    cases rd with
    | none => exact PySem.P.repr_of_none ⟨.str _, H, I.tok _, ⟨_, rfl⟩, fin⟩
    | bool b => exact PySem.P.repr_of_bool ⟨.str _, H, I.tok _, ⟨_, rfl⟩, fin⟩
    | int i t => exact PySem.P.repr_of_int (by simpa [PyData.showable] using c2) ⟨.str _, H, I.tok _, ⟨_, rfl⟩, fin⟩
    | str y t => exact PySem.P.repr_of_str ⟨.str _, H, I.tok _, ⟨_, rfl⟩, fin⟩ c3
    | list h1 h2 h3 h4 => exact big _ rfl
    | tuple h1 h2 h3 h4 => exact big _ rfl
    | dict => exact big _ rfl
  · exact False.elim p
end
end Mp

end
section
set_option maxRecDepth 100000
set_option maxHeartbeats 4000000
namespace Mp
open PySem PySem.Spec PyProof.Rows L2
section
variable {Z : St0} {X : Cx} {H : Hp} {bx : List Addr} {h : HP}
structure MF (T : String) (name : Str) (id : String) : Prop where
  pa : PlainAttrs T
  slot : Slot T name id
  ty : typeOf (.builtin id) = pure (.type "method_descriptor")
/-- the receiver's type, and that it has no dict of its own -/
def tyF (K : PySem.W.Frag) (T : String) (x : V) (H : Hp) : Prop := tyV K T x H ∨ (T = "tuple" ∧ ∃ a, x = .ref a ∧ ((∃ o vs, H a = some (.frz o (.tup vs)) ∧ TpO o) ∨ ∃ o, K.lookup a = some o ∧ TpO o))
theorem tyF_is {pins : List (Addr × Obj)} {σ : L2.St} {s : Shared} {T : String} {x : V} {v : Value} (J : Inv X pins σ H s) (r : RelV x v) (t : tyF X.K T x H) : s.TypeIs v T ∧ ∀ a, v = .ref a → ∃ ob, s.heap.get? a = some ob ∧ ob.dict = none := by
  rcases t with t | ⟨rfl, a, rfl, ⟨o, vs, e, to⟩ | ⟨o, e, to⟩⟩
  · exact tyV_is J r t
  · cases r
    have g := (J.hok a _ e).1
    exact ⟨⟨o, g, to.cls⟩, fun b z => by cases z; exact ⟨o, g, to.dict⟩⟩
  · cases r
    have g := J.kIn a o e
    exact ⟨⟨o, g, to.cls⟩, fun b z => by cases z; exact ⟨o, g, to.dict⟩⟩
theorem pe_mtX {o e : Expr} {es : List Expr} {to : TE} {t : TA} {name : Str} {apos cpos : Pos} {rr : String → String → V → List V → Hp → VK → Prop} (hm : ∀ T id, MF T name id → MtR X id (rr T id)) (ho : PE X o to) (ha : PA X (e :: es) t)
    (hbase : attributeBase o name X.env (eval o X.env) = eval o X.env) (hline : (apos.endLine == cpos.line) = true) (hp : allPlain (e :: es) = true) (hn : (e :: es).length < 30) :
    PE X (.Call (.Attribute o name apos) (e :: es) [] cpos) (fun σ H Q => to σ H fun x H1 => ∃ T id, MF T name id ∧ tyF X.K T x H1 ∧ t σ H1 fun xs H2 => rr T id x xs H2 Q) := ⟨fun pins s σ H Q J q => by
  have all0 : (backTo cpos (starEach (e :: es) X.env)).all (fun x => !x.1) = true := by
    have := plain_any (env := X.env) (pos := cpos) hp
    rw [List.all_eq_not_any_not]
    simp only [Bool.not_not, this, Bool.not_false]
  refine wpAny_Call_method_late hbase (by rw [all0]; simpa [backToKw, keywordEach] using hn) hline rfl (thn (ho.run pins s σ H _ J q) fun v s1 ⟨x, H1, J1, r1, T, id, mf, ty, q1⟩ => ?_)
  obtain ⟨h1, h2⟩ := tyF_is J1 r1 ty
  refine ⟨T, id, mf.pa, mf.slot, mf.ty, h1, h2, ?_⟩
  have hA := ha.run cpos pins s1 σ H1 _ J1 q1
  have hp' : (plainX e && allPlain es) = true := hp
  rw [Bool.and_eq_true] at hp'
  rw [plain_star hp'.1] at hA ⊢
  refine Calls.callWith_builtin (by show (false || (backTo cpos (starEach es X.env)).any (·.1)) = false; rw [plain_any hp'.2]; rfl) (Calls.evalArgs_plain ?_)
  exact thn hA fun us s2 ⟨vs, H2, J2, r2, q2⟩ => hm T id mf pins s2 σ H2 x vs v us Q J2 r1 r2 q2⟩
theorem pe_mt0X {o : Expr} {to : TE} {name : Str} {apos cpos : Pos} {rr : String → String → V → List V → Hp → VK → Prop} (hm : ∀ T id, MF T name id → MtR X id (rr T id)) (ho : PE X o to) (hbase : attributeBase o name X.env (eval o X.env) = eval o X.env) (hline : (apos.endLine == cpos.line) = true) :
    PE X (.Call (.Attribute o name apos) [] [] cpos) (fun σ H Q => to σ H fun x H1 => ∃ T id, MF T name id ∧ tyF X.K T x H1 ∧ rr T id x [] H1 Q) := ⟨fun pins s σ H Q J q => by
  refine wpAny_Call_method0_late hbase hline (thn (ho.run pins s σ H _ J q) fun v s1 ⟨x, H1, J1, r1, T, id, mf, ty, q1⟩ => ?_)
  obtain ⟨h1, h2⟩ := tyF_is J1 r1 ty
  exact ⟨T, id, mf.pa, mf.slot, mf.ty, h1, h2, Calls.callWith_builtin rfl (PySem.evalArgs_none (hm T id mf pins s1 σ H1 x [] v [] Q J1 r1 .nil q1))⟩⟩
/-- by values: the receiver of type T -/
def tyD (T : String) : D → Bool
  | .str _ => T == "str"
  | .tup _ => T == "tuple"
  | .lst _ => T == "list"
  | .box _ => T == "list" || T == "dict"
  | _ => false
def rM (Z : St0) (g : List D → HP → Rs D) (T : String) : V → List V → Hp → VK → Prop := fun x xs H Q => ∃ (W : WK) (bx : List Addr) (d : D) (ds : List D) (h : HP), RepS Z H bx d x ∧ RepLS Z H bx ds xs ∧ HeapS Z H bx h ∧ tyD T d = true ∧ PstS Z H bx W (RepS Z) (g (d :: ds) h) Q
theorem onB_read {W : WK} {f : Nat → List D → List D → HP → Rs D} {d : D} {ds : List D} {x : V} {Q : VK} (hr : HeapR Z H bx h) (r : Rep Z H bx d x) (p : Pst Z H bx W (RepS Z) (onB f (d :: ds) h) Q) : ∃ n a xs us, d = .box n ∧ x = .ref a ∧ bx[n]? = some a ∧ h[n]? = some (.lst xs) ∧ H a = some (.lst us) ∧ us.length ≤ sizeLine ∧ RepL Z H bx xs us ∧ Pst Z H bx W (RepS Z) (f n xs ds h) Q := by
  unfold onB at p
  split at p
  · rename_i n r' he
    injection he with e1 e2
    subst e1 e2
    obtain ⟨a, rfl, q⟩ := r
    split at p
    · rename_i xs g
      obtain ⟨us, e, hz, rr⟩ := hr.at_ n a _ q g
      exact ⟨n, a, xs, us, rfl, rfl, q, g, e, hz, rr, p⟩
    · exact False.elim p
  · exact False.elim p
theorem set_rep {W : WK} {n : Nat} {a : Addr} {xs : List D} {us : List V} {d : D} {v : V} {Q : VK} (hr : HeapR Z H bx h) (q : bx[n]? = some a) (hl : us.length ≤ sizeLine) (r : RepL Z H bx xs us) (rd : Rep Z H bx d v) (p : Pst Z H bx W (RepS Z) (.ok d (h.set n (.lst xs))) Q) : Q v (upd H a (.lst us)) :=
  p _ _ _ (ext_set hr _ q) (heap_set hr _ _ q ⟨us, rfl, hl, r⟩) (Rep.ext (ext_set hr _ q) _ rd)
theorem mt_appendD : MtR X "list.append" (rM Z (evOp .append) "list") := fun pins s σ H x xs v us Q J rx rs q => by
  obtain ⟨W, bx, d, ds, h, rd, rds, hr, _, p0⟩ := q
  obtain ⟨n, a, ys, ws, rfl, rfl, q, g, e, hz, rr, p⟩ := onB_read hr rd p0
  clear p0
  unfold evAppend at p
  split at p
  · rename_i d
    obtain ⟨c, p⟩ := pst_ite p
    obtain ⟨y, rfl, r1⟩ := rep1 rds
    have l := rr.length
    rw [line_eq] at c
    exact mt_append pins s σ H _ _ v us Q J rx rs ⟨a, ws, y, rfl, rfl, e, by omega, set_rep (d := .non) hr q (by simp; omega) (rr.append (.cons r1 .nil)) rfl p⟩
  · exact False.elim p
theorem mt_extendD : MtR X "list.extend" (rM Z (evOp .extend) "list") := fun pins s σ H x xs v us Q J rx rs q => by
  obtain ⟨W, bx, d, ds, h, rd, rds, hr, _, p0⟩ := q
  obtain ⟨n, a, ys, ws, rfl, rfl, q, g, e, hz, rr, p⟩ := onB_read hr rd p0
  clear p0
  unfold evExtend at p
  split at p
  · rename_i m
    obtain ⟨y, rfl, r1⟩ := rep1 rds
    obtain ⟨b, rfl, q2⟩ := r1
    split at p
    · rename_i zs g2
      obtain ⟨c, p⟩ := pst_ite p
      obtain ⟨us2, e2, hz2, rr2⟩ := hr.at_ m b _ q2 g2
      have l := rr.length
      have l2 := rr2.length
      rw [line_eq] at c
      exact mt_extend pins s σ H _ _ v us Q J rx rs ⟨a, b, ws, us2, rfl, rfl, e, e2, by omega, set_rep (d := .non) hr q (by rw [List.length_append]; omega) (rr.append rr2) rfl p⟩
    · exact False.elim p
  · exact False.elim p
theorem RepL.eraseIdx : ∀ {ds : List D} {vs : List V} (k : Nat), RepL Z H bx ds vs → RepL Z H bx (ds.eraseIdx k) (vs.eraseIdx k)
  | [], _, _, h => by
    have h : _ = _ := h
    subst h
    exact rfl
  | x :: xs, _, 0, h => by
    obtain ⟨v, r, rfl, h1, h2⟩ := h
    exact h2
  | x :: xs, _, k + 1, h => by
    obtain ⟨v, r, rfl, h1, h2⟩ := h
    exact ⟨v, r.eraseIdx k, rfl, h1, RepL.eraseIdx k h2⟩
theorem RepL.dropLast {ds : List D} {vs : List V} (r : RepL Z H bx ds vs) : RepL Z H bx ds.dropLast vs.dropLast := by
  rw [List.dropLast_eq_take, List.dropLast_eq_take, r.length]
  exact r.take _
theorem mt_popAtD : MtR X "list.pop" (rM Z (evOp .popAt) "list") := fun pins s σ H x xs v us Q J rx rs q => by
  obtain ⟨W, bx, d, ds, h, rd, rds, hr, _, p0⟩ := q
  obtain ⟨n, a, ys, ws, rfl, rfl, q, g, e, hz, rr, p⟩ := onB_read hr rd p0
  clear p0
  unfold evPopAt at p
  split at p
  · rename_i i
    obtain ⟨y, rfl, r1⟩ := rep1 rds
    cases r1
    split at p
    · rename_i k ek
      split at p
      · rename_i d ed
        obtain ⟨z1, z2, z3, z4⟩ := ixN_seq ek
        obtain ⟨w, hw, rw'⟩ := rr.get ed
        have l := rr.length
        have hn := line63
        exact mt_popAt pins s σ H _ _ v us Q J rx rs ⟨a, ws, i, k, w, rfl, rfl, e, by omega, by omega, by rw [l]; exact z1, hw, set_rep hr q (by rw [List.length_eraseIdx]; split <;> omega) (rr.eraseIdx k) rw' p⟩
      · exact False.elim p
    · exact False.elim p
  · exact False.elim p
theorem mt_popD : MtR X "list.pop" (rM Z (evOp .pop) "list") := fun pins s σ H x xs v us Q J rx rs q => by
  obtain ⟨W, bx, d, ds, h, rd, rds, hr, _, p0⟩ := q
  obtain ⟨n, a, ys, ws, rfl, rfl, q, g, e, hz, rr, p⟩ := onB_read hr rd p0
  clear p0
  unfold evPop at p
  split at p
  · split at p
    · rename_i d ed
      have rds : xs = _ := rds
      subst rds
      have l := rr.length
      obtain ⟨w, hw, rw'⟩ := rr.get ed
      exact mt_pop pins s σ H _ _ v us Q J rx rs ⟨a, ws, w, rfl, rfl, e, by rw [l]; exact hw, set_rep hr q (by rw [List.length_dropLast]; omega) rr.dropLast rw' p⟩
    · exact False.elim p
  · exact False.elim p
theorem mt_joinD (hK : X.K = Z.K) : MtR X "str.join" (rM Z (evOp .join) "str") := fun pins s σ H x xs v us Q J rx rs q => by
  obtain ⟨W, bx, d, ds, h, rd, rds, hr, _, p⟩ := q
  replace p : Pst Z H bx W (RepS Z) (evJoin (d :: ds) h) Q := p
  unfold evJoin at p
  split at p
  · rename_i a d2 he
    injection he with e1 e2
    subst e1 e2
    have rd : x = _ := rd
    subst rd
    obtain ⟨y, rfl, r1⟩ := rep1 rds
    split at p
    · rename_i zs g
      split at p
      · rename_i ys g2
        obtain ⟨c, p⟩ := pst_ite p
        obtain ⟨b, ws, rfl, sq, rr⟩ := seqOf_rep hr r1 g
        rw [strs_repL g2 rr] at sq
        exact mt_join pins s σ H _ _ v us Q J rx rs ⟨a, b, ys, rfl, rfl, by rw [hK]; exact sq, c, p.ok hr rfl⟩
      · exact False.elim p
    · exact False.elim p
  · exact False.elim p
theorem mt_upperD : MtR X "str.upper" (rM Z (evOp .upper) "str") := fun pins s σ H x xs v us Q J rx rs q => by
  obtain ⟨W, bx, d, ds, h, rd, rds, hr, _, p⟩ := q
  replace p : Pst Z H bx W (RepS Z) (evUpper (d :: ds) h) Q := p
  unfold evUpper at p
  split at p
  · rename_i a he
    injection he with e1 e2
    subst e1 e2
    have rd : x = _ := rd
    subst rd
    have rds : xs = _ := rds
    subst rds
    obtain ⟨c, p⟩ := pst_ite p
    exact mt_upper pins s σ H _ _ v us Q J rx rs ⟨a, rfl, rfl, c, p.ok hr rfl⟩
  · exact False.elim p
theorem findEq_spec {x : D} (hx : x.data = true) : ∀ {ys : List D} {j : Nat}, dataL ys = true → findEq x ys = some j → ∃ z, (pyL ys)[j]? = some z ∧ PyData.eqv z x.py = true ∧ ∀ (m : Nat) (z' : PyData), m < j → (pyL ys)[m]? = some z' → PyData.eqv z' x.py = false
  | [], j, _, h => by cases h
  | y :: ys, j, hd, h => by
    have hd : (D.data y && dataL ys) = true := hd
    rw [Bool.and_eq_true] at hd
    unfold findEq at h
    by_cases c : y.eqv x = true
    · rw [if_pos c] at h
      cases h
      exact ⟨y.py, rfl, by rw [py_eqv y x hd.1 hx]; exact c, fun m z' hm _ => absurd hm (Nat.not_lt_zero m)⟩
    · rw [if_neg c] at h
      obtain ⟨i, e, rfl⟩ := Option.map_eq_some_iff.mp h
      obtain ⟨z, h1, h2, h3⟩ := findEq_spec hx hd.2 e
      refine ⟨z, h1, h2, fun m z' hm hz => ?_⟩
      cases m with
      | zero =>
        cases (show some y.py = some z' from hz)
        rw [py_eqv y x hd.1 hx]
        exact Bool.not_eq_true _ ▸ c
      | succ m => exact h3 m z' (by omega) hz
theorem mt_indexL (hK : X.K = Z.K) (hu : X.A.units + 65 < cLine) : MtR X "list.index" (rM Z (evOp .index) "list") := fun pins s σ H x xs v us Q J rx rs q => by
  obtain ⟨W, bx, d, ds, h, rd, rds, hr, ty, p⟩ := q
  replace p : Pst Z H bx W (RepS Z) (evIndex (d :: ds) h) Q := p
  unfold evIndex at p
  split at p
  · rename_i s2 x2 he
    injection he with e1 e2
    subst e1 e2
    obtain ⟨y, rfl, r1⟩ := rep1 rds
    split at p
    · rename_i ys g
      obtain ⟨c, p⟩ := pst_ite p
      rw [Bool.and_eq_true] at c
      split at p
      · rename_i j ej
        have hd : dataL ys = true := ok_data c.2
        obtain ⟨z, h1, h2, h3⟩ := findEq_spec (ok_data c.1) hd ej
        have dl : ∃ a, x = .ref a ∧ Dp Z.K H x (.list (pyL ys)) := by
          cases d with
          | lst zs =>
            cases (show some zs = some ys from g)
            obtain ⟨a, ws, rfl, f, rr⟩ := rd
            exact ⟨a, rfl, .lst f.sq (rep_dpL _ hd rr)⟩
          | box n =>
            obtain ⟨a, rfl, q⟩ := rd
            have g : (match h[n]? with
              | some (.lst xs) => some xs
              | _ => none) = some ys := g
            split at g
            · rename_i zs gz
              cases g
              obtain ⟨ws, e2, hz, rr⟩ := hr.at_ n a _ q gz
              exact ⟨a, rfl, .lst (SqL.of e2) (rep_dpL _ hd rr)⟩
            · cases g
          | tup zs => exact Bool.noConfusion (show ("list" == "tuple") = true from ty)
          | _ => cases (show none = some ys from g)
        obtain ⟨a, rfl, dl⟩ := dl
        exact mt_indexD hu pins s σ H _ _ v us Q J rx rs ⟨a, y, x2.py, pyL ys, j, z, rfl, rfl, by rw [hK]; exact dl, by rw [hK]; exact rep_dp _ (ok_data c.1) r1, py_shaped (d := .lst ys) c.2, py_shaped c.1, h1, h2, h3, p.ok hr rfl⟩
      · exact False.elim p
    · exact False.elim p
  · exact False.elim p
theorem mt_indexT (hK : X.K = Z.K) (hu : X.A.units + 65 < cLine) : MtR X "tuple.index" (rM Z (evOp .index) "tuple") := fun pins s σ H x xs v us Q J rx rs q => by
  obtain ⟨W, bx, d, ds, h, rd, rds, hr, ty, p⟩ := q
  replace p : Pst Z H bx W (RepS Z) (evIndex (d :: ds) h) Q := p
  unfold evIndex at p
  split at p
  · rename_i s2 x2 he
    injection he with e1 e2
    subst e1 e2
    obtain ⟨y, rfl, r1⟩ := rep1 rds
    split at p
    · rename_i ys g
      obtain ⟨c, p⟩ := pst_ite p
      rw [Bool.and_eq_true] at c
      split at p
      · rename_i j ej
        have hd : dataL ys = true := ok_data c.2
        obtain ⟨z, h1, h2, h3⟩ := findEq_spec (ok_data c.1) hd ej
        cases d with
        | tup zs =>
          cases (show some zs = some ys from g)
          obtain ⟨a, ws, rfl, f, rr⟩ := rd
          cases rx
          obtain ⟨uy, rfl, ry⟩ := vals1 rs
          obtain ⟨its, rv, pl, hz⟩ := J.tuple (by rw [hK]; exact f.sq)
          obtain ⟨⟨cls, dd, dt, sls⟩, ho, hc, n, hdt⟩ := pl
          simp only at hc hdt
          subst hc hdt
          obtain ⟨as, ra⟩ := Dp.readsAll J (pyL ys) ws its (by rw [hK]; exact rep_dpL _ hd rr) rv
          obtain ⟨bs, rb⟩ := Dp.reads J x2.py y uy (by rw [hK]; exact rep_dp _ (ok_data c.1) r1) ry
          have lay := pyL_lay ys hd
          have room : X.A.units + 1 + min (PyData.depthAll (pyL ys)) x2.py.depth < cLine := by
            have := ok_dep c.1
            rw [← py_depth] at this
            omega
          have map := SeqAt.readsAll_map (pyL ys) its as lay ra
          have ln := SeqAt.ReadsAll.length (pyL ys) its as ra
          have at_ : ∀ (m : Nat) (hm : m < its.toArray.size), (pyL ys)[m]? = some (SeqAt.readOf s.heap its.toArray[m]) := fun m hm => by
            have hm : m < its.length := by simpa using hm
            rw [← map, List.getElem?_map, List.getElem?_eq_getElem hm]
            simp
          have hj : j < its.toArray.size := by
            have := (List.getElem?_eq_some_iff.mp h1).1
            rw [List.size_toArray]
            omega
          refine call_meets PySem.F.slot_tuple_index ⟨_, ho, rfl⟩ PySem.F.entry_tuple_index (PySem.F.args_tuple_index_2 _ _) (_root_.TI.tuple_indexAt a its.toArray n dd sls uy (fun u => PyData.eqv (SeqAt.readOf s.heap u) x2.py) j hj ?_ ?_)
            ⟨ho, SeqAt.items_eqAt (vs := its.toArray) (show ReadsAll s.heap its.toArray.toList (pyL ys) as from ra) rb lay (py_lay _ (ok_data c.1)) room, ⟨.int (j : Nat), H, J.tok _, ⟨_, rfl⟩, p.ok hr rfl⟩⟩
          · have e := at_ j hj
            rw [h1] at e
            cases e
            exact h2
          · intro m hm hmj
            exact h3 m _ hmj (at_ m hm)
        | _ => exact Bool.noConfusion (show false = true from ty)
      · exact False.elim p
    · exact False.elim p
  · exact False.elim p
end
end Mp

end
section
set_option maxRecDepth 100000
set_option maxHeartbeats 4000000
namespace Mp
open PySem PySem.Spec PyProof.Rows L2

/-- a kind of keys that can be read back -/
structure KO {P : Program} {w : World} {K : Type} [DecidableEq K] (kd : PySem.KeyKind P w K) where
  ko : Value → K
  eq : ∀ k v, kd.is k v = true → ko v = k
  sc : ∀ k v, kd.is k v = true → v.scannable = true
abbrev nso (w : World) : Obj := { cls := .type "set", dict := none, data := .set #[] 0 (.fresh 0 0 (!w.params.followText "set-order")) }
section
variable {K : Type} [DecidableEq K]
theorem addU_nodup {ks : List K} (k : K) (n : ks.Nodup) : (addU ks k).Nodup := by
  unfold addU
  split
  · exact n
  · rename_i h
    refine List.nodup_append.mpr ⟨n, by simp, fun a ha b hb e => ?_⟩
    rw [List.mem_singleton.mp hb] at e
    exact h (e ▸ ha)
theorem addU_len (ks : List K) (k : K) : (addU ks k).length ≤ ks.length + 1 := by
  unfold addU
  split
  · omega
  · simp
theorem uniqs_snoc (ks : List K) (k : K) : uniqs (ks ++ [k]) = addU (uniqs ks) k := by
  unfold uniqs
  rw [List.foldl_append] <;> rfl
theorem uniqs_take {ks : List K} {i : Nat} {k : K} (h : ks[i]? = some k) : uniqs (ks.take (i + 1)) = addU (uniqs (ks.take i)) k := by
  rw [List.take_add_one, h]
  exact uniqs_snoc _ _
theorem fold_len : ∀ (ks acc : List K), (ks.foldl addU acc).length ≤ acc.length + ks.length
  | [], acc => Nat.le_refl _
  | k :: ks, acc => by
    have a := addU_len acc k
    have b := fold_len ks (addU acc k)
    rw [List.foldl_cons, List.length_cons]
    omega
theorem uniqs_len (ks : List K) : (uniqs ks).length ≤ ks.length := by
  have := fold_len ks []
  unfold uniqs
  simpa using this
end

section
variable {P : Program} {w : World} {K : Type} [DecidableEq K] {kd : PySem.KeyKind P w K}
def EnG (kd : PySem.KeyKind P w K) (e : Int × Value) : Prop := ∃ k, kd.is k e.2 = true ∧ e.1 = kd.hash k
/-- the set at a: its members are ks -/
def SetQ (O : KO kd) (h : Heap) (a : Addr) (ks : List K) : Prop :=
  ∃ ob es ep t, h.get? a = some ob ∧ ob.ExactSet ∧ ob.data = .set es ep t ∧ (∀ e ∈ es.toList, EnG kd e) ∧ (es.toList.map fun e => O.ko e.2).Perm ks ∧ ks.Nodup ∧
    es.size < scanBound ∧ t.fits es.size = true ∧ Ris t.place.toList ∧ (w.params.followText "set-order" = true ∨ t.led = true)
variable {O : KO kd} {h h' : Heap} {a : Addr} {ks : List K}
theorem SetQ.at (R : SetQ O h a ks) (k : ∀ o, h.get? a = some o → h'.get? a = some o) : SetQ O h' a ks := by
  obtain ⟨ob, es, ep, t, ho, r⟩ := R
  exact ⟨ob, es, ep, t, k ob ho, r⟩
theorem EnG.elems {l : List (Int × Value)} (g : ∀ e ∈ l, EnG kd e) (O : KO kd) : ElemsOf kd l := fun e he => by
  obtain ⟨k, a1, a2⟩ := g e he
  exact ⟨⟨k, a1, a2⟩, O.sc k _ a1⟩
theorem EnG.is {e : Int × Value} (g : EnG kd e) (O : KO kd) (k : K) : kd.is k e.2 = true ↔ O.ko e.2 = k := by
  obtain ⟨k0, a1, a2⟩ := g
  rw [O.eq k0 _ a1]
  exact ⟨fun z => kd.inj _ _ _ a1 z, fun z => z ▸ a1⟩
end

section
variable {P : Program} {w : World} {K : Type} [DecidableEq K] {kd : PySem.KeyKind P w K} {O : KO kd} {A : Around} {E : Value → Shared → Prop} {s : Shared} {a : Addr} {ks : List K}
theorem setQ_tail {g : Bool → Sem Unit} (hg : ∀ (b : Bool) (s₁ : Shared) (Q' : Unit → Shared → Prop), Q' () s₁ → wpAny (model P w) A (g b) Q' E s₁)
    {ob : Obj} {es : Array (Int × Value)} {ep : Nat} {t : SetTable} (ho : s.heap.get? a = some ob) (hex : ob.ExactSet) (hd : ob.data = .set es ep t)
    {es1 : Array (Int × Value)} {t2 : SetTable} {ks' : List K} (g1 : ∀ e ∈ es1.toList, EnG kd e) (pk : (es1.toList.map fun e => O.ko e.2).Perm ks') (nd : ks'.Nodup)
    (hb1 : es1.size < scanBound) (hf2 : t2.fits es1.size = true) (hr : Ris t2.place.toList) (hl : w.params.followText "set-order" = true ∨ t2.led = true) {wasDummy : Bool} {R : Option Bool → Shared → Prop}
    (hR : ∀ h', Heap.SameBut a s.heap h' → SetQ O h' a ks' → R (some true) { s with heap := h' }) :
    wpAny (model P w) A (do
        storeSet a es1 t2
        if (!wasDummy && t2.tooFull) = true then do
            g (relayAll t2 es1 (SetTable.grown es1.size)).2.2
            storeSet a (relayAll t2 es1 (SetTable.grown es1.size)).1 (relayAll t2 es1 (SetTable.grown es1.size)).2.1
            pure (some true)
          else pure (some true)) R E s := by
  refine wpAny_bind (wpAny_storeSet_of ho hd ?_ (fits_of_scanBound hb1))
  have q1 := store_at (es' := es1) (t' := t2) ho hd
  have b1 := Heap.SameBut.update s.heap a (Obj.putSet es1 t2)
  split
  · have pm := relayAll_perm t2 es1 (SetTable.grown es1.size)
    have f3 := relayAll_fits t2 es1 (SetTable.grown es1.size)
    have r3 := relayAll_ris t2 es1 (SetTable.grown es1.size)
    have l3 := relayAll_led t2 es1 (SetTable.grown es1.size)
    generalize relayAll t2 es1 (SetTable.grown es1.size) = Z at pm f3 r3 l3 ⊢
    obtain ⟨es2, t3, gave⟩ := Z
    dsimp only at pm f3 r3 l3 ⊢
    have z2 : es2.size < scanBound := by
      have := pm.length_eq
      rw [Array.length_toList, Array.length_toList] at this
      omega
    refine wpAny_bind (hg _ _ _ (wpAny_bind (wpAny_storeSet_of q1 rfl ?_ (fits_of_scanBound z2))))
    have q2 := store_at (es' := es2) (t' := t3) q1 rfl
    refine wpAny_pure (hR _ (b1.trans (Heap.SameBut.update _ a _)) ?_)
    exact ⟨_, es2, _, t3, q2, hex, rfl, fun e he => g1 e (pm.mem_iff.mp he), (pm.map _).trans pk, nd, z2, f3, r3, hl.imp id fun z => by rw [l3]; exact z⟩
  · exact wpAny_pure (hR _ b1 ⟨_, es1, _, t2, q1, hex, rfl, g1, pk, nd, hb1, hf2, hr, hl⟩)

theorem setQ_add {k : K} {v : Value} {Q : Bool → Shared → Prop} (R : SetQ O s.heap a ks) (hk : kd.is k v = true) (room : ks.length + 1 < scanBound)
    (hQ : ∀ b h', Heap.SameBut a s.heap h' → SetQ O h' a (addU ks k) → Q b { s with heap := h' }) :
    wpAny (model P w) A (setAddHashed a v (kd.hash k)) Q E s := by
  obtain ⟨ob, es, ep, t, ho, hex, hd, g, pk, nd, hb, hf, hr, hl⟩ := R
  have hsc : v.scannable = true := O.sc k v hk
  have hel : ElemsOf kd es.toList := EnG.elems g O
  unfold setAddHashed setAddHashedIn
  refine wpAny_holding (wpAny_bind (wpAny_setState_of ho hd hf ?_))
  dsimp only
  rw [byScan_of hsc hb hel]
  simp only [↓reduceIte]
  unfold setAddByScan
  refine wpAny_bind (wpAny_bind (wpAny_rule (wpAny_bind (wpAny_setScan_of hk ho hd hf hel ?_))))
  have hmem : k ∈ ks ↔ ∃ e ∈ es.toList, kd.is k e.2 = true := by
    rw [← pk.mem_iff, List.mem_map]
    exact ⟨fun ⟨e, he, q⟩ => ⟨e, he, (EnG.is (g e he) O k).2 q⟩, fun ⟨e, he, q⟩ => ⟨e, he, (EnG.is (g e he) O k).1 q⟩⟩
  cases hfi : List.findIdx? (fun e => kd.is k e.2) es.toList with
  | some j =>
    dsimp only
    obtain ⟨hj, pj, _⟩ := List.findIdx?_eq_some_iff_getElem.mp hfi
    have hin : k ∈ ks := hmem.2 ⟨es.toList[j], List.getElem_mem hj, pj⟩
    have e1 : addU ks k = ks := if_pos hin
    refine wpAny_pure (wpAny_pure ?_)
    exact hQ _ s.heap (Heap.SameBut.refl a s.heap) (by rw [e1]; exact ⟨ob, es, ep, t, ho, hex, hd, g, pk, nd, hb, hf, hr, hl⟩)
  | none =>
    dsimp only
    have hnk : k ∉ ks := fun z => by
      obtain ⟨e, he, q⟩ := hmem.1 z
      have c := List.findIdx?_eq_none_iff.mp hfi e he
      rw [q] at c
      cases c
    have e1 : addU ks k = ks ++ [k] := if_neg hnk
    have hgw : ∀ (b : Bool) {s₁ : Shared} {Q' : Unit → Shared → Prop}, Q' () s₁ → wpAny (model P w) A (match b with | true => rule "set.scan.the-table-gave-way" | false => pure ()) Q' E s₁ :=
      fun b s₁ Q' q => by cases b <;> first | exact wpAny_pure q | exact wpAny_rule q
    have pm := layNew_perm t es (kd.hash k) v
    have f1 := layNew_fits t es (kd.hash k) v
    have r1 := layNew_ris t es (kd.hash k) v hr
    have l1 := layNew_led t es (kd.hash k) v
    generalize layNew t es (kd.hash k) v = Z at pm f1 r1 l1 ⊢
    obtain ⟨es1, t1, wasDummy, gave⟩ := Z
    dsimp only at pm f1 r1 l1 ⊢
    rw [Array.toList_push] at pm
    have g1 : ∀ e ∈ es1.toList, EnG kd e := fun e he => by
      rcases List.mem_append.mp (pm.mem_iff.mp he) with z | z
      · exact g e z
      · rw [List.mem_singleton.mp z]
        exact ⟨k, hk, rfl⟩
    have pk1 : (es1.toList.map fun e => O.ko e.2).Perm (addU ks k) := by
      have := pm.map fun e : Int × Value => O.ko e.2
      rw [List.map_append] at this
      rw [e1]
      refine this.trans ?_
      have e2 : List.map (fun e : Int × Value => O.ko e.2) [(kd.hash k, v)] = [k] := by
        show [O.ko v] = [k]
        rw [O.eq k v hk]
      rw [e2]
      exact pk.append (List.Perm.refl _)
    have nd1 := addU_nodup k nd
    have z1 : es1.size < scanBound := by
      have q1 := pm.length_eq
      have q2 := pk.length_eq
      simp only [List.length_append, List.length_map, Array.length_toList, List.length_cons, List.length_nil] at q1 q2
      omega
    have led1 : w.params.followText "set-order" = true ∨ t1.led = true := hl.imp id fun z => by rw [l1]; exact z
    have fin : ∀ h', Heap.SameBut a s.heap h' → SetQ O h' a (addU ks k) → Q true { s with heap := h' } := fun h' sb r => hQ _ h' sb r
    refine wpAny_bind (hgw _ ?_)
    split
    · refine wpAny_bind ?_
      rw [hashByValue_scannable 8 hsc]
      refine wpAny_pure ?_
      refine setQ_tail (O := O) ?_ ho hex hd g1 pk1 nd1 z1 ?_ ?_ ?_ ?_
      · intro b s₁ Q' q; cases b <;> first | exact wpAny_pure q | exact wpAny_rule q
      · first | (split <;> first | exact f1 | exact SetTable.fits_plain_off f1) | exact f1
      · first | (split <;> exact r1) | exact r1
      · first | (split <;> exact led1) | exact led1
      · intro h' sb r; dsimp only; exact wpAny_pure (fin h' sb r)
    · refine wpAny_bind (wpAny_pure ?_)
      simp only [↓reduceIte]
      refine setQ_tail (O := O) ?_ ho hex hd g1 pk1 nd1 z1 f1 r1 led1 ?_
      · intro b s₁ Q' q; cases b <;> first | exact wpAny_pure q | exact wpAny_rule q
      · intro h' sb r; dsimp only; exact wpAny_pure (fin h' sb r)

theorem setQ_new {h : Heap} {a : Addr} (ho : h.get? a = some (nso w)) : SetQ O h a ([] : List K) :=
  ⟨_, #[], 0, _, ho, ⟨rfl, rfl, rfl⟩, rfl, (fun e he => by simp at he), List.Perm.refl _, List.nodup_nil, (by decide), rfl, List.Pairwise.nil, by
    show _ ∨ (!w.params.followText "set-order") = true
    cases w.params.followText "set-order"
    · exact .inr rfl
    · exact .inl rfl⟩

theorem setQ_loop {I : Addr} {fp wr : List Addr} {G : Array GenState → Array GenState → Prop} {n : Nat} {Pv : Nat → Value → Prop} {St : Nat → Shared → Prop} {R : Result → Shared → Prop}
    (W : WalksS P w A.in1 I fp wr G n Pv St) (S : Addr) (hSf : S ∉ fp) (ks : List K) (hn : n = ks.length) (hb : ks.length + 1 < scanBound) (hval : ∀ i v, Pv i v → ∃ k, ks[i]? = some k ∧ kd.is k v = true) :
    ∀ (m i : Nat) (s : Shared), n - i = m → i ≤ n → St i s → SetQ O s.heap S (uniqs (ks.take i)) →
      (∀ s', Moved (S :: wr) G s s' → SetQ O s'.heap S (uniqs ks) → R (.ok (.ret .none)) s') →
      codeAny (model P w) A (.builtin "set.update.loop" ⟨[.ref S, .ref I], []⟩) R s := by
  have hSw : S ∉ wr := fun h => hSf (W.sub _ h)
  have sub1 : ∀ b ∈ wr, b ∈ S :: wr := fun b hb => List.mem_cons_of_mem _ hb
  intro m
  induction m with
  | zero =>
    intro i s hm0 hi hst hS hR
    have hin : i = n := by omega
    subst hin
    refine codeAny_builtin PyProof.Rows.F.entry_set_update_loop ?_
    rw [Around.under_plainId PyProof.Rows.F.plain_set_update_loop _]
    show wpAny _ A.in1 (pyNext (.ref I) >>= _) _ _ s
    refine wpAny_bind (W.done s _ _ hst fun s' hm => ?_)
    show wpAny _ A.in1 (ret Value.none) _ _ s'
    rw [List.take_of_length_le (by omega)] at hS
    exact wpAny_pure (hR s' (hm.mono sub1) (hS.at fun o e => hm.heap S o hSw e))
  | succ m ih =>
    intro i s hm0 hi hst hS hR
    have hlt : i < n := by omega
    refine codeAny_builtin PyProof.Rows.F.entry_set_update_loop ?_
    rw [Around.under_plainId PyProof.Rows.F.plain_set_update_loop _]
    show wpAny _ A.in1 (pyNext (.ref I) >>= _) _ _ s
    refine wpAny_bind (W.item i s _ _ hlt hst fun v s' hP hst' hm => ?_)
    obtain ⟨k, hk1, hk2⟩ := hval i v hP
    have hS' : SetQ O s'.heap S (uniqs (ks.take i)) := hS.at fun o e => hm.heap S o hSw e
    show wpAny _ A.in1 (holding [v] (setAdd S v) >>= _) _ _ s'
    refine wpAny_bind (wpAny_holding ?_)
    unfold setAdd
    refine wpAny_holding ?_
    refine wpAny_bind (kd.pyHash hk2 ?_)
    have hroom : (uniqs (ks.take i)).length + 1 < scanBound := by
      have := uniqs_len (ks.take i)
      rw [List.length_take] at this
      omega
    refine setQ_add (s := { s' with toks := s'.toks + 1 }) hS' hk2 hroom fun b h' hsb hS2 => ?_
    rw [← uniqs_take hk1] at hS2
    refine wpAny_pure ⟨plainId_quiet PyProof.Rows.F.plain_set_update_loop _, ih (i + 1) _ (by omega) hlt (W.frame _ s' _ _ hst' (Nat.le_succ _) fun b hb o e => ?_) hS2 fun s'' hm2 hS3 => ?_⟩
    · rw [hsb.2 b (fun h : b = S => hSf (by rw [← h]; exact hb))]; exact e
    · refine hR s'' (Moved.trans W.gtrans ((hm.mono sub1).then_heap (Nat.le_succ _) fun b o hb e => ?_) hm2) hS3
      rw [hsb.2 b (fun h : b = S => hb (by rw [h]; exact List.mem_cons_self))]; exact e

set_option maxHeartbeats 6400000 in
/-- set(tuple) -/
theorem call_setQ_tuple (O : KO kd) {l : Addr} {items : Array Value} {Q : Value → Shared → Prop} (hh : A.handled = none) (hl : s.heap.IsTuple l items) (hz : items.size = ks.length) (hit : ∀ (i : Nat) (v : Value), items[i]? = some v → ∃ k, ks[i]? = some k ∧ kd.is k v = true)
    (hb : ks.length + 1 < scanBound)
    (h : ∀ (h' : Heap) (tk : Nat), SetQ O h' s.heap.objs.size (uniqs ks) → (∀ b o, s.heap.get? b = some o → h'.get? b = some o) → Q (.ref s.heap.objs.size) { s with heap := h', toks := tk }) :
    wpAny (model P w) A (call (.type "set") [.ref l]) Q E s := by
  obtain ⟨c, tl, hmro⟩ := PySem.F.called_set.mro
  have hmade := PySem.F.called_set.made
  have hsub := PySem.F.called_set.sub
  refine wpAny_call (codeAny_of_tree ?_)
  show wpAny _ _ (callAny (.type "set") _) _ _ _
  refine wpAny_pure ⟨Code.quiet_builtin _ (by decide +kernel), codeAny_builtin PySem.F.entry_type_call ?_⟩
  rw [Around.under_plain (weight_type_call_type "set" [.ref l] []) rfl]
  have h1 := PySem.F.called_set.notType
  have h2 := PySem.F.called_set.canCreate
  have hct := PySem.F.typeCall_set_1 (.ref l)
  repeat (any_goals (first | assumption | wp_step))
  refine codeAny_mono (code_set_led1 (.ref l) (E := E) (Q₁ := fun obj s₁ => obj = .ref s.heap.objs.size ∧ s₁ = { s with heap := s.heap.push (nso w) }) ⟨rfl, rfl⟩) fun r s₁ hr => ?_
  cases r with
  | error e => exact hr
  | ok fl =>
    cases fl with
    | ret obj =>
      obtain ⟨rfl, rfl⟩ := hr
      have hS : (s.heap.push (nso w)).get? s.heap.objs.size = some (nso w) := Heap.get?_push_size _ rfl
      have hT : Shared.TypeIs { s with heap := s.heap.push (nso w) } (.ref s.heap.objs.size) "set" := ⟨_, hS, rfl⟩
      have hli := PySem.F.called_set.init.lookup
      have hbi := PySem.F.called_set.init.bind (.ref s.heap.objs.size)
      repeat (any_goals (first | assumption | wp_step))
      refine codeAny_mono (codeAny_call_builtin (R := wants (fun r s₂ => r = .none ∧ ∃ h' tk, s₂ = { s with heap := h', toks := tk } ∧ SetQ O h' s.heap.objs.size (uniqs ks) ∧
          (∀ b o, s.heap.get? b = some o → h'.get? b = some o)) E) PySem.F.called_set.init.plain PySem.F.entry_set_init (check_set_init_1 hT ?_)) fun r₂ s₂ hr₂ => ?_
      · obtain ⟨ol, hol, hcl, nl, hdl⟩ := hl
        obtain ⟨ocls, odict, odata, oslots⟩ := ol
        simp only at hcl hdl
        subst hcl; subst hdl
        have hol' : (s.heap.push (nso w)).get? l = some { cls := .type "tuple", dict := odict, data := .seq items nl, slots := oslots } := Heap.get?_push_of_some _ hol
        have hsls := PySem.F.sub_tuple_set
        have hslf := PySem.F.sub_tuple_frozenset
        have hne : (Value.type "tuple" == Value.type "dict") = false := by decide
        have hl1 : (s.heap.push (nso w)).IsTuple l items := ⟨_, hol', rfl, nl, rfl⟩
        unfold Builtin.«set.__init__» noKeywords Builtin.Frozenset.updateFrom
        generalize hPI : pyIter = PI
        wp_walk
        subst hPI
        refine wpAny_pyIter_tuple hl1 ?_
        refine wpAny_bind (wpAny_runValue ?_)
        have hlS : l < s.heap.objs.size := Heap.lt_size hol
        have hh3 : A.in1.in1.in1.handled = none := by simp [hh]
        have hneI : l ≠ (s.heap.push (nso w)).objs.size := by
          rw [Heap.size_push]; exact Nat.ne_of_lt (Nat.lt_succ_of_lt hlS)
        have hSf : s.heap.objs.size ∉ [(s.heap.push (nso w)).objs.size, l] := by
          rw [Heap.size_push]; simp only [List.mem_cons, List.mem_singleton, List.not_mem_nil, or_false, not_or]
          exact ⟨Nat.ne_of_lt (Nat.lt_succ_self _), Nat.ne_of_gt hlS⟩
        refine setQ_loop (O := O) ((Walks.tuple hh3 _ l hneI items).toS) s.heap.objs.size
          hSf ks hz hb hit (items.size - 0) 0 _ (by omega) (Nat.zero_le _)
          ⟨⟨_, Heap.get?_push_size _ rfl, rfl, rfl⟩, (hl1.push _)⟩ ?hS0 ?hR
        case hS0 =>
          have hget : ((s.heap.push (nso w)).push { cls := .type "tuple_iterator", data := .fields #[.ref l, .int 0 0] }).get? s.heap.objs.size = some (nso w) := Heap.get?_push_of_some _ hS
          exact setQ_new hget
        case hR =>
          intro s' hm hS'
          obtain ⟨h', g2, d', tk', os'⟩ := s'
          have eg : g2 = s.gens := hm.gens
          have ed : d' = s.drawn := hm.drawn
          have eo : os' = s.os := hm.os
          subst eg; subst ed; subst eo
          show wpAny _ _ _ _ _ _
          refine wpAny_pure ?_
          show wpAny _ _ (ret Value.none) _ _ _
          refine wpAny_pure ⟨rfl, h', tk', rfl, hS', fun b o e => ?_⟩
          have hb0 : b < s.heap.objs.size := Heap.lt_size e
          have hb1 : b ≠ s.heap.objs.size := Nat.ne_of_lt hb0
          have hb2 : b ≠ (s.heap.push (nso w)).objs.size := by
            rw [Heap.size_push]; exact Nat.ne_of_lt (Nat.lt_succ_of_lt hb0)
          exact hm.heap b o (by simp only [List.mem_cons, List.mem_singleton, List.not_mem_nil, or_false, not_or]; exact ⟨hb1, hb2⟩) (Heap.get?_push_of_some _ (Heap.get?_push_of_some _ e))
      · cases r₂ with
        | error e => exact hr₂
        | ok fl₂ =>
          cases fl₂ with
          | ret r =>
            obtain ⟨rfl, h', tk, rfl, hS', hk'⟩ := hr₂
            repeat (any_goals (first | assumption | wp_step))
            exact h _ _ hS' hk'
          | _ => exact hr₂.elim
    | _ => exact hr.elim

set_option maxHeartbeats 6400000 in
/-- set(list) -/
theorem call_setQ_list (O : KO kd) {l : Addr} {items : Array Value} {Q : Value → Shared → Prop} (hh : A.handled = none) (hl : s.heap.IsList l items) (hz : items.size = ks.length) (hit : ∀ (i : Nat) (v : Value), items[i]? = some v → ∃ k, ks[i]? = some k ∧ kd.is k v = true)
    (hb : ks.length + 1 < scanBound)
    (h : ∀ (h' : Heap) (tk : Nat), SetQ O h' s.heap.objs.size (uniqs ks) → (∀ b o, s.heap.get? b = some o → h'.get? b = some o) → Q (.ref s.heap.objs.size) { s with heap := h', toks := tk }) :
    wpAny (model P w) A (call (.type "set") [.ref l]) Q E s := by
  obtain ⟨c, tl, hmro⟩ := PySem.F.called_set.mro
  have hmade := PySem.F.called_set.made
  have hsub := PySem.F.called_set.sub
  refine wpAny_call (codeAny_of_tree ?_)
  show wpAny _ _ (callAny (.type "set") _) _ _ _
  refine wpAny_pure ⟨Code.quiet_builtin _ (by decide +kernel), codeAny_builtin PySem.F.entry_type_call ?_⟩
  rw [Around.under_plain (weight_type_call_type "set" [.ref l] []) rfl]
  have h1 := PySem.F.called_set.notType
  have h2 := PySem.F.called_set.canCreate
  have hct := PySem.F.typeCall_set_1 (.ref l)
  repeat (any_goals (first | assumption | wp_step))
  refine codeAny_mono (code_set_led1 (.ref l) (E := E) (Q₁ := fun obj s₁ => obj = .ref s.heap.objs.size ∧ s₁ = { s with heap := s.heap.push (nso w) }) ⟨rfl, rfl⟩) fun r s₁ hr => ?_
  cases r with
  | error e => exact hr
  | ok fl =>
    cases fl with
    | ret obj =>
      obtain ⟨rfl, rfl⟩ := hr
      have hS : (s.heap.push (nso w)).get? s.heap.objs.size = some (nso w) := Heap.get?_push_size _ rfl
      have hT : Shared.TypeIs { s with heap := s.heap.push (nso w) } (.ref s.heap.objs.size) "set" := ⟨_, hS, rfl⟩
      have hli := PySem.F.called_set.init.lookup
      have hbi := PySem.F.called_set.init.bind (.ref s.heap.objs.size)
      repeat (any_goals (first | assumption | wp_step))
      refine codeAny_mono (codeAny_call_builtin (R := wants (fun r s₂ => r = .none ∧ ∃ h' tk, s₂ = { s with heap := h', toks := tk } ∧ SetQ O h' s.heap.objs.size (uniqs ks) ∧
          (∀ b o, s.heap.get? b = some o → h'.get? b = some o)) E) PySem.F.called_set.init.plain PySem.F.entry_set_init (check_set_init_1 hT ?_)) fun r₂ s₂ hr₂ => ?_
      · obtain ⟨ol, hol, hcl, nl, hdl⟩ := hl
        obtain ⟨ocls, odict, odata, oslots⟩ := ol
        simp only at hcl hdl
        subst hcl; subst hdl
        have hol' : (s.heap.push (nso w)).get? l = some { cls := .type "list", dict := odict, data := .seq items nl, slots := oslots } := Heap.get?_push_of_some _ hol
        have hsls := PySem.F.sub_list_set
        have hslf := PySem.F.sub_list_frozenset
        have hne : (Value.type "list" == Value.type "dict") = false := by decide
        have hl1 : (s.heap.push (nso w)).IsList l items := ⟨_, hol', rfl, nl, rfl⟩
        unfold Builtin.«set.__init__» noKeywords Builtin.Frozenset.updateFrom
        generalize hPI : pyIter = PI
        wp_walk
        subst hPI
        refine wpAny_pyIter_list hl1 ?_
        refine wpAny_bind (wpAny_runValue ?_)
        have hlS : l < s.heap.objs.size := Heap.lt_size hol
        have hh3 : A.in1.in1.in1.handled = none := by simp [hh]
        have hneI : l ≠ (s.heap.push (nso w)).objs.size := by
          rw [Heap.size_push]; exact Nat.ne_of_lt (Nat.lt_succ_of_lt hlS)
        have hSf : s.heap.objs.size ∉ [(s.heap.push (nso w)).objs.size, l] := by
          rw [Heap.size_push]; simp only [List.mem_cons, List.mem_singleton, List.not_mem_nil, or_false, not_or]
          exact ⟨Nat.ne_of_lt (Nat.lt_succ_self _), Nat.ne_of_gt hlS⟩
        refine setQ_loop (O := O) ((Walks.list hh3 _ l hneI items).toS) s.heap.objs.size
          hSf ks hz hb hit (items.size - 0) 0 _ (by omega) (Nat.zero_le _)
          ⟨⟨_, Heap.get?_push_size _ rfl, rfl, rfl⟩, (hl1.push _)⟩ ?hS0 ?hR
        case hS0 =>
          have hget : ((s.heap.push (nso w)).push { cls := .type "list_iterator", data := .fields #[.ref l, .int 0 0] }).get? s.heap.objs.size = some (nso w) := Heap.get?_push_of_some _ hS
          exact setQ_new hget
        case hR =>
          intro s' hm hS'
          obtain ⟨h', g2, d', tk', os'⟩ := s'
          have eg : g2 = s.gens := hm.gens
          have ed : d' = s.drawn := hm.drawn
          have eo : os' = s.os := hm.os
          subst eg; subst ed; subst eo
          show wpAny _ _ _ _ _ _
          refine wpAny_pure ?_
          show wpAny _ _ (ret Value.none) _ _ _
          refine wpAny_pure ⟨rfl, h', tk', rfl, hS', fun b o e => ?_⟩
          have hb0 : b < s.heap.objs.size := Heap.lt_size e
          have hb1 : b ≠ s.heap.objs.size := Nat.ne_of_lt hb0
          have hb2 : b ≠ (s.heap.push (nso w)).objs.size := by
            rw [Heap.size_push]; exact Nat.ne_of_lt (Nat.lt_succ_of_lt hb0)
          exact hm.heap b o (by simp only [List.mem_cons, List.mem_singleton, List.not_mem_nil, or_false, not_or]; exact ⟨hb1, hb2⟩) (Heap.get?_push_of_some _ (Heap.get?_push_of_some _ e))
      · cases r₂ with
        | error e => exact hr₂
        | ok fl₂ =>
          cases fl₂ with
          | ret r =>
            obtain ⟨rfl, h', tk, rfl, hS', hk'⟩ := hr₂
            repeat (any_goals (first | assumption | wp_step))
            exact h _ _ hS' hk'
          | _ => exact hr₂.elim
    | _ => exact hr.elim
end
end Mp

end
section
set_option maxRecDepth 100000
set_option maxHeartbeats 4000000
namespace Mp
open PySem PySem.Spec PyProof.Rows L2
section
variable {Z : St0} {X : Cx} {H : Hp} {bx : List Addr} {h : HP}
theorem each_of {R : Value → D → Prop} (f : ∀ x v d, RelV x v → Rep Z H bx d x → d.data = true → R v d) : ∀ {ds : List D} {us : List V} {its : List Value}, RepL Z H bx ds us → Vals us its → dataL ds = true → PySem.W.EachIs R its ds
  | [], us, its, r, rv, _ => by
    have r : us = _ := r
    subst r
    cases rv
    exact .nil
  | d :: ds, us, its, r, rv, hd => by
    obtain ⟨v, t, rfl, r1, r2⟩ := r
    have hd : (D.data d && dataL ds) = true := hd
    rw [Bool.and_eq_true] at hd
    cases rv with
    | cons q qs => exact .cons (f _ _ _ q r1 hd.1) (each_of f r2 qs hd.2)
theorem each_to : ∀ {ds : List D} {its : List Value}, PySem.W.EachIs (fun v d => ∃ x, RelV x v ∧ Rep Z H bx d x) its ds → ∃ us, Vals us its ∧ RepL Z H bx ds us
  | _, _, .nil => ⟨[], .nil, .nil⟩
  | _, _, .cons ⟨x, r, q⟩ t => by
    obtain ⟨us, h1, h2⟩ := each_to t
    exact ⟨x :: us, .cons r h1, .cons q h2⟩
theorem pyL_map : ∀ xs : List D, xs.map D.py = pyL xs
  | [] => rfl
  | x :: xs => by
    rw [List.map_cons, pyL_map xs]
    rfl
theorem sortable_ok {xs : List D} (c : sortable xs = true) : (D.lst xs).ok = true ∧ PySem.W.AllAlike (xs.map D.py) ∧ PySem.W.Sortable (xs.map D.py) := by
  unfold sortable at c
  rw [Bool.and_eq_true, Bool.and_eq_true] at c
  obtain ⟨⟨c1, c2⟩, c3⟩ := c
  refine ⟨c1, fun d hd d' hd' => ?_, ?_⟩
  · obtain ⟨b, hb, rfl⟩ := List.mem_map.mp hd
    obtain ⟨b', hb', rfl⟩ := List.mem_map.mp hd'
    have := List.all_eq_true.mp c2 b hb
    exact List.all_eq_true.mp this b' hb'
  · rw [Bool.or_eq_true] at c3
    rcases c3 with c3 | c3
    · refine .inl fun d hd => ?_
      obtain ⟨b, hb, rfl⟩ := List.mem_map.mp hd
      have := List.all_eq_true.mp c3 b hb
      cases b <;> first | exact Bool.noConfusion (show false = true from this) | skip
      rename_i ys
      cases ys with
      | nil => exact Bool.noConfusion (show false = true from this)
      | cons y ys => exact ⟨_, _, rfl⟩
    · refine .inr fun d hd => ?_
      obtain ⟨b, hb, rfl⟩ := List.mem_map.mp hd
      have := List.all_eq_true.mp c3 b hb
      have nd : b.data = true := by
        have hd2 : dataL xs = true := ok_data c1
        clear this c1 c2 c3 hd
        induction xs with
        | nil => exact absurd hb (by simp)
        | cons x xs ih =>
          have hd2 : (D.data x && dataL xs) = true := hd2
          rw [Bool.and_eq_true] at hd2
          rcases List.mem_cons.mp hb with e | m
          · rw [e]; exact hd2.1
          · exact ih m hd2.2
      cases b <;> first | exact Bool.noConfusion (show false = true from this) | exact Bool.noConfusion (show false = true from nd) | exact ⟨fun z => (by cases z), fun ys z => (by cases z)⟩
theorem cr_sortedD (hK : X.K = Z.K) (hu : X.A.units + 65 < cLine) (b : Bool) : CallR X (.builtin "sorted") (rL Z (evOp (.sorted b))) := by
  intro pins s σ H vs us Q J rs q
  obtain ⟨W, bx, ds, h, r, hr, p⟩ := q
  obtain ⟨a, ws, xs, rfl, sq, hz, rr, p⟩ := onQ_read hr r p
  unfold evSorted at p
  obtain ⟨c, p⟩ := pst_ite p
  obtain ⟨c1, c2, c3⟩ := sortable_ok c
  rw [Vals.ref1 rs]
  have l1 := rr.length
  have du : ∀ d, d ∈ xs → X.A.units + 2 + d.py.depth < cLine := fun d hd => by
    have h60 : depL xs + 1 ≤ 60 := ok_dep c1
    have key : ∀ {ys : List D} {d : D}, d ∈ ys → d.dep ≤ depL ys := by
      intro ys
      induction ys with
      | nil => intro d hd; exact absurd hd (by simp)
      | cons y ys ih =>
        intro d hd
        show d.dep ≤ max (D.dep y) (depL ys)
        rcases List.mem_cons.mp hd with e1 | m
        · rw [e1]; omega
        · have := ih m; omega
    have := key hd
    rw [py_depth]
    omega
  have fin : ∀ (its out : List Value), out.length = xs.length → PySem.W.EachIs (fun v d => ∃ x, RelV x v ∧ Rep Z H bx d x) out (xs.mergeSort (PySem.W.dataLe false D.py)) →
      ∃ v H', Inv X pins σ H' { s with heap := sortedAll s.heap its out.toArray } ∧ RelV v (.ref (s.heap.objs.size + 1)) ∧ Q v H' := fun its out ho he => by
    obtain ⟨zs, h1, h2⟩ := each_to he
    obtain ⟨ep, he'⟩ := PyProof.Rows.sortedAll_at s.heap its out.toArray
    have hlen : zs.length ≤ sizeLine := by
      rw [h1.length, ho, ← l1]
      exact hz
    exact ⟨.ref _, upd H (s.heap.objs.size + 1) (.lst zs), J.laid (t' := s.toks) (fun _ _ => PyProof.Rows.sortedAll_old) (Nat.le_succ _) ⟨hlen, out, ep, h1, by simpa using he'⟩, rfl, new_lst hr h2 hlen p (J.hok.fresh (Nat.le_succ _))⟩
  rcases sq with sq | sq
  · obtain ⟨its, rv, hl, _⟩ := J.list (by rw [hK]; exact sq)
    exact PySem.W.sorted_data (R := fun v d => ∃ x, RelV x v ∧ Rep Z H bx d x) hl.isList (each_of (fun x v d r q _ => ⟨x, r, q⟩) rr rv (ok_data c1)) (each_of (R := fun v d => ∃ as, Reads s.heap v (D.py d) as) (fun x v d r q hd => Dp.reads J _ x v (by rw [hK]; exact rep_dp (Z := Z) (bx := bx) _ hd q) r) rr rv (ok_data c1)) c2 c3 (by rw [← l1]; exact hz) du (fin its)
  · obtain ⟨its, rv, hl, _⟩ := J.tuple (by rw [hK]; exact sq)
    exact sorted_tup (R := fun v d => ∃ x, RelV x v ∧ Rep Z H bx d x) hl (each_of (fun x v d r q _ => ⟨x, r, q⟩) rr rv (ok_data c1)) (each_of (R := fun v d => ∃ as, Reads s.heap v (D.py d) as) (fun x v d r q hd => Dp.reads J _ x v (by rw [hK]; exact rep_dp (Z := Z) (bx := bx) _ hd q) r) rr rv (ok_data c1)) c2 c3 (by rw [← l1]; exact hz) du (fin its)
def tyName : Nat → Option String
  | 0 => some "int" | 1 => some "bool" | 2 => some "str" | 3 => some "tuple" | 4 => some "list" | 5 => some "dict"
  | _ => none
def bltTy : D → HP → Option String
  | .non, _ => some "NoneType"
  | .bl _, _ => some "bool"
  | .int _, _ => some "int"
  | .str _, _ => some "str"
  | .tup _, _ => some "tuple"
  | .lst _, _ => some "list"
  | .box n, h => match h[n]? with
    | some (.lst _) => some "list"
    | some _ => some "dict"
    | none => none
  | .obj _ _, _ => none
theorem kit_tab : ∀ T ∈ ["NoneType", "bool", "int", "str", "tuple", "list", "dict"], ∀ t ∈ [0, 1, 2, 3, 4, 5], ∀ K : PySem.W.Frag, ∃ U, tyName t = some U ∧ PySem.W.kitOne K (.type T) (.type U) = some (T == U || (T == "bool" && U == "int")) := by
  intro T hT t ht K
  simp only [List.mem_cons, List.not_mem_nil, or_false] at hT ht
  rcases hT with rfl | rfl | rfl | rfl | rfl | rfl | rfl <;> rcases ht with rfl | rfl | rfl | rfl | rfl | rfl <;> exact ⟨_, rfl, by kernel_rfl⟩
theorem tyx_rep {d : D} {v : V} {T : String} (hr : HeapR Z H bx h) (r : Rep Z H bx d v) (e : bltTy d h = some T) : TyX Z.K H v (.type T) := by
  cases d with
  | non => cases e; cases r; exact .base .non
  | bl b => cases e; cases r; exact .base (.bl b)
  | int i => cases e; cases r; exact .base (.int i)
  | str x => cases e; cases r; exact .base (.str x)
  | tup xs =>
    cases e
    obtain ⟨a, vs, rfl, f, rr⟩ := r
    obtain ⟨_, ⟨o, f, _⟩ | ⟨o, its, n, h1, h2, _⟩⟩ := f
    · exact .fTuple f
    · exact .kTuple h1 h2.cls
  | lst xs =>
    cases e
    obtain ⟨a, vs, rfl, f, rr⟩ := r
    obtain ⟨_, ⟨f | ⟨o, f⟩, _⟩ | ⟨o, its, n, h1, h2, _⟩⟩ := f
    · exact .base (.lst f)
    · exact .base (.frz f)
    · exact .kList h1 h2
  | box n =>
    obtain ⟨a, rfl, q⟩ := r
    cases q2 : h[n]? with
    | none => simp [bltTy, q2] at e
    | some o =>
      cases o with
      | lst xs =>
        obtain ⟨vs, e2, _⟩ := hr.at_ n a _ q q2
        have e : some "list" = some T := by simpa [bltTy, q2] using e
        cases e
        exact .base (.lst e2)
      | dK kvs =>
        obtain ⟨vs, e2, _⟩ := hr.at_ n a _ q q2
        have e : some "dict" = some T := by simpa [bltTy, q2] using e
        cases e
        exact .base (.dK e2)
      | dT kvs =>
        obtain ⟨vs, e2, _⟩ := hr.at_ n a _ q q2
        have e : some "dict" = some T := by simpa [bltTy, q2] using e
        cases e
        exact .base (.dT e2)
  | obj c xs => cases e
theorem isa_tab {t : Nat} {d : D} {b : Bool} (ht : t ∈ [0, 1, 2, 3, 4, 5]) (e : isaD t h d = some b) : ∃ T U, T ∈ ["NoneType", "bool", "int", "str", "tuple", "list", "dict"] ∧ bltTy d h = some T ∧ tyName t = some U ∧ b = (T == U || (T == "bool" && U == "int")) := by
  have key : ∀ (T : String) (c : Bool), bltTy d h = some T → some c = some b → T ∈ ["NoneType", "bool", "int", "str", "tuple", "list", "dict"] → (∃ U, tyName t = some U ∧ c = (T == U || (T == "bool" && U == "int"))) → ∃ T U, T ∈ ["NoneType", "bool", "int", "str", "tuple", "list", "dict"] ∧ bltTy d h = some T ∧ tyName t = some U ∧ b = (T == U || (T == "bool" && U == "int")) := by
    rintro T c h1 h2 h3 ⟨U, h4, h5⟩
    cases h2
    exact ⟨T, U, h3, h1, h4, h5⟩
  simp only [List.mem_cons, List.not_mem_nil, or_false] at ht
  cases d with
  | non => exact key "NoneType" false rfl e (by decide) (by rcases ht with rfl | rfl | rfl | rfl | rfl | rfl <;> exact ⟨_, rfl, by decide⟩)
  | bl x => exact key "bool" _ rfl e (by decide) (by rcases ht with rfl | rfl | rfl | rfl | rfl | rfl <;> exact ⟨_, rfl, by decide⟩)
  | int x => exact key "int" _ rfl e (by decide) (by rcases ht with rfl | rfl | rfl | rfl | rfl | rfl <;> exact ⟨_, rfl, by decide⟩)
  | str x => exact key "str" _ rfl e (by decide) (by rcases ht with rfl | rfl | rfl | rfl | rfl | rfl <;> exact ⟨_, rfl, by decide⟩)
  | tup x => exact key "tuple" _ rfl e (by decide) (by rcases ht with rfl | rfl | rfl | rfl | rfl | rfl <;> exact ⟨_, rfl, by decide⟩)
  | lst x => exact key "list" _ rfl e (by decide) (by rcases ht with rfl | rfl | rfl | rfl | rfl | rfl <;> exact ⟨_, rfl, by decide⟩)
  | obj c x => cases e
  | box n =>
    cases q2 : h[n]? with
    | none => simp [isaD, q2] at e
    | some o =>
      cases o with
      | lst xs => exact key "list" (t == 4) (by simp [bltTy, q2]) (by simpa [isaD, q2] using e) (by decide) (by rcases ht with rfl | rfl | rfl | rfl | rfl | rfl <;> exact ⟨_, rfl, by decide⟩)
      | dK xs => exact key "dict" (t == 5) (by simp [bltTy, q2]) (by simpa [isaD, q2] using e) (by decide) (by rcases ht with rfl | rfl | rfl | rfl | rfl | rfl <;> exact ⟨_, rfl, by decide⟩)
      | dT xs => exact key "dict" (t == 5) (by simp [bltTy, q2]) (by simpa [isaD, q2] using e) (by decide) (by rcases ht with rfl | rfl | rfl | rfl | rfl | rfl <;> exact ⟨_, rfl, by decide⟩)
section
variable {G : Tab} {cf : Fns} {k : Nat} {cc : CC} {pos : Pos}
/-- isinstance(x, T), T a built-in type by its name -/
theorem se_isa (g : Good G Z cf k cc X) {t : Nat} {U : String} {u : Str} {a : Expr} {p p2 : Pos} {f : Env → HP → Rs D} (ht : t ∈ [0, 1, 2, 3, 4, 5]) (hU : tyName t = some U) (hu : bootBuiltins u = some (.type U)) (hm : u ∈ bltNames) (hg : glOk cc "isinstance" = true) (hg2 : glOk cc u = true) (h : SE Z X a f) (hp : plainX a = true) :
    SE Z X (.Call (.Name "isinstance" p) [a, .Name u p2] [] pos) (fun env hp => (f env hp).bnd fun d hp => evOp (.isa t) [d] hp) := fun fb W tk => by
  obtain ⟨h1, h2, h3⟩ := glOk_of g hg
  obtain ⟨z1, z2, z3⟩ := glOk_of g hg2
  have pT : PE X (.Name u p2) (tC (.ty U)) := pe_bltn z1 (g.blt u hm) hu rfl z3 z2
  refine pe_imp (pe_callB (call_isi (X := X)) h1 (g.blt "isinstance" (by decide)) rfl (pa_cons (h fb W tk) (pa_cons pT pa_nil rfl) (plain_star hp)) h3 h2 (plain_star hp) rfl) fun σ H Q q => ?_
  obtain ⟨bx, env, hp, he, hh, p⟩ := q
  refine ⟨bx, env, hp, he, hh, Pst.bnd p fun d hp1 H1 bx1 v e1 hh1 r1 p1 => ?_⟩
  replace p1 : Pst (Z.wf fb) H1 bx1 (fun c d H' => W c d σ H') (RepS (Z.wf fb)) (match isaD t hp1 d with
    | some b => .ok (.bl b) hp1
    | none => .bad) Q := p1
  split at p1
  · rename_i b eb
    obtain ⟨T, U2, hT, e2, e3, e4⟩ := isa_tab ht eb
    rw [hU] at e3
    cases e3
    obtain ⟨U3, e5, e6⟩ := kit_tab T hT t ht X.K
    rw [hU] at e5
    cases e5
    refine ⟨v, .ty U, .type T, .type U, b, rfl, .ty U, by rw [g.K]; exact tyx_rep (Z := Z.wf fb) hh1 r1 e2, by rw [e6, ← e4], p1.ok hh1 rfl⟩
  · exact False.elim p1
end
end
end Mp

end
section
set_option maxRecDepth 100000
set_option maxHeartbeats 4000000
namespace Mp
open PySem PySem.Spec PyProof.Rows L2
section
variable {P : Program} {w : World} {K : Type} [DecidableEq K] {kd : PySem.KeyKind P w K}
def SetQO (O : KO kd) (a : Addr) (ks : List K) : HO := .ext fun h => SetQ O h a ks
theorem setQO_new {O : KO kd} {H : Hp} {h : Heap} {a : Addr} {ks : List K} (R : SetQ O h a ks) : ObjOk P w H h a (SetQO O a ks) := by
  have ⟨o, _, _, _, ho, _⟩ := R
  exact ⟨R, ⟨o, ho⟩, fun h1 h2 p k => SetQ.at p k⟩
/-- a kind of keys as values of the small language -/
structure KW (kd : PySem.KeyKind P w K) where
  O : KO kd
  v : K → V
  e : K → PyData
  rel : ∀ {k u}, RelV (v k) u → kd.is k u = true
  back : ∀ {k u}, kd.is k u = true → RelV (v k) u
  reads : ∀ {h : Heap} {k u}, kd.is k u = true → ∃ as, Reads h u (e k) as
  al : ∀ a b, PySem.W.alike (e a) (e b) = true
  so : ∀ k, e k ≠ .none ∧ ∀ xs, e k ≠ .tuple xs
  dp : ∀ k, (e k).depth = 0
  an : ∀ a b, PySem.W.dataLe false e a b = true → PySem.W.dataLe false e b a = true → a = b
  tr : ∀ a b c, PySem.W.dataLe false e a b = true → PySem.W.dataLe false e b c = true → PySem.W.dataLe false e a c = true
  to : ∀ a b, (PySem.W.dataLe false e a b || PySem.W.dataLe false e b a) = true
def strKW (P : Program) (w : World) : KW (PySem.strKind P w) where
  O := { ko := fun v => match v with | .str x _ => x | _ => Str.empty
         eq := fun k v h => by obtain ⟨t, rfl⟩ := Value.isStrOf_shape h; rfl
         sc := fun k v h => by obtain ⟨t, rfl⟩ := Value.isStrOf_shape h; rfl }
  v := V.str
  e := PyData.str
  rel := fun {k u} h => by
    obtain ⟨t, rfl⟩ := h
    exact PySem.strKind_is P w k t
  back := fun {k u} h => Value.isStrOf_shape h
  reads := fun {h k u} q => by
    obtain ⟨t, rfl⟩ := Value.isStrOf_shape q
    exact ⟨[], .str k t⟩
  al := fun a b => rfl
  so := fun k => ⟨fun z => (by cases z), fun xs z => (by cases z)⟩
  dp := fun k => rfl
  an := fun a b h1 h2 => by
    rw [PySem.W.dataLe_str (fun x => x)] at h1 h2
    have e := List.le_antisymm (of_decide_eq_true h1) (of_decide_eq_true h2)
    cases a; cases b
    exact congrArg Str.mk (Array.ext' e)
  tr := fun a b c h1 h2 => by
    rw [PySem.W.dataLe_str (fun x => x)] at h1 h2 ⊢
    exact decide_eq_true (List.le_trans (of_decide_eq_true h1) (of_decide_eq_true h2))
  to := fun a b => by
    rw [PySem.W.dataLe_str (fun x => x), Bool.or_eq_true]
    exact (List.le_total a.cps.toList b.cps.toList).imp decide_eq_true decide_eq_true
def intKW (P : Program) (w : World) : KW (PySem.intKind P w) where
  O := { ko := fun v => match v with | .int x _ => x | _ => 0
         eq := fun k v h => by obtain ⟨t, rfl⟩ := Value.isInt_shape h; rfl
         sc := fun k v h => by obtain ⟨t, rfl⟩ := Value.isInt_shape h; rfl }
  v := V.int
  e := PyData.int
  rel := fun {k u} h => by
    obtain ⟨t, rfl⟩ := h
    exact PySem.intKind_is P w k t
  back := fun {k u} h => Value.isInt_shape h
  reads := fun {h k u} q => by
    obtain ⟨t, rfl⟩ := Value.isInt_shape q
    exact ⟨[], .int k t⟩
  al := fun a b => rfl
  so := fun k => ⟨fun z => (by cases z), fun xs z => (by cases z)⟩
  dp := fun k => rfl
  an := fun a b h1 h2 => by
    rw [PySem.W.dataLe_int (fun x => x)] at h1 h2
    have := of_decide_eq_true h1
    have := of_decide_eq_true h2
    omega
  tr := fun a b c h1 h2 => by
    rw [PySem.W.dataLe_int (fun x => x)] at h1 h2 ⊢
    have := of_decide_eq_true h1
    have := of_decide_eq_true h2
    exact decide_eq_true (by omega)
  to := fun a b => by
    rw [PySem.W.dataLe_int (fun x => x), Bool.or_eq_true, decide_eq_true_eq, decide_eq_true_eq]
    omega
theorem sortK_perm {M : KW kd} {as bs : List K} (p : as.Perm bs) : sortK M.e as = sortK M.e bs :=
  List.Perm.eq_of_pairwise (le := fun a b => PySem.W.dataLe false M.e a b = true) (fun a b _ _ h1 h2 => M.an a b h1 h2) (List.pairwise_mergeSort M.tr M.to as) (List.pairwise_mergeSort M.tr M.to bs)
    ((List.mergeSort_perm as _).trans (p.trans (List.mergeSort_perm bs _).symm))
theorem valsQ_at {M : KW kd} : ∀ {ks : List K} {its : List Value}, Vals (ks.map M.v) its → ∀ (i : Nat) (u : Value), its[i]? = some u → ∃ k, ks[i]? = some k ∧ kd.is k u = true
  | [], its, r, i, u, h => by
    cases r
    exact absurd h (by simp)
  | k :: ks, its, r, i, u, h => by
    cases r with
    | cons q qs =>
      cases i with
      | zero =>
        obtain rfl := Option.some.inj h
        exact ⟨k, rfl, M.rel q⟩
      | succ i => exact valsQ_at qs i u h
theorem eachQ_back {M : KW kd} : ∀ {ks : List K} {its : List Value}, PySem.W.EachIs (fun v k => kd.is k v = true) its ks → Vals (ks.map M.v) its
  | _, _, .nil => .nil
  | _, _, .cons h t => .cons (M.back h) (eachQ_back t)
theorem eachQ_self {M : KW kd} : ∀ {vs : List Value}, (∀ v ∈ vs, ∃ k, kd.is k v = true) → PySem.W.EachIs (fun v k => kd.is k v = true) vs (vs.map M.O.ko)
  | [], _ => .nil
  | v :: vs, h => by
    obtain ⟨k, hk⟩ := h v List.mem_cons_self
    refine .cons ?_ (eachQ_self fun u hu => h u (List.mem_cons_of_mem _ hu))
    show kd.is (M.O.ko v) v = true
    rw [M.O.eq k v hk]
    exact hk
end
section
variable {X : Cx} {K : Type} [DecidableEq K] {kd : PySem.KeyKind X.prog X.w K}
def rSetQ (M : KW kd) : List V → Hp → VK → Prop := fun xs H Q => ∃ (l : Addr) (ks : List K), xs = [.ref l] ∧ (SqL X.K H l (ks.map M.v) ∨ SqT X.K H l (ks.map M.v)) ∧ ks.length + 1 < scanBound ∧ ∀ p, H p = none → Q (.ref p) (upd H p (SetQO M.O p (uniqs ks)))
theorem cr_setQ (hc : X.calm = true) (M : KW kd) : CallR X (.type "set") (rSetQ M) := by
  intro pins s σ H xs us Q I r h
  obtain ⟨l, ks, rfl, hs, hb, q⟩ := h
  rw [Vals.ref1 r]
  have hn : H s.heap.objs.size = none := I.hok.fresh (Nat.le_refl _)
  rcases hs with hs | hs
  · obtain ⟨its, rv, pl, hz⟩ := I.list hs
    refine call_setQ_list M.O (ks := ks) (I.ok.hd hc) pl.isList (by rw [List.size_toArray, ← rv.length, List.length_map]) (fun i u e => valsQ_at rv i u (by simpa using e)) hb fun h' tk R k => ?_
    exact ⟨.ref s.heap.objs.size, upd H s.heap.objs.size (SetQO M.O s.heap.objs.size (uniqs ks)), I.laid (t' := tk) k (Nat.le_refl _) (setQO_new R), rfl, q _ hn⟩
  · obtain ⟨its, rv, pl, hz⟩ := I.tuple hs
    refine call_setQ_tuple M.O (ks := ks) (I.ok.hd hc) pl (by rw [List.size_toArray, ← rv.length, List.length_map]) (fun i u e => valsQ_at rv i u (by simpa using e)) hb fun h' tk R k => ?_
    exact ⟨.ref s.heap.objs.size, upd H s.heap.objs.size (SetQO M.O s.heap.objs.size (uniqs ks)), I.laid (t' := tk) k (Nat.le_refl _) (setQO_new R), rfl, q _ hn⟩
def rSortQ (M : KW kd) : List V → Hp → VK → Prop := fun xs H Q => ∃ (a : Addr) (ks : List K), xs = [.ref a] ∧ H a = some (SetQO M.O a ks) ∧ ∀ p, H p = none → Q (.ref p) (upd H p (.lst ((sortK M.e ks).map M.v)))
theorem cr_sortQ (hc : X.calm = true) (hu : X.A.units + 65 < cLine) (M : KW kd) : CallR X (.builtin "sorted") (rSortQ M) := by
  intro pins s σ H xs us Q I r h
  obtain ⟨a, ks, rfl, ha, q⟩ := h
  rw [Vals.ref1 r]
  have R : SetQ M.O s.heap a ks := (I.hok a _ ha).1
  obtain ⟨ob, es, ep, t, ho, hex, hd, g, pk, nd, hb, hf, hr, hl⟩ := R
  refine sorted_coll (R := fun v k => kd.is k v = true) (enc := M.e) (C := fun vs s1 => (∀ b o, s.heap.get? b = some o → s1.heap.get? b = some o) ∧ s.heap.objs.size ≤ s1.heap.objs.size ∧ s1.gens = s.gens ∧ s1.os = s.os ∧ vs.Perm (es.toList.map (·.2)))
    (fun q => collect_set (A := X.A.in1) (I.ok.hd hc) ⟨ob, ho, hex.1, hd⟩ hf hb hr hl fun s' out c1 c2 c3 c4 c5 => q _ _ ⟨c1, c2, c3, c4, c5⟩) fun vs s1 hC => ?_
  obtain ⟨c1, c2, c3, c4, c5⟩ := hC
  have ea : PySem.W.EachIs (fun v k => kd.is k v = true) vs (vs.map M.O.ko) := eachQ_self (M := M) fun v hv => by
    obtain ⟨e, he, z⟩ := List.mem_map.mp (c5.mem_iff.mp hv)
    obtain ⟨k, hk, _⟩ := g e he
    exact ⟨k, by rw [← z]; exact hk⟩
  have pm : (vs.map M.O.ko).Perm ks := by
    have z := c5.map M.O.ko
    rw [List.map_map] at z
    exact z.trans pk
  have hln : ks.length < scanBound := by
    rw [← pk.length_eq, List.length_map, Array.length_toList]
    exact hb
  have hls : (vs.map M.O.ko).length ≤ sizeLine := by
    rw [pm.length_eq, sizeLine_eq]
    unfold scanBound at hln
    omega
  refine ⟨vs.map M.O.ko, ea, ea.mono fun v k hk => M.reads hk, ?_, ?_, hls, fun k _ => by rw [M.dp]; omega, fun out h1 h2 => ?_⟩
  · intro d hd d' hd'
    obtain ⟨k, _, rfl⟩ := List.mem_map.mp hd
    obtain ⟨k', _, rfl⟩ := List.mem_map.mp hd'
    exact M.al k k'
  · refine .inr fun d hd => ?_
    obtain ⟨k, _, rfl⟩ := List.mem_map.mp hd
    exact M.so k
  · have es2 : (vs.map M.O.ko).mergeSort (PySem.W.dataLe false M.e) = sortK M.e ks := sortK_perm pm
    rw [es2] at h2
    have hv : Vals ((sortK M.e ks).map M.v) out := eachQ_back h2
    have hlen : ((sortK M.e ks).map M.v).length ≤ sizeLine := by rw [hv.length, h1]; exact hls
    have hoL : (s1.heap.push (seqObj "list" vs.toArray 0)).get? s1.heap.objs.size = some (seqObj "list" vs.toArray 0) := Heap.get?_push_size _ rfl
    obtain ⟨c, hc2⟩ := sortedHeap_at (vs := vs) (out := out.toArray) hoL
    have hn : H s1.heap.objs.size = none := I.hok.fresh c2
    have kp : ∀ b o, s.heap.get? b = some o → (sortedHeap (s1.heap.push (seqObj "list" vs.toArray 0)) s1.heap.objs.size vs out.toArray).get? b = some o := fun b o e => by
      have z := c1 b o e
      have lt := Heap.lt_size z
      rw [sortedHeap_old (Nat.ne_of_lt lt) (by rw [size_push']; exact Nat.lt_succ_of_lt lt)]
      exact Heap.get?_push_of_some _ z
    have J : Inv X pins σ (upd H s1.heap.objs.size (.lst ((sortK M.e ks).map M.v))) { s with heap := sortedHeap (s1.heap.push (seqObj "list" vs.toArray 0)) s1.heap.objs.size vs out.toArray, gens := s1.gens, drawn := s1.drawn, toks := s1.toks } :=
      I.call (ch := []) (Un.laid kp c2 hn) (I.hok.laid kp c2 ⟨hlen, out, c, hv, hc2⟩) (by rw [c3]; exact I.bare) (fun _ z => nomatch z)
    have e : { s1 with heap := sortedHeap (s1.heap.push (seqObj "list" vs.toArray 0)) s1.heap.objs.size vs out.toArray } = { s with heap := sortedHeap (s1.heap.push (seqObj "list" vs.toArray 0)) s1.heap.objs.size vs out.toArray, gens := s1.gens, drawn := s1.drawn, toks := s1.toks } := by
      cases s1
      cases s
      cases c4
      rfl
    rw [e]
    exact ⟨.ref _, _, J, rfl, q _ hn⟩
end
section
variable {Z : St0} {X : Cx} {H : Hp} {bx : List Addr} {h : HP}
/-- the two kinds keep apart what follows -/
def rSetA (X : Cx) : List V → Hp → VK → Prop := fun xs H Q => rSetQ (strKW X.prog X.w) xs H Q ∨ rSetQ (intKW X.prog X.w) xs H Q
def rSortA (X : Cx) : List V → Hp → VK → Prop := fun xs H Q => rSortQ (strKW X.prog X.w) xs H Q ∨ rSortQ (intKW X.prog X.w) xs H Q
theorem cr_setA (hc : X.calm = true) : CallR X (.type "set") (rSetA X) := fun pins s σ H xs us Q I r h => h.elim (cr_setQ hc _ pins s σ H xs us Q I r) (cr_setQ hc _ pins s σ H xs us Q I r)
theorem cr_sortA (hc : X.calm = true) (hu : X.A.units + 65 < cLine) : CallR X (.builtin "sorted") (rSortA X) := fun pins s σ H xs us Q I r h => h.elim (cr_sortQ hc hu _ pins s σ H xs us Q I r) (cr_sortQ hc hu _ pins s σ H xs us Q I r)
theorem strsQ_rep : ∀ (bs : List Str), RepL Z H bx (bs.map D.str) (bs.map V.str)
  | [] => rfl
  | b :: bs => ⟨_, _, rfl, rfl, strsQ_rep bs⟩
theorem intsQ_rep : ∀ (bs : List Int), RepL Z H bx (bs.map D.int) (bs.map V.int)
  | [] => rfl
  | b :: bs => ⟨_, _, rfl, rfl, intsQ_rep bs⟩
/-- the evaluator's reading of sorted(set(xs)) -/
theorem sortset_read {b : Bool} {xs : List V} {Q : VK} (hK : X.K = Z.K) (q : rL Z (evOp (.sortset b)) xs H Q) : rSetA X xs H fun x H1 => rSortA X [x] H1 Q := by
  obtain ⟨W, bx, ds, h, r, hr, p⟩ := q
  obtain ⟨a, us, ys, rfl, sq, hz, rr, p⟩ := onQ_read hr r p
  unfold evSortset at p
  obtain ⟨c, p⟩ := pst_ite p
  have hl2 : ys.length + 1 < scanBound := by
    have := of_decide_eq_true (p := ys.length < 4095) (by simpa using c)
    unfold scanBound
    omega
  have go : ∀ {K : Type} [DecidableEq K] {kd : PySem.KeyKind X.prog X.w K} (M : KW kd) (f : K → D) (zs : List K), (∀ (ks : List K) (H : Hp), RepL Z H bx (ks.map f) (ks.map M.v)) → us = zs.map M.v → ys.length = zs.length →
      Pst Z H bx W (RepS Z) (newL b ((sortK M.e (uniqs zs)).map f) h) Q → rSetQ M [.ref a] H fun x H1 => rSortQ M [x] H1 Q := fun M f zs hf hu hz2 p => by
    refine ⟨a, zs, rfl, by rw [hK, ← hu]; exact sq, by rw [← hz2]; exact hl2, fun p1 n1 => ⟨p1, uniqs zs, rfl, if_pos rfl, fun p2 n2 => ?_⟩⟩
    refine new_lst (heap_new hr _ n1) (hf _ _) ?_ (Pst.ext p (ext_new hr _ n1)) n2
    have u1 := uniqs_len zs
    rw [List.length_map, sizeLine_eq]
    unfold sortK
    rw [List.length_mergeSort]
    unfold scanBound at hl2
    omega
  split at p
  · rename_i zs hs
    obtain ⟨l, ks, e1, e2, e3, e4⟩ := go (strKW X.prog X.w) D.str zs (fun ks H => strsQ_rep ks) (strs_repL hs rr) (by rw [← rr.length, strs_repL hs rr, List.length_map]) p
    exact .inl ⟨l, ks, e1, e2, e3, fun p n => .inl (e4 p n)⟩
  · split at p
    · rename_i ns hs
      obtain ⟨l, ks, e1, e2, e3, e4⟩ := go (intKW X.prog X.w) D.int ns (fun ks H => intsQ_rep ks) (ints_repL hs rr) (by rw [← rr.length, ints_repL hs rr, List.length_map]) p
      exact .inr ⟨l, ks, e1, e2, e3, fun p n => .inr (e4 p n)⟩
    · exact False.elim p
end
end Mp

end
section
set_option maxRecDepth 100000
set_option maxHeartbeats 4000000
namespace Mp
open PySem PySem.Spec PyProof.Rows L2

/-- what an iterator walks -/
inductive Kd where
  | l (a : Addr) | t (a : Addr) | s (z : Str)
def Kd.val : Kd → V
  | .l a => .ref a
  | .t a => .ref a
  | .s z => .str z
def signsV (z : Str) : List V := z.cps.toList.map fun c => .str ⟨#[c]⟩
def Kd.on (K : PySem.W.Frag) (H : Hp) (xs : List V) : Kd → Prop
  | .l a => SqL K H a xs
  | .t a => SqT K H a xs
  | .s z => xs = signsV z
def Kd.st (t : Tok) (it : Addr) (i : Nat) (h : Heap) : Kd → Prop
  | .l a => h.IsListIter it a i
  | .t a => h.IsTupleIter it a i
  | .s z => h.IsStrIter it (strIterType z) z t i
def Kd.here (xs : List V) (h : Heap) : Kd → Prop
  | .l a => ∃ its : List Value, Vals xs its ∧ h.IsList a its.toArray
  | .t a => ∃ its : List Value, Vals xs its ∧ h.IsTuple a its.toArray
  | .s z => xs = signsV z
def Kd.cells : Kd → List Addr
  | .l a => [a]
  | .t a => [a]
  | .s _ => []
def Kd.obj (t : Tok) : Kd → Obj
  | .l a => { cls := .type "list_iterator", data := .fields #[.ref a, .int 0 0] }
  | .t a => { cls := .type "tuple_iterator", data := .fields #[.ref a, .int 0 0] }
  | .s z => { cls := .type (strIterType z), data := .fields #[.str z t, .int 0 0] }
def AtP (xs : List V) (i : Nat) (v : Value) : Prop := ∃ x, xs[i]? = some x ∧ RelV x v
theorem draws_mono {prog : Program} {w : World} {A : Around} {it : Addr} {fp : List Addr} {n : Nat} {P P' : Nat → Value → Prop} {St : Nat → Heap → Prop} (D : Draws prog w A it fp n P St) (f : ∀ i v, P i v → P' i v) : Draws prog w A it fp n P' St where
  live := D.live
  frame := D.frame
  item := fun i s Q E hi st hQ => D.item i s Q E hi st fun x h' tk p => hQ x h' tk (f i x p)
  done := D.done
theorem draws_st {prog : Program} {w : World} {A : Around} {it : Addr} {fp : List Addr} {n : Nat} {P : Nat → Value → Prop} {St St' : Nat → Heap → Prop} (D : Draws prog w A it fp n P St) (f : ∀ i h, St i h ↔ St' i h) : Draws prog w A it fp n P St' where
  live := fun i h s => D.live i h ((f i h).mpr s)
  frame := fun i h h' s k => (f i h').mp (D.frame i h h' ((f i h).mpr s) k)
  item := fun i s Q E hi st hQ => D.item i s Q E hi ((f i _).mpr st) fun x h' tk p q => hQ x h' tk p ((f _ _).mp q)
  done := fun s Q E st hE => D.done s Q E ((f _ _).mpr st) hE
theorem vals_at {xs : List V} {its : List Value} (r : Vals xs its) {i : Nat} {v : Value} (h : its.toArray[i]? = some v) : AtP xs i v := by
  have h : its[i]? = some v := by simpa using h
  have hl := r.length
  have hi : i < xs.length := by
    have := (List.getElem?_eq_some_iff.mp h).1
    omega
  obtain ⟨u, hu, ru⟩ := r.get (List.getElem?_eq_getElem hi)
  rw [hu] at h
  cases h
  exact ⟨_, List.getElem?_eq_getElem hi, ru⟩
theorem kd_draws {prog : Program} {w : World} {A : Around} (hh : A.handled = none) (t : Tok) (it : Addr) {xs : List V} {h : Heap} : ∀ (k : Kd), (it ∉ k.cells) → k.here xs h →
    ∃ St, Draws prog w A it (it :: k.cells) xs.length (AtP xs) St ∧ (∀ i h, St i h → k.st t it i h) ∧ (∀ i, k.st t it i h → St i h)
  | .l a, hne, hx => by
    obtain ⟨its, r, q⟩ := hx
    have l := r.length
    have D := Draws.list (prog := prog) (w := w) hh it a (fun e => hne (by simp [Kd.cells, e])) its.toArray
    rw [List.size_toArray, ← l] at D
    exact ⟨_, draws_mono D fun i v p => vals_at r p, fun i h s => s.1, fun i s => ⟨s, q⟩⟩
  | .t a, hne, hx => by
    obtain ⟨its, r, q⟩ := hx
    have l := r.length
    have D := Draws.tuple (prog := prog) (w := w) hh it a (fun e => hne (by simp [Kd.cells, e])) its.toArray
    rw [List.size_toArray, ← l] at D
    exact ⟨_, draws_mono D fun i v p => vals_at r p, fun i h s => s.1, fun i s => ⟨s, q⟩⟩
  | .s z, hne, hx => by
    have hx : xs = signsV z := hx
    have D := Draws.text (prog := prog) (w := w) hh it z t
    have l : xs.length = z.cps.size := by rw [hx]; simp [signsV]
    rw [← l] at D
    refine ⟨_, draws_mono D fun i v p => ?_, fun i h s => s, fun i s => s⟩
    obtain ⟨c, u, h1, rfl⟩ := p
    refine ⟨.str ⟨#[c]⟩, ?_, ⟨u, rfl⟩⟩
    rw [hx]
    simp [signsV, h1]
section
variable {X : Cx} {pins : List (Addr × Obj)} {σ : L2.St} {H : Hp} {s : Shared}
theorem kd_here (I : Inv X pins σ H s) {xs : List V} : ∀ {k : Kd}, k.on X.K H xs → k.here xs s.heap
  | .l a, h => by
    obtain ⟨its, r, p, _⟩ := I.list h
    exact ⟨its, r, p.isList⟩
  | .t a, h => by
    obtain ⟨its, r, p, _⟩ := I.tuple h
    exact ⟨its, r, p⟩
  | .s z, h => h
theorem kd_inj (I : Inv X pins σ H s) {xs ys : List V} : ∀ {k : Kd}, k.on X.K H xs → k.on X.K H ys → xs = ys
  | .l a, h, h' => I.list_inj h h'
  | .t a, h, h' => I.tuple_inj h h'
  | .s z, h, h' => by
    have h : xs = signsV z := h
    have h' : ys = signsV z := h'
    rw [h, h']
theorem kd_cls {xs : List V} {h : Heap} {k : Kd} (q : k.here xs h) {b : Addr} (m : b ∈ k.cells) : ∃ o, h.get? b = some o ∧ (o.cls = .type "list" ∨ o.cls = .type "tuple") := by
  cases k with
  | l a =>
    obtain ⟨its, r, o, e, c, d⟩ := q
    have : b = a := by simpa [Kd.cells] using m
    subst this
    exact ⟨o, e, .inl c⟩
  | t a =>
    obtain ⟨its, r, o, e, c, d⟩ := q
    have : b = a := by simpa [Kd.cells] using m
    subst this
    exact ⟨o, e, .inr c⟩
  | s z => exact absurd m (by simp [Kd.cells])
theorem st_cls {k : Kd} {t : Tok} {it : Addr} {i : Nat} {h : Heap} (q : k.st t it i h) : ∃ o vs, h.get? it = some o ∧ o.data = .fields vs ∧ ∃ n, o.cls = .type n ∧ n ≠ "list" ∧ n ≠ "tuple" ∧ n ≠ "enumerate" ∧ n ≠ "zip" := by
  cases k with
  | l a =>
    obtain ⟨o, e, c, d⟩ := q
    exact ⟨o, _, e, d, _, c, by decide, by decide, by decide, by decide⟩
  | t a =>
    obtain ⟨o, e, c, d⟩ := q
    exact ⟨o, _, e, d, _, c, by decide, by decide, by decide, by decide⟩
  | s z =>
    obtain ⟨o, e, c, d⟩ := q
    refine ⟨o, _, e, d, _, c, ?_⟩
    unfold strIterType
    split <;> exact ⟨by decide, by decide, by decide, by decide⟩
theorem st_at {k : Kd} {t : Tok} {it : Addr} {i : Nat} {h h' : Heap} (q : k.st t it i h) (f : ∀ o, h.get? it = some o → h'.get? it = some o) : k.st t it i h' := by
  cases k with
  | l a => exact Heap.IsListIter.at q f
  | t a => exact Heap.IsTupleIter.at q f
  | s z =>
    obtain ⟨o, e, r⟩ := q
    exact ⟨o, f o e, r⟩
theorem type_inj {a b : String} (h : Value.type a = Value.type b) : a = b := by
  injection h
theorem st_notin {k : Kd} {t : Tok} {it : Addr} {i : Nat} {xs : List V} {h : Heap} (q : k.st t it i h) {k2 : Kd} (r : k2.here xs h) : it ∉ k2.cells := fun m => by
  obtain ⟨o, vs, e, d, n, c, n1, n2, _⟩ := st_cls q
  obtain ⟨o2, e2, c2⟩ := kd_cls r m
  rw [e] at e2
  cases e2
  rw [c] at c2
  rcases c2 with c2 | c2
  · exact n1 (type_inj c2)
  · exact n2 (type_inj c2)

/-- what feeds a turn -/
def Feed (P : Program) (w : World) (K : PySem.W.Frag) (J : It) (I : Addr) (fx : List Addr) (tn : Nat → Heap → Prop) : Prop :=
  ∀ (X : Cx), X.prog = P → X.w = w → X.K = K → X.calm = true → ∀ (i : Nat) (pins : List (Addr × Obj)) (s : Shared) (σ : L2.St) (H : Hp), Inv X pins σ H s → tn i s.heap → (J.go i H ∨ J.stop i H) →
    ∃ (fp wr : List Addr) (n : Nat) (Pt : Nat → Array Value → Prop) (St : Nat → Heap → Prop) (Mid : Nat → Addr → Heap → Prop), WalksT P w X.A I fp wr n Pt St Mid ∧ (∀ b ∈ wr, b ∈ fx) ∧ St i s.heap ∧ (J.go i H → i < n) ∧ (J.stop i H → i = n) ∧ (∀ h, St (i + 1) h → tn (i + 1) h) ∧
      ∀ vals, J.go i H → Pt i vals → ∃ vs : List V, Vals vs vals.toList ∧ vs.length ≤ sizeLine ∧ ∀ T, H T = none → J.yld i H (.ref T) (upd H T (.tup vs))
theorem turn_feed {P : Program} {w : World} {K : PySem.W.Frag} {J : It} {I : Addr} {fx : List Addr} {tn : Nat → Heap → Prop} {elts : List Expr} {kk : Nat} {tpos : Pos} (mem : I ∈ fx) (obj : ∀ i h, tn i h → ∀ b ∈ fx, ∃ o, h.get? b = some o ∧ ∀ v, o.data ≠ .cell v)
    (keep : ∀ i h h', tn i h → (∀ b ∈ fx, ∀ o, h.get? b = some o → h'.get? b = some o) → tn i h') (self : ∀ (A : Around) (i : Nat) (s : Shared) (Q : Value → Shared → Prop) (E : Value → Shared → Prop), tn i s.heap → Q (.ref I) s → wpAny (model P w) A (pyIter (.ref I)) Q E s)
    (feed : Feed P w K J I fx tn) : Turn P w K (.Tuple elts kk tpos) J fx I tn where
  mem := mem
  obj := obj
  keep := keep
  item := by
    intro X hP hw hK hc i pins s σ H E I0 hf st hg
    obtain ⟨fp, wr, n, Pt, St, Mid, W, hsub, hs, h1, h2, h3, h4⟩ := feed X hP hw hK hc i pins s σ H I0 st (.inl hg)
    subst hP hw hK
    refine W.item i s _ _ (h1 hg) hs fun T vals h' tk pt hT isT mid kk' => ?_
    obtain ⟨vs, r, hl, y⟩ := h4 vals hg pt
    refine ⟨_, rfl, W.go elts kk tpos i T { s with heap := h', toks := tk } _ _ mid fun h'' st' kk'' => ?_⟩
    have hTw : T ∉ wr := W.apart _ _ _ mid
    have isT2 : h''.IsTuple T vals := by
      obtain ⟨o, e, c⟩ := isT
      exact ⟨o, kk'' T o hTw e, c⟩
    have new : ObjOk X.prog X.w (upd H T (.tup vs)) h'' T (.tup vs) := ⟨hl, vals.toList, r, by rw [Array.toArray_toList]; exact isT2⟩
    have I1 : Inv X pins σ (upd H T (.tup vs)) { s with heap := h'', toks := tk } := I0.turnedNew (ch := wr) (fun b ob hb q => kk'' b ob hb (kk' b ob hb q)) (fun b hb => hf b (hsub b hb)) hT new
    refine ⟨.ref T, _, I1, rfl, y T (I0.hok.fresh hT), h3 _ st', fun b hb => ?_⟩
    obtain ⟨o, e, _⟩ := obj i s.heap st b hb
    have hlt : b < s.heap.objs.size := Heap.lt_size e
    rw [upd_ne (Nat.ne_of_lt (Nat.lt_of_lt_of_le hlt hT))]
    exact (hf b hb).1
  done := by
    intro X hP hw hK hc i pins s σ H E I0 hf st hg
    obtain ⟨fp, wr, n, Pt, St, Mid, W, hsub, hs, h1, h2, h3, h4⟩ := feed X hP hw hK hc i pins s σ H I0 st (.inr hg)
    subst hP hw hK
    have e := h2 hg
    subst e
    exact W.done s _ _ hs fun h' tk kk' => ⟨rfl, I0.turnedL (ch := wr) (t' := tk) kk' fun b hb => hf b (hsub b hb)⟩
  self := self
end
/-- enumerate -/
def ItE (K : PySem.W.Frag) (k : Kd) : It :=
  ⟨fun i H => ∃ (xs : List V) (x : V), k.on K H xs ∧ xs[i]? = some x, fun i H v H' => ∃ T x, v = .ref T ∧ H T = none ∧ H' = upd H T (.tup [.int (i : Nat), x]) ∧ ∀ xs, k.on K H xs → xs[i]? = some x, fun i H => ∃ xs : List V, k.on K H xs ∧ i = xs.length⟩
theorem turn_enumK {P : Program} {w : World} {K : PySem.W.Frag} {elts : List Expr} {kk : Nat} {tpos : Pos} (k : Kd) (t : Tok) (e it : Addr) :
    Turn P w K (.Tuple elts kk tpos) (ItE K k) [e, it] e (fun i h => (∃ old, IsEnum h e it ((i : Nat) : Int) old) ∧ k.st t it i h) := by
  refine turn_feed (by simp) (fun i h st b hb => ?_) (fun i h h' st kp => ?_) (fun A i s Q E st h => let ⟨⟨_, he⟩, _⟩ := st; wpAny_pyIter_enum he h) ?_
  · obtain ⟨⟨old, he⟩, q⟩ := st
    have e' : b = e ∨ b = it := by simpa using hb
    rcases e' with z | z
    · rw [z]; exact ⟨_, he, fun v q => nomatch q⟩
    · obtain ⟨o, vs, e1, d, _⟩ := st_cls q
      rw [z]; exact ⟨o, e1, fun v q => by rw [d] at q; cases q⟩
  · obtain ⟨⟨old, he⟩, q⟩ := st
    exact ⟨⟨old, kp e (by simp) _ he⟩, st_at q fun o z => kp it (by simp) o z⟩
  · intro X hP hw hK hc i pins s σ H I st hg
    subst hP hw hK
    obtain ⟨⟨old, he⟩, q⟩ := st
    obtain ⟨xs, hon⟩ : ∃ xs, k.on X.K H xs := by
      rcases hg with ⟨xs, _, z, _⟩ | ⟨xs, z, _⟩
      · exact ⟨xs, z⟩
      · exact ⟨xs, z⟩
    have hh := kd_here I hon
    have hne : e ≠ it := fun z => by
      obtain ⟨o, vs, e1, d, n, c, _, _, n3, _⟩ := st_cls q
      rw [← z, he] at e1
      cases e1
      exact n3 (type_inj c).symm
    have hef : e ∉ it :: k.cells := fun m => by
      rcases List.mem_cons.mp m with z | z
      · exact hne z
      · obtain ⟨o2, e2, c2⟩ := kd_cls hh z
        rw [he] at e2
        cases e2
        rcases c2 with c2 | c2 <;> exact absurd (type_inj c2) (by decide)
    obtain ⟨St, D, f1, f2⟩ := kd_draws (prog := X.prog) (w := X.w) (A := X.A.in1) (I.ok.hd hc) t it k (st_notin q hh) hh
    refine ⟨_, _, _, _, _, _, WalksT.enumFrom 0 D e hne hef (by simp), fun b hb => hb, ⟨⟨old, by simpa using he⟩, f2 i q⟩, fun g => ?_, fun g => ?_, fun h z => ?_, fun vals g pt => ?_⟩
    · obtain ⟨ys, y, z, hy⟩ := g
      rw [kd_inj I z hon] at hy
      exact (List.getElem?_eq_some_iff.mp hy).1
    · obtain ⟨ys, z, hy⟩ := g
      rw [kd_inj I z hon] at hy
      exact hy
    · obtain ⟨⟨o, z1⟩, z2⟩ := z
      exact ⟨⟨o, by simpa using z1⟩, f1 _ _ z2⟩
    · obtain ⟨tk, x, ⟨y, h1, r⟩, rfl⟩ := pt
      refine ⟨[.int (i : Nat), y], .cons ⟨tk, by simp⟩ (.cons r .nil), (show 2 ≤ sizeLine by decide), fun T hT => ⟨T, y, rfl, hT, rfl, fun ys hy => by rw [kd_inj I hy hon]; exact h1⟩⟩
/-- zip of two -/
def ItZ (K : PySem.W.Frag) (a b : Kd) : It :=
  ⟨fun i H => ∃ (xs ys : List V) (x y : V), a.on K H xs ∧ b.on K H ys ∧ xs[i]? = some x ∧ ys[i]? = some y,
    fun i H v H' => ∃ T x y, v = .ref T ∧ H T = none ∧ H' = upd H T (.tup [x, y]) ∧ (∀ xs, a.on K H xs → xs[i]? = some x) ∧ ∀ ys, b.on K H ys → ys[i]? = some y,
    fun i H => ∃ xs ys : List V, a.on K H xs ∧ b.on K H ys ∧ i = min xs.length ys.length⟩
theorem pair_ne {h : Heap} {a b : Addr} {o o' : Obj} (h1 : h.get? a = some o) (h2 : h.get? b = some o') (n : o.cls ≠ o'.cls) : a ≠ b := fun e => by
  rw [e, h2] at h1
  cases h1
  exact n rfl
theorem zip_sepK {h : Heap} {a b : Kd} {t1 t2 : Tok} {z TI TO i1 i2 : Addr} {i : Nat} {xs ys : List V} {x0 y0 : Value} (hz : IsZip h z TI TO .none) (hTI : IsTupOf2 h TI (.ref i1) (.ref i2)) (hTO : IsTupOf2 h TO x0 y0) (s1 : a.st t1 i1 i h) (s2 : b.st t2 i2 i h) (n : TI ≠ TO ∧ i1 ≠ i2 ∧ TO ∉ a.cells ∧ TO ∉ b.cells)
    (q1 : a.here xs h) (q2 : b.here ys h) : ZipSep2 z TI TO i1 i2 (i1 :: a.cells) (i2 :: b.cells) := by
  obtain ⟨o1, v1, e1, d1, n1, c1, m1, m2, m3, m4⟩ := st_cls s1
  obtain ⟨o2, v2, e2, d2, n2, c2, k1, k2, k3, k4⟩ := st_cls s2
  have z1 : z ≠ i1 := pair_ne hz e1 fun q => m4 (type_inj (c1 ▸ q)).symm
  have z2 : z ≠ i2 := pair_ne hz e2 fun q => k4 (type_inj (c2 ▸ q)).symm
  have t1' : TO ≠ i1 := pair_ne hTO e1 fun q => m2 (type_inj (c1 ▸ q)).symm
  have t2' : TO ≠ i2 := pair_ne hTO e2 fun q => k2 (type_inj (c2 ▸ q)).symm
  have w1 : TI ≠ i1 := pair_ne hTI e1 fun q => m2 (type_inj (c1 ▸ q)).symm
  have w2 : TI ≠ i2 := pair_ne hTI e2 fun q => k2 (type_inj (c2 ▸ q)).symm
  have zc : ∀ {k : Kd} {us : List V}, k.here us h → z ∉ k.cells := fun q m => by
    obtain ⟨o3, e3, c3⟩ := kd_cls q m
    rw [hz] at e3
    cases e3
    rcases c3 with c3 | c3 <;> exact absurd (type_inj c3) (by decide)
  exact
    { TIz := pair_ne hTI hz (fun q => absurd (type_inj q) (by decide)), TOz := pair_ne hTO hz (fun q => absurd (type_inj q) (by decide)), TITO := n.1, TIi1 := w1, mem1 := by simp, zf1 := fun m => (List.mem_cons.mp m).elim z1 (zc q1), Tf1 := fun m => (List.mem_cons.mp m).elim t1' n.2.2.1,
      TIi2 := w2, mem2 := by simp, zf2 := fun m => (List.mem_cons.mp m).elim z2 (zc q2), Tf2 := fun m => (List.mem_cons.mp m).elim t2' n.2.2.2, sep1_2 := fun m => (List.mem_cons.mp m).elim n.2.1 (st_notin s1 q2), sep2_1 := fun m => (List.mem_cons.mp m).elim (fun e => n.2.1 e.symm) (st_notin s2 q1) }
theorem turn_zipK {P : Program} {w : World} {K : PySem.W.Frag} {elts : List Expr} {kk : Nat} {tpos : Pos} (a b : Kd) (t1 t2 : Tok) (z TI TO i1 i2 : Addr) (n : TI ≠ TO ∧ i1 ≠ i2 ∧ TO ∉ a.cells ∧ TO ∉ b.cells) :
    Turn P w K (.Tuple elts kk tpos) (ItZ K a b) [z, TI, TO, i1, i2] z (fun i h => IsZip h z TI TO .none ∧ IsTupOf2 h TI (.ref i1) (.ref i2) ∧ (∃ x y, IsTupOf2 h TO x y) ∧ a.st t1 i1 i h ∧ b.st t2 i2 i h) := by
  refine turn_feed (by simp) (fun i h st c hc => ?_) (fun i h h' st kp => ?_) (fun A i s Q E st h => wpAny_pyIter_zip st.1 h) ?_
  · obtain ⟨hz, hTI, ⟨x, y, hTO⟩, q1, q2⟩ := st
    obtain ⟨o1, v1, e1, d1, _⟩ := st_cls q1
    obtain ⟨o2, v2, e2, d2, _⟩ := st_cls q2
    have e' : c = z ∨ c = TI ∨ c = TO ∨ c = i1 ∨ c = i2 := by simpa using hc
    rcases e' with q | q | q | q | q
    · rw [q]; exact ⟨_, hz, fun v q => nomatch q⟩
    · rw [q]; exact ⟨_, hTI, fun v q => nomatch q⟩
    · rw [q]; exact ⟨_, hTO, fun v q => nomatch q⟩
    · rw [q]; exact ⟨o1, e1, fun v q => by rw [d1] at q; cases q⟩
    · rw [q]; exact ⟨o2, e2, fun v q => by rw [d2] at q; cases q⟩
  · obtain ⟨hz, hTI, ⟨x, y, hTO⟩, h1, h2⟩ := st
    exact ⟨kp z (by simp) _ hz, kp TI (by simp) _ hTI, ⟨x, y, kp TO (by simp) _ hTO⟩, st_at h1 fun o q => kp i1 (by simp) o q, st_at h2 fun o q => kp i2 (by simp) o q⟩
  · intro X hP hw hK hc i pins s σ H I st hg
    subst hP hw hK
    obtain ⟨hz, hTI, ⟨x0, y0, hTO⟩, q1, q2⟩ := st
    obtain ⟨xs, ys, ona, onb⟩ : ∃ xs ys, a.on X.K H xs ∧ b.on X.K H ys := by
      rcases hg with ⟨xs, ys, _, _, z1, z2, _⟩ | ⟨xs, ys, z1, z2, _⟩
      · exact ⟨xs, ys, z1, z2⟩
      · exact ⟨xs, ys, z1, z2⟩
    have h1 := kd_here I ona
    have h2 := kd_here I onb
    have S := zip_sepK hz hTI hTO q1 q2 n h1 h2
    obtain ⟨St1, D1, f1, f2⟩ := kd_draws (prog := X.prog) (w := X.w) (A := X.A.in1) (I.ok.hd hc) t1 i1 a (st_notin q1 h1) h1
    obtain ⟨St2, D2, g1, g2⟩ := kd_draws (prog := X.prog) (w := X.w) (A := X.A.in1) (I.ok.hd hc) t2 i2 b (st_notin q2 h2) h2
    refine ⟨_, _, _, _, _, _, WalksT.zipD2 S D1 D2, fun c hc => ?_, ⟨hz, hTI, ⟨_, _, hTO⟩, f2 i q1, g2 i q2⟩, fun g => ?_, fun g => ?_, fun h r => ?_, fun vals g pt => ?_⟩
    · have e' : c = z ∨ c = TO ∨ c = i1 ∨ c = i2 := by simpa using hc
      rcases e' with q | q | q | q <;> simp [q]
    · obtain ⟨us, vs, u, v, r1, r2, e1, e2⟩ := g
      rw [kd_inj I r1 ona] at e1
      rw [kd_inj I r2 onb] at e2
      have l1 := (List.getElem?_eq_some_iff.mp e1).1
      have l2 := (List.getElem?_eq_some_iff.mp e2).1
      omega
    · obtain ⟨us, vs, r1, r2, e1⟩ := g
      rw [kd_inj I r1 ona, kd_inj I r2 onb] at e1
      exact e1
    · exact ⟨r.1, r.2.1, r.2.2.1, f1 _ _ r.2.2.2.1, g1 _ _ r.2.2.2.2⟩
    · obtain ⟨v1, v2, ⟨u1, e1, r1⟩, ⟨u2, e2, r2⟩, rfl⟩ := pt
      exact ⟨[u1, u2],   .cons r1 (.cons r2 .nil), (show 2 ≤ sizeLine by decide), fun T hT => ⟨T, u1, u2, rfl, hT, rfl, fun zs hz => by rw [kd_inj I hz ona]; exact e1, fun zs hz => by rw [kd_inj I hz onb]; exact e2⟩⟩
theorem meets_enumerate_new1 {v : Value} {o : Obj} {H : Heap → Prop} (B : Begins v o H) :
    Meets (Builtin.«enumerate.__new__» ⟨[.type "enumerate", v], []⟩) (fun _ R s => H s.heap ∧
      R (.ok (.ret (.ref (s.heap.push o).objs.size))) { s with heap := (s.heap.push o).push { cls := .type "enumerate", data := .fields #[.none, .bool false, .ref s.heap.objs.size, rawInt 0, .none, .none] } }) :=
  .of_wp fun prog w A R s h => by
    obtain ⟨hp, g, d, tk, os⟩ := s
    obtain ⟨h1, h⟩ := h
    have hsub := sub_enumerate
    have q1 : ∀ {A' : Around} {E : Value → Shared → Prop} {Q : Value → Shared → Prop}, Q (.ref hp.objs.size) ⟨hp.push o, g, d, tk, os⟩ → wpAny (model prog w) A' (pyIter v) Q E ⟨hp, g, d, tk, os⟩ :=
      fun q => B.iter prog w _ _ ⟨hp, g, d, tk, os⟩ _ h1 q
    wp_walk using q1
    refine wpAny_stack_any fun st => wpAny_pure ?_
    split
    · rename_i c _ _ _ _ _
      cases (c == Value.type "enumerate")
      · wp_walk using q1
        exact ⟨_, rfl, h⟩
      · wp_walk using q1
        exact ⟨_, rfl, h⟩
    · wp_walk using q1
      exact ⟨_, rfl, h⟩
section
variable {prog : Program} {w : World} {A : Around} {E : Value → Shared → Prop} {s : Shared}
theorem enum_begins1 {v : Value} {o : Obj} {H : Heap → Prop} {Q : Value → Shared → Prop} (B : Begins v o H) (h1 : H s.heap)
    (h : ∀ h', IsEnum h' (s.heap.objs.size + 1) s.heap.objs.size 0 .none → h'.get? s.heap.objs.size = some o → h'.objs.size = s.heap.objs.size + 2 →
      (∀ b o, s.heap.get? b = some o → h'.get? b = some o) → Q (.ref (s.heap.objs.size + 1)) { s with heap := h' }) :
    wpAny (model prog w) A (call (.type "enumerate") [v]) Q E s := by
  refine callType_new F.called_enumerate (by decide) (F.typeCall_enumerate_1 _) (F.newCall_enumerate_1 _) (fun obj => F.args_object_init_2 obj _) F.entry_enumerate_new
    (meets_enumerate_new1 B) ⟨h1, ?_⟩
  have hz : (s.heap.push o).objs.size = s.heap.objs.size + 1 := Heap.size_push ..
  show _ ∧ _
  rw [hz]
  have he : IsEnum ((s.heap.push o).push { cls := .type "enumerate", data := .fields #[.none, .bool false, .ref s.heap.objs.size, rawInt 0, .none, .none] }) (s.heap.objs.size + 1) s.heap.objs.size 0 .none := by
    have := Heap.get?_push_size (s.heap.push o) (o := { cls := .type "enumerate", data := .fields #[.none, .bool false, .ref s.heap.objs.size, rawInt 0, .none, .none] }) rfl
    rw [hz] at this; exact this
  exact ⟨⟨_, he, rfl⟩, h _ he (Heap.get?_push_of_some _ (Heap.get?_push_size _ B.free)) (by rw [Heap.size_push, hz]) fun b o x => Heap.get?_push_of_some _ (Heap.get?_push_of_some _ x)⟩
end
theorem kd_begins {xs : List V} {h0 : Heap} : ∀ {k : Kd} {u : Value}, RelV k.val u → k.here xs h0 → ∃ t H, Begins u (k.obj t) H ∧ H h0
  | .l a, _, r, q => by
    cases r
    obtain ⟨its, _, q⟩ := q
    exact ⟨0, _, begins_list a its.toArray, q⟩
  | .t a, _, r, q => by
    cases r
    obtain ⟨its, _, q⟩ := q
    exact ⟨0, _, begins_tuple a its.toArray, q⟩
  | .s z, _, r, q => by
    obtain ⟨t, rfl⟩ := r
    exact ⟨t, _, begins_text z t, trivial⟩
theorem kd_st0 {k : Kd} {t : Tok} {it : Addr} {h : Heap} (e : h.get? it = some (k.obj t)) : k.st t it 0 h := by
  cases k with
  | l a => exact ⟨_, e, rfl, rfl⟩
  | t a => exact ⟨_, e, rfl, rfl⟩
  | s z => exact ⟨_, e, rfl, rfl⟩
/-- a value that is walked: how it is named -/
def iAny (K : PySem.W.Frag) (te : TE) : TI := fun σ H R => te σ H fun v H1 => ∃ (k : Kd) (xs : List V), v = k.val ∧ k.on K H1 xs ∧ (match k with
  | .l a => R (Itl K a) H1
  | .t a => R (Itt K a) H1
  | .s z => R (Its z) H1)
section
variable {X : Cx} {tg : Expr}
theorem pi_any {e : Expr} {te : TE} (he : PE X e te) : PI X tg e (iAny X.K te) := by
  refine ⟨fun pins s σ H R I h => ?_⟩
  refine thn (he.run pins s σ H _ I h) fun v s1 ⟨y, H1, I1, r1, k, xs, ey, on, q⟩ => ?_
  subst ey
  cases k with
  | l a =>
    cases r1
    obtain ⟨its, rv, p, hz⟩ := I1.list on
    exact wpAny_pyIter_list p.isList (pi_one (tk := s1.toks) I1 _ (turn_list a _) ⟨_, Heap.get?_push_size _ rfl, rfl, rfl⟩ q)
  | t a =>
    cases r1
    obtain ⟨its, rv, p, hz⟩ := I1.tuple on
    exact wpAny_pyIter_tuple (show s1.heap.IsTuple a its.toArray from p) (pi_one (tk := s1.toks) I1 _ (turn_tuple a _) ⟨_, Heap.get?_push_size _ rfl, rfl, rfl⟩ q)
  | s z =>
    obtain ⟨t, rfl⟩ := r1
    cases ha : z.cps.all (· < 128)
    · exact wpAny_pyIter_wide ha (pi_one (tk := s1.toks) I1 _ (turn_str _ z t "str_iterator" (.inr rfl)) ⟨_, Heap.get?_push_size _ rfl, rfl, rfl⟩ q)
    · exact wpAny_pyIter_ascii ha (pi_one (tk := s1.toks) I1 _ (turn_str _ z t "str_ascii_iterator" (.inl rfl)) ⟨_, Heap.get?_push_size _ rfl, rfl, rfl⟩ q)
def iEnumK (K : PySem.W.Frag) (ta : TA) : TI := fun σ H R => ta σ H fun vs H1 => ∃ (k : Kd) (xs : List V), vs = [k.val] ∧ k.on K H1 xs ∧ R (ItE K k) H1
theorem pi_enumK {e : Expr} {ta : TA} {p pos tpos : Pos} {elts : List Expr} {kk : Nat} (hg : Gl X "enumerate") (hm : X.mg "enumerate" = none) (ha : PA X [e] ta) (hs : starEach [e] X.env = [(false, eval e X.env)]) :
    PI X (.Tuple elts kk tpos) (.Call (.Name "enumerate" p) [e] [] pos) (iEnumK X.K ta) := by
  refine ⟨fun pins s σ H R I h => ?_⟩
  refine Call_ (ld_blt I hg hm boot_enumerate (PyProof.Rows.callWith_type1 (thn (ha.run pos pins s σ H _ I h) fun us s1 ⟨vs, H1, I1, r1, q1⟩ => ?_) hs rfl))
  obtain ⟨k, xs, ex, hq, q⟩ := q1
  subst ex
  cases r1 with
  | cons r rr =>
    cases rr
    obtain ⟨t, Hb, B, hb⟩ := kd_begins r (kd_here I1 hq)
    refine enum_begins1 B hb fun h' he hit hsz hk => wpAny_pyIter_enum he ?_
    have I2 : Inv X pins σ H1 { s1 with heap := h' } := I1.kept (t' := s1.toks) hk
    refine ⟨s1.heap.objs.size + 1, [s1.heap.objs.size + 1, s1.heap.objs.size], _, _, H1, rfl, I2, turn_enumK k t (s1.heap.objs.size + 1) s1.heap.objs.size, ⟨⟨.none, by simpa using he⟩, kd_st0 hit⟩, fun b hb => ?_, q⟩
    have e' : b = s1.heap.objs.size + 1 ∨ b = s1.heap.objs.size := by simpa using hb
    have hle : s1.heap.objs.size ≤ b := by
      rcases e' with z | z
      · rw [z]; exact Nat.le_add_right _ _
      · rw [z]; exact Nat.le_refl _
    exact I1.fpOk hle (I1.hok.fresh hle)
theorem kd_lt {k : Kd} {xs : List V} {h : Heap} (q : k.here xs h) {b : Addr} (m : b ∈ k.cells) : b < h.objs.size := by
  obtain ⟨o, e, _⟩ := kd_cls q m
  exact Heap.lt_size e
def iZipK (K : PySem.W.Frag) (ta : TA) : TI := fun σ H R => ta σ H fun vs H1 => ∃ (a b : Kd) (xs ys : List V), vs = [a.val, b.val] ∧ a.on K H1 xs ∧ b.on K H1 ys ∧ R (ItZ K a b) H1
theorem pi_zipK {e e2 : Expr} {ta : TA} {p pos tpos : Pos} {elts : List Expr} {kk : Nat} (hg : Gl X "zip") (hm : X.mg "zip" = none) (ha : PA X [e, e2] ta)
    (hs : starEach [e, e2] X.env = (false, eval e X.env) :: starEach [e2] X.env) (hpl : (backTo pos (starEach [e2] X.env)).any (·.1) = false) :
    PI X (.Tuple elts kk tpos) (.Call (.Name "zip" p) [e, e2] [] pos) (iZipK X.K ta) := by
  refine ⟨fun pins s σ H R I h => ?_⟩
  refine Call_ (ld_blt I hg hm PyProof.Rows.boot_zip (PyProof.Rows.callWith_type1 (thn (ha.run pos pins s σ H _ I h) fun us s1 ⟨vs, H1, I1, r1, q1⟩ => ?_) hs hpl))
  obtain ⟨a, b, xs, ys, ex, hqa, hqb, q⟩ := q1
  subst ex
  cases r1 with
  | cons r rr =>
    cases rr with
    | cons r' rr =>
      cases rr
      have q1 := kd_here I1 hqa
      have q2 := kd_here I1 hqb
      obtain ⟨t1, Hb1, B1, hb1⟩ := kd_begins r q1
      obtain ⟨t2, Hb2, B2, hb2⟩ := kd_begins r' q2
      refine zip_begins2 B1 B2 hb1 hb2 fun h' hz hTI hTO h1 h2 hsz hk => wpAny_pyIter_zip hz ?_
      have I2 : Inv X pins σ H1 { s1 with heap := h' } := I1.kept (t' := s1.toks) hk
      refine ⟨s1.heap.objs.size + 4, [s1.heap.objs.size + 4, s1.heap.objs.size + 2, s1.heap.objs.size + 3, s1.heap.objs.size, s1.heap.objs.size + 1], _, _, H1, rfl, I2, turn_zipK a b t1 t2 _ _ _ _ _ ⟨fun z => ?_, fun z => ?_, fun m => ?_, fun m => ?_⟩, ⟨hz, hTI, ⟨_, _, hTO⟩, kd_st0 h1, kd_st0 h2⟩, fun c hcm => ?_, q⟩
      · have : s1.heap.objs.size + 2 = s1.heap.objs.size + 3 := z
        omega
      · have : s1.heap.objs.size = s1.heap.objs.size + 1 := z
        omega
      · have : s1.heap.objs.size + 3 < s1.heap.objs.size := kd_lt q1 m
        omega
      · have : s1.heap.objs.size + 3 < s1.heap.objs.size := kd_lt q2 m
        omega
      · have e' : c = s1.heap.objs.size + 4 ∨ c = s1.heap.objs.size + 2 ∨ c = s1.heap.objs.size + 3 ∨ c = s1.heap.objs.size ∨ c = s1.heap.objs.size + 1 := by simpa using hcm
        have hle : s1.heap.objs.size ≤ c := by
          rcases e' with z | z | z | z | z
          · rw [z]; exact Nat.le_add_right _ _
          · rw [z]; exact Nat.le_add_right _ _
          · rw [z]; exact Nat.le_add_right _ _
          · rw [z]; exact Nat.le_refl _
          · rw [z]; exact Nat.le_add_right _ _
        exact I1.fpOk hle (I1.hok.fresh hle)
end
end Mp

end
section
set_option maxRecDepth 100000
set_option maxHeartbeats 4000000
namespace Mp
open PySem PySem.Spec PyProof.Rows L2

mutual
def Tg.slots : Tg → List Nat
  | .nm i => [i]
  | .tup ts => Tgs.slots ts
def Tgs.slots : Tgs → List Nat
  | .nil => []
  | .cons t r => Tg.slots t ++ Tgs.slots r
end
def Tgs.len : Tgs → Nat
  | .nil => 0
  | .cons _ r => r.len + 1
mutual
def gT (K : PySem.W.Frag) : Tg → TG
  | .nm i => gName i
  | .tup ts => gTup K ts.len (gTs K ts)
def gTs (K : PySem.W.Frag) : Tgs → TGs
  | .nil => gNil
  | .cons t r => gCons (gT K t) (gTs K r)
end
def plainG : Expr → Bool
  | .Name .. => true
  | .Tuple .. => true
  | _ => false
theorem assignEach_cons {e : Expr} {es : List Expr} {env : PySem.Env} (h : plainG e = true) : assignEach (e :: es) env = (false, assign e env) :: assignEach es env := by
  cases e <;> first | rfl | exact Bool.noConfusion (show false = true from h)
mutual
/-- the text's target is t -/
def chkT (cc : CC) : Tg → Expr → Bool
  | .nm i, e => match e with
    | .Name x _ => decide (cc.N[i]? = some x) && (decide (cc.sc.names.lookup x = some .local) || (decide (cc.sc.names.lookup x = some .cell) && cc.fn x))
    | _ => false
  | .tup ts, e => match e with
    | .Tuple es _ _ => chkTs cc ts es
    | _ => false
def chkTs (cc : CC) : Tgs → List Expr → Bool
  | .nil, es => match es with
    | [] => true
    | _ => false
  | .cons t r, es => match es with
    | [] => false
    | e :: es => chkT cc t e && chkTs cc r es
end
section
variable {G : Tab} {Z : St0} {cf : Fns} {k : Nat} {cc : CC} {X : Cx} {pos : Pos}
theorem chkT_plain {t : Tg} {e : Expr} (h : chkT cc t e = true) : plainG e = true := by
  cases t with
  | nm i =>
    unfold chkT at h
    cases e <;> first | rfl | exact Bool.noConfusion (show false = true from h)
  | tup ts =>
    unfold chkT at h
    cases e <;> first | rfl | exact Bool.noConfusion (show false = true from h)
theorem chkTs_len (env : PySem.Env) : ∀ {ts : Tgs} {es : List Expr}, chkTs cc ts es = true → (assignEach es env).length = ts.len ∧ (assignEach es env).findIdx? (·.1) = none
  | .nil, es, h => by
    unfold chkTs at h
    cases es with
    | nil => exact ⟨rfl, rfl⟩
    | cons e r => exact Bool.noConfusion (show false = true from h)
  | .cons t r, es, h => by
    unfold chkTs at h
    cases es with
    | nil => exact Bool.noConfusion (show false = true from h)
    | cons e es =>
      have h : (chkT cc t e && chkTs cc r es) = true := h
      rw [Bool.and_eq_true] at h
      obtain ⟨h1, h2⟩ := chkTs_len env h.2
      rw [assignEach_cons (chkT_plain h.1)]
      refine ⟨by rw [List.length_cons, h1]; rfl, ?_⟩
      rw [List.findIdx?_cons]
      simp [h2]
mutual
theorem pg_tg (g : Good G Z cf k cc X) : ∀ {t : Tg} {e : Expr}, chkT cc t e = true → PG X e (gT X.K t)
  | .nm i, e, h => by
    unfold chkT at h
    cases e <;> first | exact Bool.noConfusion (show false = true from h) | skip
    rename_i x p
    simp only [Bool.and_eq_true, decide_eq_true_eq, Bool.or_eq_true] at h
    refine pg_name (by rw [g.N]; exact g.nd) (by rw [g.N]; exact h.1) ?_ ?_
    · unfold L2.Loc
      rw [g.sc]
      exact h.2.imp id fun z => z.1
    · rw [g.sc, g.fn]
      exact (h.2.imp id fun z => z.2).symm
  | .tup ts, e, h => by
    unfold chkT at h
    cases e <;> first | exact Bool.noConfusion (show false = true from h) | skip
    rename_i es kk p
    obtain ⟨h1, h2⟩ := chkTs_len (cc := cc) X.env h
    exact pg_tup g.calm (pgs_tg g h) h1 h2
theorem pgs_tg (g : Good G Z cf k cc X) : ∀ {ts : Tgs} {es : List Expr}, chkTs cc ts es = true → PGs X es (gTs X.K ts)
  | .nil, es, h => by
    unfold chkTs at h
    cases es with
    | nil => exact pgs_nil
    | cons e r => exact Bool.noConfusion (show false = true from h)
  | .cons t r, es, h => by
    unfold chkTs at h
    cases es with
    | nil => exact Bool.noConfusion (show false = true from h)
    | cons e es =>
      have h : (chkT cc t e && chkTs cc r es) = true := h
      rw [Bool.and_eq_true] at h
      refine pgs_cons (pg_tg g h.1) (pgs_tg g h.2) ?_
      rw [assignEach_cons (chkT_plain h.1)]
      rfl
end
mutual
theorem gT_of {H : Hp} {bx : List Addr} (hK : X.K = Z.K) : ∀ {t : Tg} {d : D} {v : V} {env env' : Env} {σ : L2.St} {Q : L2.St → Hp → Prop}, EnvR Z H bx σ env → Rep Z H bx d v → setTg t d env = some env' →
    (∀ σ', EnvR Z H bx σ' env' → σ'.length = σ.length → (∀ j, j ∉ t.slots → σ'[j]? = σ[j]?) → Q σ' H) → gT X.K t v σ H Q
  | .nm i, d, v, env, env', σ, Q, he, r, e, q => by
    unfold setTg at e
    cases e
    exact q _ (he.set r) (by simp) fun j hj => List.getElem?_set_ne (fun z => hj (by simp [Tg.slots, z]))
  | .tup ts, d, v, env, env', σ, Q, he, r, e, q => by
    unfold setTg at e
    cases d <;> first | exact nomatch (show none = some env' from e) | skip
    rename_i ds
    obtain ⟨a, vs, rfl, f, rr⟩ := r
    have e : setTgs ts ds env = some env' := e
    refine ⟨a, vs, rfl, by rw [hK]; exact f.sq, ?_, gTs_of hK he rr e q⟩
    rw [rr.length]
    exact setTgs_len e
theorem gTs_of {H : Hp} {bx : List Addr} (hK : X.K = Z.K) : ∀ {ts : Tgs} {ds : List D} {vs : List V} {env env' : Env} {σ : L2.St} {Q : L2.St → Hp → Prop}, EnvR Z H bx σ env → RepL Z H bx ds vs → setTgs ts ds env = some env' →
    (∀ σ', EnvR Z H bx σ' env' → σ'.length = σ.length → (∀ j, j ∉ ts.slots → σ'[j]? = σ[j]?) → Q σ' H) → gTs X.K ts vs σ H Q
  | .nil, ds, vs, env, env', σ, Q, he, r, e, q => by
    unfold setTgs at e
    cases ds with
    | nil =>
      have r : vs = [] := r
      cases e
      exact ⟨r, q σ he rfl fun _ _ => rfl⟩
    | cons d ds => exact nomatch (show none = some env' from e)
  | .cons t rt, ds, vs, env, env', σ, Q, he, r, e, q => by
    unfold setTgs at e
    cases ds with
    | nil => exact nomatch (show none = some env' from e)
    | cons d ds =>
      obtain ⟨v, vr, rfl, r1, r2⟩ := r
      dsimp only at e
      cases e1 : setTg t d env with
      | none => rw [e1] at e; exact nomatch (show none = some env' from e)
      | some env1 =>
        rw [e1] at e
        have e : setTgs rt ds env1 = some env' := e
        refine ⟨v, vr, rfl, gT_of hK he r1 e1 fun σ1 he1 l1 k1 => gTs_of hK he1 r2 e fun σ2 he2 l2 k2 => q σ2 he2 (l2.trans l1) fun j hj => ?_⟩
        have hj : j ∉ t.slots ++ rt.slots := hj
        rw [List.mem_append, not_or] at hj
        rw [k2 j hj.2, k1 j hj.1]
theorem setTgs_len : ∀ {ts : Tgs} {ds : List D} {env env' : Env}, setTgs ts ds env = some env' → ds.length = ts.len
  | .nil, ds, env, env', e => by
    unfold setTgs at e
    cases ds with
    | nil => rfl
    | cons d ds => exact nomatch (show none = some env' from e)
  | .cons t rt, ds, env, env', e => by
    unfold setTgs at e
    cases ds with
    | nil => exact nomatch (show none = some env' from e)
    | cons d ds =>
      dsimp only at e
      cases e1 : setTg t d env with
      | none => rw [e1] at e; exact nomatch (show none = some env' from e)
      | some env1 =>
        rw [e1] at e
        have := setTgs_len (ts := rt) (ds := ds) (env := env1) (env' := env') e
        simp [this, Tgs.len]
end
/-- a tuple just made that is only taken apart -/
def YT (Z : St0) (H : Hp) (bx : List Addr) (d : D) (v : V) : Prop := ∃ ds vs a, d = .tup ds ∧ v = .ref a ∧ SqT Z.K H a vs ∧ RepL Z H bx ds vs
def YRep (Z : St0) (pl : Bool) (H : Hp) (bx : List Addr) (d : D) (v : V) : Prop := Rep Z H bx d v ∨ (pl = false ∧ YT Z H bx d v)
def isTupG : Tg → Bool
  | .nm _ => false
  | .tup _ => true
def isTupE : Expr → Bool
  | .Tuple .. => true
  | _ => false
theorem chkT_tup {cc : CC} {t : Tg} {e : Expr} (h : chkT cc t e = true) (q : isTupE e = true) : isTupG t = true := by
  cases t with
  | nm i =>
    unfold chkT at h
    cases e <;> first | exact Bool.noConfusion (show false = true from h) | exact Bool.noConfusion (show false = true from q)
  | tup ts => rfl
theorem gT_y {H : Hp} {bx : List Addr} {pl : Bool} (hK : X.K = Z.K) {t : Tg} {d : D} {v : V} {env env' : Env} {σ : L2.St} {Q : L2.St → Hp → Prop} (he : EnvR Z H bx σ env) (r : YRep Z pl H bx d v) (hp : pl = true ∨ isTupG t = true) (e : setTg t d env = some env')
    (q : ∀ σ', EnvR Z H bx σ' env' → σ'.length = σ.length → (∀ j, j ∉ t.slots → σ'[j]? = σ[j]?) → Q σ' H) : gT X.K t v σ H Q := by
  rcases r with r | ⟨r0, ds, vs, a, rfl, rfl, sq, rr⟩
  · exact gT_of hK he r e q
  · cases t with
    | nm i =>
      rw [r0] at hp
      rcases hp with z | z <;> exact Bool.noConfusion z
    | tup ts =>
      unfold setTg at e
      have e : setTgs ts ds env = some env' := e
      exact ⟨a, vs, rfl, by rw [hK]; exact sq, by rw [rr.length]; exact setTgs_len (X := X) (Z := Z) e, gTs_of hK he rr e q⟩
theorem wipe_eq {σ σ' : L2.St} {vs : List Nat} (l : σ'.length = σ.length) (h : ∀ j, j ∉ vs → σ'[j]? = (wipe σ vs)[j]?) : wipe σ' vs = wipe σ vs := by
  have key : ∀ {τ : L2.St} {us : List Nat} {j : Nat}, j ∈ us → j < τ.length → (wipe τ us)[j]? = some none := by
    intro τ us
    induction us with
    | nil => intro j m; exact absurd m (by simp)
    | cons u us ih =>
      intro j m hl
      unfold wipe
      by_cases e : u = j
      · subst e
        rw [List.getElem?_set_self (by rw [wipe_length]; exact hl)]
      · rw [List.getElem?_set_ne e]
        exact ih ((List.mem_cons.mp m).resolve_left fun z => e z.symm) hl
  refine List.ext_getElem? fun j => ?_
  by_cases m : j ∈ vs
  · by_cases hl : j < σ.length
    · rw [key m hl, key m (by rw [l]; exact hl)]
    · rw [List.getElem?_eq_none (by rw [wipe_length]; omega), List.getElem?_eq_none (by rw [wipe_length]; omega)]
  · rw [wipe_out m, h j m]
end

mutual
theorem Rep.drop {Z : St0} {H : Hp} {bx : List Addr} {D0 : Addr} {fb : List Addr} : ∀ (d : D) {v : V}, Rep (Z.wf (D0 :: fb)) H bx d v → Rep (Z.wf fb) H bx d v
  | .non, _, h => h
  | .bl _, _, h => h
  | .int _, _, h => h
  | .str _, _, h => h
  | .tup xs, _, h => by
    obtain ⟨a, vs, q, f, r⟩ := h
    exact ⟨a, vs, q, ⟨f.1, f.2.imp (fun ⟨o, z1, z2, z3, z4⟩ => ⟨o, z1, z2, z3, fun m => z4 (List.mem_cons_of_mem _ m)⟩) id⟩, RepL.drop' xs r⟩
  | .lst xs, _, h => by
    obtain ⟨a, vs, q, f, r⟩ := h
    exact ⟨a, vs, q, ⟨f.1, f.2.imp (fun z => ⟨z.1, z.2.1, fun m => z.2.2 (List.mem_cons_of_mem _ m)⟩) id⟩, RepL.drop' xs r⟩
  | .box n, _, h => h
  | .obj c xs, _, h => by
    obtain ⟨a, dx, vs, q, h1, h2, n1, n2, r⟩ := h
    exact ⟨a, dx, vs, q, h1, h2, ⟨n1.1, fun m => n1.2 (List.mem_cons_of_mem _ m)⟩, ⟨n2.1, fun m => n2.2 (List.mem_cons_of_mem _ m)⟩, RepL.drop' xs r⟩
theorem RepL.drop' {Z : St0} {H : Hp} {bx : List Addr} {D0 : Addr} {fb : List Addr} : ∀ (ds : List D) {vs : List V}, RepL (Z.wf (D0 :: fb)) H bx ds vs → RepL (Z.wf fb) H bx ds vs
  | [], _, h => h
  | x :: xs, _, h => by
    obtain ⟨v, r, q, h1, h2⟩ := h
    exact ⟨v, r, q, Rep.drop x h1, RepL.drop' xs h2⟩
end
mutual
theorem Rep.add {Z : St0} {H : Hp} {bx : List Addr} {D0 : Addr} {fb : List Addr} (n : H D0 = none) : ∀ (d : D) {v : V}, Rep (Z.wf fb) H bx d v → Rep (Z.wf (D0 :: fb)) H bx d v
  | .non, _, h => h
  | .bl _, _, h => h
  | .int _, _, h => h
  | .str _, _, h => h
  | .tup xs, _, h => by
    obtain ⟨a, vs, q, f, r⟩ := h
    refine ⟨a, vs, q, ⟨f.1, f.2.imp (fun ⟨o, z1, z2, z3, z4⟩ => ⟨o, z1, z2, z3, fun m => ?_⟩) id⟩, RepL.add n xs r⟩
    rcases List.mem_cons.mp m with e | m
    · rw [e, n] at z1
      cases z1
    · exact z4 m
  | .lst xs, _, h => by
    obtain ⟨a, vs, q, f, r⟩ := h
    refine ⟨a, vs, q, ⟨f.1, f.2.imp (fun z => ⟨z.1, z.2.1, fun m => ?_⟩) id⟩, RepL.add n xs r⟩
    rcases List.mem_cons.mp m with e | m
    · have z1 := z.1
      rw [e] at z1
      rcases z1 with z1 | ⟨o, z1⟩ <;> (rw [n] at z1; cases z1)
    · exact z.2.2 m
  | .box _, _, h => h
  | .obj c xs, _, h => by
    obtain ⟨a, dx, vs, q, h1, h2, n1, n2, r⟩ := h
    refine ⟨a, dx, vs, q, h1, h2, ⟨n1.1, fun m => ?_⟩, ⟨n2.1, fun m => ?_⟩, RepL.add n xs r⟩
    · rcases List.mem_cons.mp m with e | m
      · rw [e, n] at h1; cases h1
      · exact n1.2 m
    · rcases List.mem_cons.mp m with e | m
      · rw [e, n] at h2; cases h2
      · exact n2.2 m
theorem RepL.add {Z : St0} {H : Hp} {bx : List Addr} {D0 : Addr} {fb : List Addr} (n : H D0 = none) : ∀ (ds : List D) {vs : List V}, RepL (Z.wf fb) H bx ds vs → RepL (Z.wf (D0 :: fb)) H bx ds vs
  | [], _, h => h
  | x :: xs, _, h => by
    obtain ⟨v, r, q, h1, h2⟩ := h
    exact ⟨v, r, q, Rep.add n x h1, RepL.add n xs h2⟩
end
mutual
/-- a list in the making is written -/
theorem Rep.upd {Z : St0} {H : Hp} {bx : List Addr} {D0 : Addr} {u : HO} (m : D0 ∈ Z.fb) : ∀ (d : D) {v : V}, Rep Z H bx d v → Rep Z (L2.upd H D0 u) bx d v
  | .non, _, h => h
  | .bl _, _, h => h
  | .int _, _, h => h
  | .str _, _, h => h
  | .tup xs, _, h => by
    obtain ⟨a, vs, q, f, r⟩ := h
    refine ⟨a, vs, q, ⟨f.1, f.2.imp (fun ⟨o, z1, z2, z3, z4⟩ => ⟨o, ?_, z2, z3, z4⟩) id⟩, RepL.upd m xs r⟩
    have ne : a ≠ D0 := fun e => z4 (by rw [e]; exact m)
    rw [upd_ne ne]
    exact z1
  | .lst xs, _, h => by
    obtain ⟨a, vs, q, f, r⟩ := h
    refine ⟨a, vs, q, ⟨f.1, f.2.imp (fun z => ⟨?_, z.2⟩) id⟩, RepL.upd m xs r⟩
    have ne : a ≠ D0 := fun e => z.2.2 (e ▸ m)
    rcases z.1 with z1 | ⟨o, z1⟩
    · exact .inl (by rw [upd_ne ne]; exact z1)
    · exact .inr ⟨o, by rw [upd_ne ne]; exact z1⟩
  | .box _, _, h => h
  | .obj c xs, _, h => by
    obtain ⟨a, dx, vs, q, h1, h2, n1, n2, r⟩ := h
    have ne1 : a ≠ D0 := fun e => n1.2 (e ▸ m)
    have ne2 : dx ≠ D0 := fun e => n2.2 (e ▸ m)
    exact ⟨a, dx, vs, q, by rw [upd_ne ne1]; exact h1, by rw [upd_ne ne2]; exact h2, n1, n2, RepL.upd m xs r⟩
theorem RepL.upd {Z : St0} {H : Hp} {bx : List Addr} {D0 : Addr} {u : HO} (m : D0 ∈ Z.fb) : ∀ (ds : List D) {vs : List V}, RepL Z H bx ds vs → RepL Z (L2.upd H D0 u) bx ds vs
  | [], _, h => h
  | x :: xs, _, h => by
    obtain ⟨v, r, q, h1, h2⟩ := h
    exact ⟨v, r, q, Rep.upd m x h1, RepL.upd m xs h2⟩
end
mutual
/-- the finished list becomes a box -/
theorem Rep.boxed {Z : St0} {H : Hp} {bx : List Addr} {D0 : Addr} {fb : List Addr} : ∀ (d : D) {v : V}, Rep (Z.wf (D0 :: fb)) H bx d v → Rep (Z.wf fb) H (bx ++ [D0]) d v
  | .non, _, h => h
  | .bl _, _, h => h
  | .int _, _, h => h
  | .str _, _, h => h
  | .tup xs, _, h => by
    obtain ⟨a, vs, q, f, r⟩ := h
    refine ⟨a, vs, q, ⟨f.1, f.2.imp (fun ⟨o, z1, z2, z3, z4⟩ => ⟨o, z1, z2, fun m => ?_, fun m => z4 (List.mem_cons_of_mem _ m)⟩) id⟩, RepL.boxed xs r⟩
    rcases List.mem_append.mp m with m | m
    · exact z3 m
    · exact z4 (by simp [List.mem_singleton.mp m])
  | .lst xs, _, h => by
    obtain ⟨a, vs, q, f, r⟩ := h
    refine ⟨a, vs, q, ⟨f.1, f.2.imp (fun z => ⟨z.1, fun m => ?_, fun m => z.2.2 (List.mem_cons_of_mem _ m)⟩) id⟩, RepL.boxed xs r⟩
    rcases List.mem_append.mp m with m | m
    · exact z.2.1 m
    · exact z.2.2 (by simp [List.mem_singleton.mp m])
  | .box n, _, h => by
    obtain ⟨a, q, e⟩ := h
    refine ⟨a, q, ?_⟩
    rw [List.getElem?_append_left (List.getElem?_eq_some_iff.mp e).1]
    exact e
  | .obj c xs, _, h => by
    obtain ⟨a, dx, vs, q, h1, h2, n1, n2, r⟩ := h
    refine ⟨a, dx, vs, q, h1, h2, ⟨fun m => ?_, fun m => n1.2 (List.mem_cons_of_mem _ m)⟩, ⟨fun m => ?_, fun m => n2.2 (List.mem_cons_of_mem _ m)⟩, RepL.boxed xs r⟩
    · rcases List.mem_append.mp m with m | m
      · exact n1.1 m
      · exact n1.2 (by simp [List.mem_singleton.mp m])
    · rcases List.mem_append.mp m with m | m
      · exact n2.1 m
      · exact n2.2 (by simp [List.mem_singleton.mp m])
theorem RepL.boxed {Z : St0} {H : Hp} {bx : List Addr} {D0 : Addr} {fb : List Addr} : ∀ (ds : List D) {vs : List V}, RepL (Z.wf (D0 :: fb)) H bx ds vs → RepL (Z.wf fb) H (bx ++ [D0]) ds vs
  | [], _, h => h
  | x :: xs, _, h => by
    obtain ⟨v, r, q, h1, h2⟩ := h
    exact ⟨v, r, q, Rep.boxed x h1, RepL.boxed xs h2⟩
end
/-- a map of representations carries over to what stands in a box -/
theorem BRep.map {Z Z' : St0} {H H' : Hp} {bx bx' : List Addr} (f : ∀ d v, Rep Z H bx d v → Rep Z' H' bx' d v) (fl : ∀ ds vs, RepL Z H bx ds vs → RepL Z' H' bx' ds vs) {o : BO} {u : Option HO} (h : BRep Z H bx o u) : BRep Z' H' bx' o u := by
  cases o with
  | lst xs =>
    obtain ⟨vs, q, z, r⟩ := h
    exact ⟨vs, q, z, fl _ _ r⟩
  | dK kvs =>
    obtain ⟨vs, q, z, r⟩ := h
    exact ⟨vs, q, z, r.imp f⟩
  | dT kvs =>
    obtain ⟨vs, q, z, r⟩ := h
    exact ⟨vs, q, z, r.imp f⟩
section
variable {Z : St0} {H : Hp} {bx : List Addr} {h : HP} {D0 : Addr} {fb : List Addr} {σ : L2.St} {env : Env}
theorem HeapR.drop (R : HeapR (Z.wf (D0 :: fb)) H bx h) : HeapR (Z.wf fb) H bx h where
  nd := R.nd
  fbt := fun a m => R.fbt a (List.mem_cons_of_mem _ m)
  fbb := fun a m => R.fbb a (List.mem_cons_of_mem _ m)
  len := R.len
  at_ := fun n a o h1 h2 => (R.at_ n a o h1 h2).map (fun d v => Rep.drop d) fun ds vs => RepL.drop' ds
/-- a list begins to be made -/
theorem HeapR.start (R : HeapR (Z.wf fb) H bx h) (n : H D0 = none) (u : HO) : HeapR (Z.wf (D0 :: fb)) (L2.upd H D0 u) bx h where
  nd := R.nd
  fbt := fun a m => by
    rcases List.mem_cons.mp m with e | m
    · rw [e, upd_same]; simp
    · exact (ext_new R u n).there a (R.fbt a m)
  fbb := fun a m => by
    rcases List.mem_cons.mp m with e | m
    · rw [e]; exact R.free n
    · exact R.fbb a m
  len := R.len
  at_ := fun i a o h1 h2 => by
    have ne : a ≠ D0 := fun e => R.free n (e ▸ List.mem_of_getElem? h1)
    rw [upd_ne ne]
    exact (R.at_ i a o h1 h2).map (fun d v r => Rep.upd (Z := Z.wf (D0 :: fb)) (List.mem_cons_self ..) d (Rep.add n d r)) fun ds vs r => RepL.upd (Z := Z.wf (D0 :: fb)) (List.mem_cons_self ..) ds (RepL.add n ds r)
theorem HeapR.upd (R : HeapR Z H bx h) (m : D0 ∈ Z.fb) (u : HO) : HeapR Z (L2.upd H D0 u) bx h where
  nd := R.nd
  fbt := fun a q => by
    by_cases e : a = D0
    · rw [e, upd_same]; simp
    · rw [upd_ne e]; exact R.fbt a q
  fbb := R.fbb
  len := R.len
  at_ := fun i a o h1 h2 => by
    have ne : a ≠ D0 := fun e => R.fbb D0 m (e ▸ List.mem_of_getElem? h1)
    rw [upd_ne ne]
    exact (R.at_ i a o h1 h2).map (fun d v r => Rep.upd m d r) fun ds vs r => RepL.upd m ds r
theorem HeapR.boxed {xs : List D} {vs : List V} (R : HeapR (Z.wf (D0 :: fb)) H bx h) (nf : D0 ∉ fb) (e : H D0 = some (.lst vs)) (hl : vs.length ≤ sizeLine) (r : RepL (Z.wf (D0 :: fb)) H bx xs vs) : HeapR (Z.wf fb) H (bx ++ [D0]) (h ++ [.lst xs]) where
  nd := by
    rw [List.nodup_append]
    refine ⟨R.nd, by simp, fun a ha c hc => ?_⟩
    have e : c = D0 := by simpa using hc
    rw [e]
    exact fun q => R.fbb D0 (List.mem_cons_self ..) (q ▸ ha)
  fbt := fun a m => R.fbt a (List.mem_cons_of_mem _ m)
  fbb := fun a m => by
    rw [List.mem_append]
    rintro (z | z)
    · exact R.fbb a (List.mem_cons_of_mem _ m) z
    · have e : a = D0 := by simpa using z
      exact nf (e ▸ m)
  len := by rw [List.length_append, List.length_append, R.len]; rfl
  at_ := fun i a u h1 h2 => by
    by_cases hi : i < bx.length
    · rw [List.getElem?_append_left hi] at h1
      rw [List.getElem?_append_left (by rw [← R.len]; exact hi)] at h2
      exact (R.at_ i a u h1 h2).map (fun d v => Rep.boxed d) fun ds vs => RepL.boxed ds
    · have e1 : i = bx.length := by
        have := (List.getElem?_eq_some_iff.mp h1).1
        rw [List.length_append] at this
        simp at this
        omega
      subst e1
      rw [List.getElem?_append_right (Nat.le_refl _)] at h1
      rw [List.getElem?_append_right (by rw [R.len]; exact Nat.le_refl _)] at h2
      have e2 : D0 = a := by simpa using h1
      have e3 : BO.lst xs = u := by simpa [R.len] using h2
      subst e2 e3
      exact ⟨vs, e, hl, RepL.boxed _ r⟩
theorem EnvR.map {Z' : St0} {H' : Hp} {bx' : List Addr} (he : EnvR Z H bx σ env) (f : ∀ d v, Rep Z H bx d v → Rep Z' H' bx' d v) : EnvR Z' H' bx' σ env := ⟨he.len, fun i d q => by
  obtain ⟨v, h1, h2⟩ := he.at_ i d q
  exact ⟨v, h1, f _ _ h2⟩⟩
end
end Mp

end
section
set_option maxRecDepth 100000
set_option maxHeartbeats 4000000
namespace Mp
open PySem PySem.Spec PyProof.Rows L2

/-- J walks what iv tells, while P stands -/
structure ItR (Z : St0) (J : It) (iv : IV) (P : List Addr → Hp → List Addr → Prop) (pl : Bool) : Prop where
  ext : ∀ {fb H bx H' bx'}, Ext H bx H' bx' → P fb H bx → P fb H' bx'
  add : ∀ {fb H bx} {a : Addr}, H a = none → P fb H bx → P (a :: fb) H bx
  upd : ∀ {fb H bx} {a : Addr} {o : HO}, a ∈ fb → P fb H bx → P fb (L2.upd H a o) bx
  len : ∀ {fb H bx h xs}, P fb H bx → HeapR (Z.wf fb) H bx h → iv h = some xs → xs.length ≤ sizeLine
  go : ∀ {fb H bx h xs i d}, P fb H bx → HeapR (Z.wf fb) H bx h → iv h = some xs → xs[i]? = some d → J.go i H
  stop : ∀ {fb H bx h xs}, P fb H bx → HeapR (Z.wf fb) H bx h → iv h = some xs → J.stop xs.length H
  yld : ∀ {fb H bx h xs i d x H'}, P fb H bx → HeapR (Z.wf fb) H bx h → iv h = some xs → xs[i]? = some d → J.yld i H x H' → Ext H bx H' bx ∧ HeapR (Z.wf fb) H' bx h ∧ YRep (Z.wf fb) pl H' bx d x
abbrev ItB (Z : St0) (tp : Bool) : Hp → List Addr → IV → It → Prop := fun H bx iv J => ∃ P pl, ItR Z J iv P pl ∧ (pl = true ∨ tp = true) ∧ P Z.fb H bx
abbrev tI (Z : St0) (tp : Bool) (W : WX) (f : Env → HP → Rs IV) : TI := tG Z (ItB Z tp) W f
def SI (Z : St0) (X : Cx) (tg x : Expr) (f : Env → HP → Rs IV) : Prop := ∀ fb W, Takes X W → PI X tg x (tI (Z.wf fb) (isTupE tg) W f)
section
variable {X : Cx}
theorem pi_imp {tg e : Expr} {t t' : TI} (h : PI X tg e t) (f : ∀ σ H R, t' σ H R → t σ H R) : PI X tg e t' := ⟨fun pins s σ H R I hw => h.run pins s σ H R I (f σ H R hw)⟩
end
theorem rngD_get : ∀ {n : Nat} {lo : Int} {i : Nat}, (rngD lo n)[i]? = if i < n then some (.int (lo + (i : Nat))) else none
  | 0, lo, i => by simp [rngD]
  | n + 1, lo, 0 => by simp [rngD]
  | n + 1, lo, i + 1 => by
    have := @rngD_get n (lo + 1) i
    show (rngD (lo + 1) n)[i]? = _
    rw [this]
    by_cases h : i < n
    · rw [if_pos h, if_pos (by omega)]
      congr 2
      omega
    · rw [if_neg h, if_neg (by omega)]
theorem rngD_len : ∀ {n : Nat} {lo : Int}, (rngD lo n).length = n
  | 0, _ => rfl
  | n + 1, lo => by
    show (rngD (lo + 1) n).length + 1 = _
    rw [rngD_len]
theorem rngN_get : ∀ {n : Nat} {lo : Int} {i : Nat}, (rngN lo n)[i]? = if i < n then some (.int (lo + (i : Nat) * (-1))) else none
  | 0, lo, i => by simp [rngN]
  | n + 1, lo, 0 => by simp [rngN]
  | n + 1, lo, i + 1 => by
    have := @rngN_get n (lo - 1) i
    show (rngN (lo - 1) n)[i]? = _
    rw [this]
    by_cases h : i < n
    · rw [if_pos h, if_pos (by omega)]
      congr 2
      omega
    · rw [if_neg h, if_neg (by omega)]
theorem rngN_len : ∀ {n : Nat} {lo : Int}, (rngN lo n).length = n
  | 0, _ => rfl
  | n + 1, lo => by
    show (rngN (lo - 1) n).length + 1 = _
    rw [rngN_len]
theorem itr_fix {Z : St0} {J : It} {f : Nat → Int} {n : Nat} {ds : List D} (hn : n ≤ sizeLine) (hl : ds.length = n) (hg : ∀ i, ds[i]? = if i < n then some (.int (f i)) else none) (h1 : ∀ i H, i < n → J.go i H) (h2 : ∀ H, J.stop n H) (h3 : ∀ i H x H', J.yld i H x H' → H' = H ∧ x = .int (f i)) :
    ItR Z J (fun _ => some ds) (fun _ _ _ => True) true where
  ext := fun _ h => h
  add := fun _ h => h
  upd := fun _ h => h
  len := fun _ _ e => by cases e; omega
  go := fun _ _ e g => by
    cases e
    have := (List.getElem?_eq_some_iff.mp g).1
    exact h1 _ _ (by omega)
  stop := fun _ _ e => by
    cases e
    rw [hl]
    exact h2 _
  yld := fun _ hr e g y => by
    cases e
    obtain ⟨rfl, rfl⟩ := h3 _ _ _ _ y
    have := (List.getElem?_eq_some_iff.mp g).1
    rw [hg, if_pos (by omega)] at g
    cases g
    exact ⟨Ext.refl _ _, hr, .inl rfl⟩
theorem itr_rng {Z : St0} {lo : Int} {n : Nat} (h : n ≤ sizeLine) : ItR Z (Itr lo n) (fun _ => some (rngD lo n)) (fun _ _ _ => True) true :=
  itr_fix (f := fun i => lo + (i : Nat)) h rngD_len (fun i => rngD_get) (fun _ _ h => h) (fun _ => Nat.le_refl _) fun _ _ _ _ y => y
theorem itr_rngN {Z : St0} {lo : Int} {n : Nat} (h : n ≤ sizeLine) : ItR Z (Itc lo (-1) n) (fun _ => some (rngN lo n)) (fun _ _ _ => True) true :=
  itr_fix (f := fun i => lo + (i : Nat) * (-1)) h rngN_len (fun i => rngN_get) (fun _ _ h => h) (fun _ => Nat.le_refl _) fun _ _ _ _ y => y
section
variable {G : Tab} {Z : St0} {cf : Fns} {k : Nat} {cc : CC} {X : Cx} {pos : Pos}
theorem plain_star1 {e : Expr} {env : PySem.Env} (h : plainX e = true) : starEach [e] env = [(false, eval e env)] := plain_star h
theorem line_le {j : Int} (h : j ≤ (line : Nat)) : j.toNat ≤ sizeLine := by
  rw [← line_eq]
  omega
theorem evRng_cases {Z : St0} {tp : Bool} {H : Hp} {bx : List Addr} {h : HP} {W : WK} {ds : List D} {vs : List V} {R : It → Hp → Prop} (hh : HeapR Z H bx h) (r : RepL Z H bx ds vs) (p : Pst Z H bx W (ItB Z tp) (evRng ds h) R) :
    (∃ j : Int, vs = [.int j] ∧ -(2 ^ 62) ≤ j ∧ j < 2 ^ 62 ∧ R (Itr 0 j.toNat) H) ∨ (∃ i j : Int, vs = [.int i, .int j] ∧ (-(2 ^ 62) ≤ i ∧ i < 2 ^ 62 ∧ -(2 ^ 62) ≤ j ∧ j < 2 ^ 62) ∧ R (Itr i (j - i).toNat) H) ∨
    ∃ (i j c : Int) (n : Nat), vs = [.int i, .int j, .int c] ∧ RgC i j c n ∧ R (Itc i c n) H := by
  unfold evRng at p
  split at p
  · rename_i j
    obtain ⟨c, p⟩ := pst_ite p
    obtain ⟨v, rfl, r1⟩ := rep1 r
    cases r1
    have c2 : j ≤ 16777216 := c.2
    exact .inl ⟨j, rfl, c.1, by omega, p.ok hh ⟨_, _, itr_rng (line_le c.2), .inl rfl, trivial⟩⟩
  · rename_i i j
    obtain ⟨c, p⟩ := pst_ite p
    obtain ⟨v, w, rfl, r1, r2⟩ := rep2 r
    cases r1
    cases r2
    exact .inr (.inl ⟨i, j, rfl, ⟨c.1.1, c.1.2, c.2.1.1, c.2.1.2⟩, p.ok hh ⟨_, _, itr_rng (line_le c.2.2), .inl rfl, trivial⟩⟩)
  · rename_i i j k
    obtain ⟨c, p⟩ := pst_ite p
    obtain ⟨v, t, rfl, r1, r2⟩ := r
    obtain ⟨v2, w, rfl, r2, r3⟩ := rep2 r2
    cases r1
    cases r2
    cases r3
    have fin := p.ok hh ⟨_, _, itr_rngN (Z := Z) (lo := i) (line_le c.2.2.2), .inl rfl, trivial⟩
    refine .inr (.inr ⟨i, j, k, (i - j).toNat, rfl, ?_, ?_⟩)
    · rw [c.1]
      exact RgC.neg c.2.1.1 c.2.1.2 c.2.2.1.1 c.2.2.1.2
    · rw [c.1]
      exact fin
  · exact False.elim p
theorem range_read {tp : Bool} {fb : List Addr} {W : WX} {fs : Env → HP → Rs (List D)} {σ : L2.St} {H : Hp} {R : It → Hp → Prop} (q : tI (Z.wf fb) tp W (fun env hp => (fs env hp).bnd fun ds hp => evRng ds hp) σ H R) :
    tA (Z.wf fb) W fs σ H fun vs H1 => (∃ j : Int, vs = [.int j] ∧ -(2 ^ 62) ≤ j ∧ j < 2 ^ 62 ∧ R (Itr 0 j.toNat) H1) ∨ (∃ i j : Int, vs = [.int i, .int j] ∧ (-(2 ^ 62) ≤ i ∧ i < 2 ^ 62 ∧ -(2 ^ 62) ≤ j ∧ j < 2 ^ 62) ∧ R (Itr i (j - i).toNat) H1) ∨
    ∃ (i j c : Int) (n : Nat), vs = [.int i, .int j, .int c] ∧ RgC i j c n ∧ R (Itc i c n) H1 := by
  obtain ⟨bx, env, hp, he, hh, p⟩ := q
  exact ⟨bx, env, hp, he, hh, Pst.bnd p fun ds h1 H1 bx1 vs e1 hh1 r1 p1 => evRng_cases hh1 r1 p1⟩
theorem ta_len {fb : List Addr} {W : WX} {fs : Env → HP → Rs (List D)} {n : Nat} {σ : L2.St} {H : Hp} {Q Q' : List V → Hp → Prop} (hn : ∀ env hp ds hp', fs env hp = .ok ds hp' → ds.length = n) (f : ∀ vs H1, vs.length = n → Q vs H1 → Q' vs H1) (q : tA (Z.wf fb) W fs σ H Q) : tA (Z.wf fb) W fs σ H Q' := by
  obtain ⟨bx, env, hp, he, hh, p⟩ := q
  refine ⟨bx, env, hp, he, hh, ?_⟩
  cases e : fs env hp with
  | ok ds h1 =>
    rw [e] at p
    exact fun H1 bx1 vs e1 hh1 r1 => f _ _ (by rw [r1.length]; exact hn _ _ _ _ e) (p H1 bx1 vs e1 hh1 r1)
  | exc x h1 => rw [e] at p; exact p
  | bad => rw [e] at p; exact p
theorem si_range (g : Good G Z cf k cc X) {tg : Expr} {es : List Expr} {p : Pos} {fs : Env → HP → Rs (List D)} (hs : SA Z X es fs) (hx : glOk cc "range" = true) (hl : es.length = 1 ∨ es.length = 2 ∨ es.length = 3) (hn : ∀ env hp ds hp', fs env hp = .ok ds hp' → ds.length = es.length) (hp : allPlain es = true) :
    SI Z X tg (.Call (.Name "range" p) es [] pos) (fun env hp => (fs env hp).bnd fun ds hp => evRng ds hp) := by
  intro fb W tk
  obtain ⟨h1, h2, h3⟩ := glOk_of g hx
  have hm := g.blt "range" (by decide)
  match es, hl, hn, hs, hp with
  | [a], _, hn, hs, hp =>
    have hp : (plainX a && true) = true := hp
    rw [Bool.and_true] at hp
    refine pi_imp (pi_range1 h1 hm (hs fb W tk) (plain_star1 hp)) fun σ H R q => ta_len hn (fun vs H1 l q => ?_) (range_read q)
    rcases q with q | ⟨i, j, rfl, q⟩ | ⟨i, j, c, n, rfl, q⟩
    · exact q
    · simp at l
    · simp at l
  | [a, b], _, hn, hs, hp =>
    have hp : (plainX a && (plainX b && true)) = true := hp
    rw [Bool.and_true, Bool.and_eq_true] at hp
    refine pi_imp (pi_range2 h1 hm (hs fb W tk) (by rw [plain_star hp.1, plain_star1 hp.2]) (plain_star1 hp.2)) fun σ H R q => ta_len hn (fun vs H1 l q => ?_) (range_read q)
    rcases q with ⟨j, rfl, q⟩ | q | ⟨i, j, c, n, rfl, q⟩
    · simp at l
    · exact q
    · simp at l
  | [a, b, c], _, hn, hs, hp =>
    have hp : (plainX a && (plainX b && (plainX c && true))) = true := hp
    rw [Bool.and_true, Bool.and_eq_true, Bool.and_eq_true] at hp
    refine pi_imp (pi_range3 h1 hm (hs fb W tk) (plain_star hp.1) (plain_any (by show (plainX b && (plainX c && true)) = true; rw [hp.2.1, hp.2.2]; rfl))) fun σ H R q => ta_len hn (fun vs H1 l q => ?_) (range_read q)
    rcases q with ⟨j, rfl, q⟩ | ⟨i, j, rfl, q⟩ | q
    · simp at l
    · simp at l
    · exact q
def kdD : D → V → Kd
  | .tup _, .ref a => .t a
  | .lst _, .ref a => .l a
  | .box _, .ref a => .l a
  | .str z, _ => .s z
  | _, _ => .s Str.empty
theorem signs_rep {H : Hp} {bx : List Addr} : ∀ {l : List Nat}, RepL Z H bx (l.map fun c => D.str ⟨#[c]⟩) (l.map fun c => V.str ⟨#[c]⟩)
  | [] => .nil
  | _ :: _ => .cons rfl signs_rep
theorem kd_rep {H : Hp} {bx : List Addr} {h : HP} {d : D} {v : V} {ds : List D} (hr : HeapR Z H bx h) (r : Rep Z H bx d v) (e : itemsD d h = some ds) : v = (kdD d v).val ∧ ∃ xs, (kdD d v).on Z.K H xs ∧ RepL Z H bx ds xs ∧ xs.length ≤ sizeLine := by
  unfold itemsD at e
  cases d with
  | str z =>
    have r : v = _ := r
    subst r
    dsimp only at e
    split at e
    · rename_i c
      cases e
      refine ⟨rfl, signsV z, rfl, signs_rep, ?_⟩
      rw [line_eq] at c
      unfold signsV
      rw [List.length_map]
      exact c
    · cases e
  | tup xs =>
    obtain ⟨a, vs, rfl, f, rr⟩ := r
    cases (show some xs = some ds from e)
    exact ⟨rfl, vs, f.sq, rr, f.1⟩
  | lst xs =>
    obtain ⟨a, vs, rfl, f, rr⟩ := r
    cases (show some xs = some ds from e)
    exact ⟨rfl, vs, f.sq, rr, f.1⟩
  | box n =>
    obtain ⟨a, rfl, q⟩ := r
    have e : (match h[n]? with
      | some (.lst xs) => some xs
      | _ => none) = some ds := e
    split at e
    · rename_i xs g
      cases e
      obtain ⟨vs, e2, hz, rr⟩ := hr.at_ n a _ q g
      exact ⟨rfl, vs, SqL.of e2, rr, hz⟩
    · cases e
  | _ => cases (show none = some ds from e)
theorem kd_on_wf {K : PySem.W.Frag} {H : Hp} {xs : List V} {kd : Kd} (h : kd.on K H xs) : kd.on K H xs := h
def itOf (K : PySem.W.Frag) : Kd → It
  | .l a => Itl K a
  | .t a => Itt K a
  | .s z => Its z
theorem itemsD_some {d : D} {h : HP} (e : (itemsD d h).isSome = true) : ∃ ds, itemsD d h = some ds := Option.isSome_iff_exists.mp e
theorem itr_seq {Z : St0} {d : D} {v : V} : ItR Z (itOf Z.K (kdD d v)) (itemsD d) (fun fb H bx => Rep (Z.wf fb) H bx d v) true where
  ext := fun e h => Rep.ext e d h
  add := fun n h => Rep.add n d h
  upd := fun m h => Rep.upd (Z := Z.wf _) m d h
  len := fun p hr e => by
    obtain ⟨_, xs, _, rr, hz⟩ := kd_rep hr p e
    rw [← rr.length]
    exact hz
  go := fun {fb H bx h xs i d'} p hr e g => by
    obtain ⟨ev, vs, on, rr, hz⟩ := kd_rep hr p e
    obtain ⟨u, hu, _⟩ := rr.get g
    cases q : kdD d v with
    | l a => rw [q] at on; exact ⟨vs, u, on, hu⟩
    | t a => rw [q] at on; exact ⟨vs, u, on, hu⟩
    | s z =>
      rw [q] at on
      have on : vs = signsV z := on
      have := (List.getElem?_eq_some_iff.mp hu).1
      rw [on] at this
      show i < z.cps.size
      simpa [signsV] using this
  stop := fun {fb H bx h xs} p hr e => by
    obtain ⟨ev, vs, on, rr, hz⟩ := kd_rep hr p e
    have l := rr.length
    cases q : kdD d v with
    | l a => rw [q] at on; exact ⟨vs, on, by omega⟩
    | t a => rw [q] at on; exact ⟨vs, on, by omega⟩
    | s z =>
      rw [q] at on
      have on : vs = signsV z := on
      rw [on] at l
      show z.cps.size ≤ _
      rw [← l]
      simp [signsV]
  yld := fun {fb H bx h xs i d' x H'} p hr e g y => by
    obtain ⟨ev, vs, on, rr, hz⟩ := kd_rep hr p e
    obtain ⟨u, hu, ru⟩ := rr.get g
    cases q : kdD d v with
    | l a =>
      rw [q] at on y
      obtain ⟨rfl, y⟩ := y
      have := y vs on
      rw [hu] at this
      cases this
      exact ⟨Ext.refl _ _, hr, .inl ru⟩
    | t a =>
      rw [q] at on y
      obtain ⟨rfl, y⟩ := y
      have := y vs on
      rw [hu] at this
      cases this
      exact ⟨Ext.refl _ _, hr, .inl ru⟩
    | s z =>
      rw [q] at on y
      obtain ⟨rfl, c, h1, rfl⟩ := y
      have on : vs = signsV z := on
      rw [on] at hu
      have : u = .str ⟨#[c]⟩ := by simpa [signsV, h1] using hu.symm
      subst this
      exact ⟨Ext.refl _ _, hr, .inl ru⟩
theorem enumD_get : ∀ {ds : List D} {n i : Nat}, (enumD n ds)[i]? = (ds[i]?).map fun d => D.tup [.int ((n + i : Nat) : Int), d]
  | [], n, i => by simp [enumD]
  | d :: ds, n, 0 => by simp [enumD]
  | d :: ds, n, i + 1 => by
    show (enumD (n + 1) ds)[i]? = _
    rw [enumD_get, List.getElem?_cons_succ]
    have : n + 1 + i = n + (i + 1) := by omega
    rw [this]
theorem enumD_len : ∀ {ds : List D} {n : Nat}, (enumD n ds).length = ds.length
  | [], _ => rfl
  | d :: ds, n => by
    show (enumD (n + 1) ds).length + 1 = _
    rw [enumD_len, List.length_cons]
theorem zipD_get : ∀ {xs ys : List D} {i : Nat} {d : D}, (zipD xs ys)[i]? = some d → ∃ x y, xs[i]? = some x ∧ ys[i]? = some y ∧ d = .tup [x, y]
  | [], _, i, d, h => by simp [zipD] at h
  | x :: xs, [], i, d, h => by simp [zipD] at h
  | x :: xs, y :: ys, 0, d, h => ⟨x, y, rfl, rfl, by simpa [zipD] using h.symm⟩
  | x :: xs, y :: ys, i + 1, d, h => by
    obtain ⟨a, b, h1, h2, h3⟩ := zipD_get (xs := xs) (ys := ys) (i := i) (d := d) h
    exact ⟨a, b, by simpa using h1, by simpa using h2, h3⟩
theorem zipD_len : ∀ {xs ys : List D}, (zipD xs ys).length = min xs.length ys.length
  | [], _ => by simp [zipD]
  | x :: xs, [] => by simp [zipD]
  | x :: xs, y :: ys => by
    show (zipD xs ys).length + 1 = _
    rw [zipD_len, List.length_cons, List.length_cons]
    omega
theorem itr_enum {Z : St0} {d : D} {v : V} : ItR Z (ItE Z.K (kdD d v)) (enumI d) (fun fb H bx => Rep (Z.wf fb) H bx d v) false where
  ext := fun e h => Rep.ext e d h
  add := fun n h => Rep.add n d h
  upd := fun m h => Rep.upd (Z := Z.wf _) m d h
  len := fun p hr e => by
    obtain ⟨ds, e9, rfl⟩ := Option.map_eq_some_iff.mp e
    obtain ⟨_, xs, _, rr, hz⟩ := kd_rep hr p e9
    rw [enumD_len, ← rr.length]
    exact hz
  go := fun {fb H bx h xs i d'} p hr e g => by
    obtain ⟨ds, e9, rfl⟩ := Option.map_eq_some_iff.mp e
    obtain ⟨ev, vs, on, rr, hz⟩ := kd_rep hr p e9
    rw [enumD_get] at g
    obtain ⟨d2, g9, rfl⟩ := Option.map_eq_some_iff.mp g
    obtain ⟨u, hu, _⟩ := rr.get g9
    exact ⟨vs, u, on, hu⟩
  stop := fun {fb H bx h xs} p hr e => by
    obtain ⟨ds, e9, rfl⟩ := Option.map_eq_some_iff.mp e
    obtain ⟨ev, vs, on, rr, hz⟩ := kd_rep hr p e9
    exact ⟨vs, on, by rw [enumD_len]; exact rr.length.symm⟩
  yld := fun {fb H bx h xs i d' x H'} p hr e g y => by
    obtain ⟨ds, e9, rfl⟩ := Option.map_eq_some_iff.mp e
    obtain ⟨ev, vs, on, rr, hz⟩ := kd_rep hr p e9
    rw [enumD_get] at g
    obtain ⟨d2, g9, rfl⟩ := Option.map_eq_some_iff.mp g
    obtain ⟨u, hu, ru⟩ := rr.get g9
    obtain ⟨T, x2, rfl, n, rfl, y⟩ := y
    have := y vs on
    rw [hu] at this
    cases this
    exact ⟨ext_new hr _ n, heap_new hr _ n, .inr ⟨rfl, _, _, T, rfl, rfl, .inl (.inl upd_same), RepL.ext (ext_new hr _ n) _ (.cons (by simp [Rep]) (.cons ru .nil))⟩⟩
theorem itr_zip {Z : St0} {d e : D} {v u : V} : ItR Z (ItZ Z.K (kdD d v) (kdD e u)) (zipI d e) (fun fb H bx => Rep (Z.wf fb) H bx d v ∧ Rep (Z.wf fb) H bx e u) false := by
  have un : ∀ {h : HP} {xs : List D}, zipI d e h = some xs → ∃ as bs, itemsD d h = some as ∧ itemsD e h = some bs ∧ xs = zipD as bs := by
    intro h xs z
    unfold zipI at z
    split at z
    · rename_i as bs e1 e2
      cases z
      exact ⟨as, bs, e1, e2, rfl⟩
    · cases z
  exact
  { ext := fun z h => ⟨Rep.ext z d h.1, Rep.ext z e h.2⟩
    add := fun n h => ⟨Rep.add n d h.1, Rep.add n e h.2⟩
    upd := fun m h => ⟨Rep.upd (Z := Z.wf _) m d h.1, Rep.upd (Z := Z.wf _) m e h.2⟩
    len := fun p hr z => by
      obtain ⟨as, bs, e1, e2, rfl⟩ := un z
      obtain ⟨_, xs, _, rr, hz⟩ := kd_rep hr p.1 e1
      rw [zipD_len, ← rr.length]
      omega
    go := fun {fb H bx h xs i d'} p hr z g => by
      obtain ⟨as, bs, e1, e2, rfl⟩ := un z
      obtain ⟨_, xs, on1, rr1, _⟩ := kd_rep hr p.1 e1
      obtain ⟨_, ys, on2, rr2, _⟩ := kd_rep hr p.2 e2
      obtain ⟨x, y, h1, h2, rfl⟩ := zipD_get g
      obtain ⟨a, q1, _⟩ := rr1.get h1
      obtain ⟨b, q2, _⟩ := rr2.get h2
      exact ⟨xs, ys, a, b, on1, on2, q1, q2⟩
    stop := fun {fb H bx h xs} p hr z => by
      obtain ⟨as, bs, e1, e2, rfl⟩ := un z
      obtain ⟨_, xs, on1, rr1, _⟩ := kd_rep hr p.1 e1
      obtain ⟨_, ys, on2, rr2, _⟩ := kd_rep hr p.2 e2
      exact ⟨xs, ys, on1, on2, by rw [zipD_len, rr1.length, rr2.length]⟩
    yld := fun {fb H bx h xs i d' x H'} p hr z g y => by
      obtain ⟨as, bs, e1, e2, rfl⟩ := un z
      obtain ⟨_, xs, on1, rr1, _⟩ := kd_rep hr p.1 e1
      obtain ⟨_, ys, on2, rr2, _⟩ := kd_rep hr p.2 e2
      obtain ⟨x, y', h1, h2, rfl⟩ := zipD_get g
      obtain ⟨a, q1, r1⟩ := rr1.get h1
      obtain ⟨b, q2, r2⟩ := rr2.get h2
      obtain ⟨T, x2, y2, rfl, n, rfl, y3, y4⟩ := y
      have z1 := y3 xs on1
      have z2 := y4 ys on2
      rw [q1] at z1
      rw [q2] at z2
      cases z1
      cases z2
      exact ⟨ext_new hr _ n, heap_new hr _ n, .inr ⟨rfl, _, _, T, rfl, rfl, .inl (.inl upd_same), RepL.ext (ext_new hr _ n) _ (.cons r1 (.cons r2 .nil))⟩⟩ }
theorem si_seq (g : Good G Z cf k cc X) {tg e : Expr} {f : Env → HP → Rs D} (h : SE Z X e f) : SI Z X tg e (fun env hp => (f env hp).bnd fun d hp => iv1 itemsD [d] hp) := fun fb W tk => pi_imp (pi_any (h fb W tk)) fun σ H R q => by
  obtain ⟨bx, env, hp, he, hh, p⟩ := q
  refine ⟨bx, env, hp, he, hh, Pst.bnd p fun d h1 H1 bx1 v e1 hh1 r1 p1 => ?_⟩
  replace p1 : PstS (Z.wf fb) H1 bx1 (fun c d H' => W c d σ H') (ItB (Z.wf fb) (isTupE tg)) (if (itemsD d h1).isSome then .ok (itemsD d) h1 else .bad) R := p1
  obtain ⟨c, p1⟩ := pst_ite p1
  obtain ⟨ds, e2⟩ := itemsD_some c
  obtain ⟨ev, xs, on, rr, hz⟩ := kd_rep hh1 r1 e2
  have fin : R (itOf (Z.wf fb).K (kdD d v)) H1 := p1.ok hh1 ⟨_, _, itr_seq (Z := Z.wf fb) (d := d) (v := v), .inl rfl, r1⟩
  refine ⟨kdD d v, xs, ev, by rw [g.K]; exact on, ?_⟩
  rw [g.K]
  revert fin
  cases kdD d v <;> exact fun z => z
theorem si_enum (g : Good G Z cf k cc X) {elts : List Expr} {kk : Nat} {tpos : Pos} {e : Expr} {p : Pos} {fs : Env → HP → Rs (List D)} (h : SA Z X [e] fs) (hx : glOk cc "enumerate" = true) (hp : plainX e = true) :
    SI Z X (.Tuple elts kk tpos) (.Call (.Name "enumerate" p) [e] [] pos) (fun env hp => (fs env hp).bnd fun ds hp => iv1 enumI ds hp) := fun fb W tk => by
  obtain ⟨h1, h2, h3⟩ := glOk_of g hx
  refine pi_imp (pi_enumK h1 (g.blt "enumerate" (by decide)) (h fb W tk) (plain_star1 hp)) fun σ H R q => ?_
  obtain ⟨bx, env, hp, he, hh, p⟩ := q
  refine ⟨bx, env, hp, he, hh, Pst.bnd p fun ds h1 H1 bx1 vs e1 hh1 r1 p1 => ?_⟩
  unfold iv1 at p1
  split at p1
  · rename_i d
    obtain ⟨c, p1⟩ := pst_ite p1
    obtain ⟨v, rfl, r9⟩ := rep1 r1
    obtain ⟨ds, e2⟩ := itemsD_some c
    obtain ⟨ev, xs, on, rr, hz⟩ := kd_rep hh1 r9 e2
    have fin : R (ItE (Z.wf fb).K (kdD d v)) H1 := p1.ok hh1 ⟨_, _, itr_enum (Z := Z.wf fb) (d := d) (v := v), .inr rfl, r9⟩
    exact ⟨kdD d v, xs, by rw [← ev], by rw [g.K]; exact on, by rw [g.K]; exact fin⟩
  · exact False.elim p1
theorem si_zip (g : Good G Z cf k cc X) {elts : List Expr} {kk : Nat} {tpos : Pos} {e1 e2 : Expr} {p : Pos} {fs : Env → HP → Rs (List D)} (h : SA Z X [e1, e2] fs) (hx : glOk cc "zip" = true) (hp1 : plainX e1 = true) (hp2 : plainX e2 = true) :
    SI Z X (.Tuple elts kk tpos) (.Call (.Name "zip" p) [e1, e2] [] pos) (fun env hp => (fs env hp).bnd fun ds hp => iv2 zipI ds hp) := fun fb W tk => by
  obtain ⟨h1, h2, h3⟩ := glOk_of g hx
  refine pi_imp (pi_zipK h1 (g.blt "zip" (by decide)) (h fb W tk) (plain_star hp1) (plain_any (by show (plainX e2 && true) = true; rw [hp2]; rfl))) fun σ H R q => ?_
  obtain ⟨bx, env, hp, he, hh, p⟩ := q
  refine ⟨bx, env, hp, he, hh, Pst.bnd p fun ds h1 H1 bx1 vs e1 hh1 r1 p1 => ?_⟩
  unfold iv2 at p1
  split at p1
  · rename_i d e
    obtain ⟨c, p1⟩ := pst_ite p1
    rw [Bool.and_eq_true] at c
    obtain ⟨v, u, rfl, r9, r2⟩ := rep2 r1
    obtain ⟨ds, e2⟩ := itemsD_some c.1
    obtain ⟨es, e3⟩ := itemsD_some c.2
    obtain ⟨ev, xs, on, rr, hz⟩ := kd_rep hh1 r9 e2
    obtain ⟨eu, ys, on2, rr2, _⟩ := kd_rep hh1 r2 e3
    have fin : R (ItZ (Z.wf fb).K (kdD d v) (kdD e u)) H1 := p1.ok hh1 ⟨_, _, itr_zip (Z := Z.wf fb) (d := d) (v := v) (e := e) (u := u), .inr rfl, r9, r2⟩
    exact ⟨kdD d v, kdD e u, xs, ys, by rw [← ev, ← eu], by rw [g.K]; exact on, by rw [g.K]; exact on2, by rw [g.K]; exact fin⟩
  · exact False.elim p1
end
end Mp

end
section
set_option maxRecDepth 100000
set_option maxHeartbeats 4000000
namespace Mp
open PySem PySem.Spec PyProof.Rows L2

section
variable {X : Cx}
theorem pe_ex {ι : Type} {e : Expr} {t : ι → TE} (h : ∀ a, PE X e (t a)) : PE X e (fun σ H Q => ∃ a, t a σ H Q) := ⟨fun pins s σ H Q I ⟨a, q⟩ => (h a).run pins s σ H Q I q⟩
theorem pts_ex {ι : Type} {e : List Expr} {t : ι → TT} (h : ∀ a, PTs X e (t a)) : PTs X e (fun σ H Q => ∃ a, t a σ H Q) := ⟨fun pins s σ H Q I ⟨a, q⟩ => (h a).run pins s σ H Q I q⟩
theorem pts_imp {e : List Expr} {t t' : TT} (h : PTs X e t) (f : ∀ σ H Q, t' σ H Q → t σ H Q) : PTs X e t' := ⟨fun pins s σ H Q I q => h.run pins s σ H Q I (f σ H Q q)⟩
end
def STs (Z : St0) (X : Cx) (xs : List Expr) (f : Env → HP → Rs Bool) : Prop := ∀ fb W, Takes X W → PTs X xs (tT (Z.wf fb) W f)
/-- the block of a comprehension -/
def ccB (cc : CC) (scope : Scope) : CC := { N := cc.N, sc := relS scope cc.sc, fn := fun x => scope.names.lookup x == some .cell }
def ownP (cc : CC) (own : List Nat) : List (Str × Nat) := own.map fun i => ((cc.N[i]?).getD Str.empty, i)
theorem ownP_snd (cc : CC) (own : List Nat) : (ownP cc own).map (·.2) = own := by
  unfold ownP
  rw [List.map_map]
  exact List.map_id _
def wx0 : WX := fun _ _ _ _ => False
section
variable {G : Tab} {Z : St0} {cf : Fns} {k : Nat} {cc : CC} {X : Cx} {pos : Pos}
theorem takes0 {X : Cx} : Takes X wx0 := fun u s' ⟨a, B, sI, pins, σ, H, cls, d, e, I, nb, up, sky, na, os, ag, w⟩ => False.elim w
theorem good_blk (g : Good G Z cf k cc X) (scope : Scope) (s : Shared) (H : Hp) (C : Addr) (cl : List (Str × Addr)) (fp : List Addr) : Good G Z cf k (ccB cc scope) (X.blk s H scope (compEnvC scope cl C X.env) fp) where
  K := g.K
  calm := g.calm
  N := g.N
  nd := g.nd
  sc := by
    show relS scope X.env.scope = relS scope cc.sc
    rw [g.sc]
  fn := rfl
  room := g.room
  gd := g.gd
  blt := g.blt
  glo := g.glo
  fns := g.fns
theorem sts_nil : STs Z X [] (fun _ hp => .ok true hp) := fun fb W tk => pts_imp pts_nil fun σ H Q q => by
  obtain ⟨bx, env, hp, he, hh, p⟩ := q
  exact p.ok hh rfl
theorem sts_one {c : Expr} {f : Env → HP → Rs Bool} (h : ST Z X c f) : STs Z X [c] (fun env hp => (f env hp).bnd fun k hp => match k with
    | true => .ok true hp
    | false => .ok false hp) := fun fb W tk => pts_imp (pts_one (h fb W tk)) fun σ H Q q => by
  obtain ⟨bx, env, hp, he, hh, p⟩ := q
  refine ⟨bx, env, hp, he, hh, Pst.bnd p fun d h1 H1 bx1 v e1 hh1 r1 p1 => ?_⟩
  have r1 : d = v := r1
  subst r1
  cases d with
  | true => exact p1.ok hh1 rfl
  | false => exact p1.ok hh1 rfl
/-- one turn -/
def compStep (t : Tg) (own : List Nat) (ft : Env → HP → Rs Bool) (fe : Env → HP → Rs D) (env : Env) (d : D) (acc : List D) (h : HP) : Rs (List D) := match setTg t d (wipeD env own) with
  | some env' => ((ft env' h).bnd fun k h => match k with
    | true => (fe env' h).bnd fun x h => .ok (acc ++ [x]) h
    | false => .ok acc h).noX
  | none => .bad
theorem ext_free {H H' : Hp} {bx bx' : List Addr} {D0 : Addr} (e : Ext H bx H' bx') (n : H D0 = none) (u : HO) : Ext H bx (L2.upd H' D0 u) bx' where
  keep := fun a o h m => by
    rw [upd_ne (ne_of_none h n)]
    exact e.keep a o h m
  there := fun a h => by
    by_cases z : a = D0
    · rw [z, upd_same]; simp
    · rw [upd_ne z]; exact e.there a h
  pre := e.pre
theorem comp_read (g : Good G Z cf k cc X) {b tp : Bool} {own : List Nat} {t : Tg} {fb : List Addr} {W : WX} {fi : Env → HP → Rs IV} {ft : Env → HP → Rs Bool} {fe : Env → HP → Rs D} (hsl : (t.slots.all fun i => decide (i ∈ own)) = true) (htp : tp = true → isTupG t = true) {σ : L2.St} {H : Hp} {Q : VK}
    (q : tE (Z.wf fb) W (fun env hp => (fi env hp).bnd fun iv h => (walkL (compStep t own ft fe env) iv walkFuel 0 [] h).bnd fun acc h => newL b acc h) σ H Q) :
    tLc (tI (Z.wf fb) tp W fi) (gT X.K t) (fun σ H Q => ∃ f2, tT (Z.wf f2) wx0 ft σ H Q) (fun σ H Q => ∃ f2, tE (Z.wf f2) wx0 fe σ H Q) own σ H Q := by
  obtain ⟨bx, env, hp, hE, hh, p⟩ := q
  refine ⟨bx, env, hp, hE, hh, Pst.bnd p fun iv h1 H1 bx1 J e1 hh1 r1 p1 => ?_⟩
  obtain ⟨P, pl, hR, hpl, hP⟩ := r1
  intro D0 hD
  have hD0 : D0 ∉ fb := fun m => hh1.fbt D0 m hD
  have hE1 : EnvR (Z.wf (D0 :: fb)) H1 bx1 σ env := (hE.ext e1).map fun d v r => Rep.add hD d r
  refine ⟨fun i m H2 => ∃ bx2 h2 acc vs, Ext H1 bx1 H2 bx2 ∧ HeapR (Z.wf (D0 :: fb)) H2 bx2 h2 ∧ H2 D0 = some (.lst vs) ∧ RepL (Z.wf (D0 :: fb)) H2 bx2 acc vs ∧ vs.length ≤ i ∧ EnvR (Z.wf (D0 :: fb)) H2 bx2 σ env ∧ P (D0 :: fb) H2 bx2 ∧
    Pst (Z.wf fb) H1 bx1 (fun c d H' => W c d σ H') (RepS (Z.wf fb)) ((walkL (compStep t own ft fe env) iv m i acc h2).bnd fun acc h => newL b acc h) Q, ⟨walkFuel, ?_⟩, ?_⟩
  · exact ⟨bx1, h1, [], [], ext_free (Ext.refl _ _) hD _, hh1.start hD _, upd_same, rfl, Nat.le_refl _, hE1.map fun d v r => Rep.upd (Z := Z.wf (D0 :: fb)) (List.mem_cons_self ..) d r, hR.upd (List.mem_cons_self ..) (hR.add hD hP), p1⟩
  · rintro i m H2 ⟨bx2, h2, acc, vs, x2, hh2, hl2, ra, hlen, he2, hP2, p2⟩
    cases m with
    | zero => exact False.elim p2
    | succ f =>
      unfold walkL at p2
      split at p2
      · exact False.elim p2
      · rename_i xs ei
        split at p2
        · rename_i en
          by_cases c : i = xs.length
          · rw [if_pos c] at p2
            refine .inl ⟨by rw [c]; exact hR.stop hP2 hh2 ei, ?_⟩
            have hz := hR.len hP2 hh2 ei
            cases b with
            | true => exact p2 H2 (bx2 ++ [D0]) (.ref D0) ⟨x2.keep, x2.there, by
                obtain ⟨more, e, hm⟩ := x2.pre
                refine ⟨more ++ [D0], by rw [e, List.append_assoc], fun a ha => ?_⟩
                rcases List.mem_append.mp ha with ha | ha
                · exact hm a ha
                · rw [List.mem_singleton.mp ha]; exact hD⟩ (hh2.boxed hD0 hl2 (by omega) ra) ⟨D0, rfl, by rw [← hh2.len]; simp⟩
            | false => exact p2 H2 bx2 (.ref D0) x2 hh2.drop ⟨D0, vs, rfl, ⟨by omega, .inl ⟨.inl hl2, hh2.fbb D0 (List.mem_cons_self ..), hD0⟩⟩, RepL.drop' _ ra⟩
          · rw [if_neg c] at p2
            exact False.elim p2
        · rename_i d ed
          have hlt := (List.getElem?_eq_some_iff.mp ed).1
          have hz := hR.len hP2 hh2 ei
          refine .inr ⟨hR.go hP2 hh2 ei ed, _, fun H' z => ⟨f, Nat.lt_succ_self f, z⟩, fun x H' y => ?_⟩
          obtain ⟨x3, hh3, rd⟩ := hR.yld hP2 hh2 ei ed y
          unfold compStep at p2
          split at p2
          · rename_i env' es
            refine gT_y (Z := Z.wf (D0 :: fb)) g.K ((he2.ext x3).wipe own) rd (hpl.imp id htp) es fun σ' he3 l3 k3 => ⟨?_, ?_⟩
            · refine wipe_eq (by rw [l3, wipe_length]) fun j hj => k3 j fun m => hj ?_
              have := List.all_eq_true.mp hsl j m
              simpa using this
            · refine ⟨D0 :: fb, bx2, env', h2, he3, hh3, ?_⟩
              cases e4 : ft env' h2 with
              | bad => rw [e4] at p2; exact False.elim p2
              | exc xx hx => rw [e4] at p2; exact False.elim p2
              | ok bb h4 =>
                rw [e4] at p2
                intro H4 bx4 b4 x4 hh4 eb
                have eb : bb = b4 := eb
                subst eb
                have x24 := x3.trans x4
                cases bb with
                | false =>
                  refine iteF ⟨bx4, h4, acc, vs, x2.trans x24, hh4, x24.keep D0 _ hl2 (hh2.fbb D0 (List.mem_cons_self ..)), RepL.ext x24 _ ra, by omega, he2.ext x24, hR.ext x24 hP2, p2⟩
                | true =>
                  refine iteT ⟨D0 :: fb, bx4, env', h4, he3.ext x4, hh4, ?_⟩
                  dsimp only [bnd_ok] at p2
                  cases e5 : fe env' h4 with
                  | bad => rw [e5] at p2; exact False.elim p2
                  | exc xx hx => rw [e5] at p2; exact False.elim p2
                  | ok u h5 =>
                    rw [e5] at p2
                    intro H5 bx5 v5 x5 hh5 r5
                    have x25 := x24.trans x5
                    have z5 := x25.keep D0 _ hl2 (hh2.fbb D0 (List.mem_cons_self ..))
                    refine ⟨vs, z5, by omega, bx5, h5, acc ++ [u], vs ++ [v5], ext_free (x2.trans x25) hD _, hh5.upd (List.mem_cons_self ..) _, upd_same, ?_, by simp; omega, (he2.ext x25).map fun d v r => Rep.upd (Z := Z.wf (D0 :: fb)) (List.mem_cons_self ..) d r, hR.upd (List.mem_cons_self ..) (hR.ext x25 hP2), p2⟩
                    exact RepL.upd (Z := Z.wf (D0 :: fb)) (List.mem_cons_self ..) _ ((RepL.ext x25 _ ra).append (.cons r5 .nil))
          · exact False.elim p2
theorem comp_ok (g : Good G Z cf k cc X) {own : List Nat} {scope : Scope} (hb : blkC cc.N cc.sc scope (ownP cc own) = true) : BlkOk X.N X.env.scope scope (ownP cc own) := by
  rw [g.N, g.sc]
  exact blkOk_by hb
theorem se_comp (g : Good G Z cf k cc X) {b : Bool} {own : List Nat} {t : Tg} {tg it elt : Expr} {ifs : List Expr} {scope : Scope} {fi : Env → HP → Rs IV} {ft : Env → HP → Rs Bool} {fe : Env → HP → Rs D}
    (hi : SI Z X tg it fi) (hb : blkC cc.N cc.sc scope (ownP cc own) = true) (hsl : (t.slots.all fun i => decide (i ∈ own)) = true) (hT : chkT (ccB cc scope) t tg = true)
    (hf : ∀ X', Good G Z cf k (ccB cc scope) X' → STs Z X' ifs ft) (he : ∀ X', Good G Z cf k (ccB cc scope) X' → SE Z X' elt fe) (hs : plainX it = true) :
    SE Z X (.ListComp elt [⟨tg, it, ifs, 0⟩] scope pos) (fun env hp => (fi env hp).bnd fun iv h => (walkL (compStep t own ft fe env) iv walkFuel 0 [] h).bnd fun acc h => newL b acc h) := by
  intro fb W tk
  refine pe_imp (pe_lc (g := gT X.K t) g.calm (by rw [g.N]; exact g.nd) (hi fb W tk) (comp_ok g hb) (fun s H C cl fp => pg_tg (good_blk g scope s H C cl fp) hT) (fun s H C cl fp => pts_ex fun f2 => hf _ (good_blk g scope s H C cl fp) f2 wx0 takes0)
    (fun s H C cl fp => pe_ex fun f2 => he _ (good_blk g scope s H C cl fp) f2 wx0 takes0) (plain_fold hs)) fun σ H Q q => ?_
  rw [ownP_snd]
  exact comp_read g hsl (chkT_tup hT) q
/-- name = [..] on one line -/
theorem ps_comp (g : Good G Z cf k cc X) {b : Bool} {own : List Nat} {t : Tg} {tg it elt : Expr} {ifs : List Expr} {scope : Scope} {fi : Env → HP → Rs IV} {ft : Env → HP → Rs Bool} {fe : Env → HP → Rs D} {i : Nat} {y : Str} {py spos : Pos}
    (hy : cc.N[i]? = some y) (hyl : cc.sc.names.lookup y = some .local) (hsw : swapsWith (.ListComp elt [⟨tg, it, ifs, 0⟩] scope pos) (some (.Name y py)) spos.line X.env = pure true)
    (hi : SI Z X tg it fi) (hb : blkC cc.N cc.sc scope (ownP cc own) = true) (hsl : (t.slots.all fun i => decide (i ∈ own)) = true) (hT : chkT (ccB cc scope) t tg = true)
    (hf : ∀ X', Good G Z cf k (ccB cc scope) X' → STs Z X' ifs ft) (he : ∀ X', Good G Z cf k (ccB cc scope) X' → SE Z X' elt fe) (hs : plainX it = true) : ∀ fb W, Takes X W →
    PS X (.Assign [.Name y py] (.ListComp elt [⟨tg, it, ifs, 0⟩] scope pos) spos) (tAsg (tE (Z.wf fb) W (fun env hp => (fi env hp).bnd fun iv h => (walkL (compStep t own ft fe env) iv walkFuel 0 [] h).bnd fun acc h => newL b acc h)) (gName i)) := by
  intro fb W tk
  refine ps_imp (ps_setLc (g := gT X.K t) g.calm (by rw [g.N]; exact g.nd) (by rw [g.N]; exact hy) (by rw [g.sc]; exact hyl) hsw (hi fb W tk) (comp_ok g hb) (fun s H C cl fp => pg_tg (good_blk g scope s H C cl fp) hT) (fun s H C cl fp => pts_ex fun f2 => hf _ (good_blk g scope s H C cl fp) f2 wx0 takes0)
    (fun s H C cl fp => pe_ex fun f2 => he _ (good_blk g scope s H C cl fp) f2 wx0 takes0) (plain_fold hs)) fun D σ H q => ?_
  rw [ownP_snd]
  exact comp_read g hsl (chkT_tup hT) q
end
end Mp

end
section
set_option maxRecDepth 100000
set_option maxHeartbeats 8000000
namespace Mp
open PySem PySem.Spec PyProof.Rows L2

def opBin : Op → Option Operator
  | .add _ => some .Add | .sub => some .Sub | .mul => some .Mult | .fdiv => some .FloorDiv | .mod => some .Mod | .pow => some .Pow
  | .shl => some .LShift | .shr => some .RShift | .band => some .BitAnd | .bor => some .BitOr | .bxor => some .BitXor
  | _ => none
def opUn : Op → Option UnaryOp
  | .neg => some .USub | .inv => some .Invert
  | _ => none
def opCmp : Op → Option CmpOp
  | .eq => some .Eq | .ne => some .NotEq | .lt => some .Lt | .le => some .LtE | .gt => some .Gt | .ge => some .GtE | .isin => some .In | .notin => some .NotIn
  | _ => none
/-- against a constant: is None, is True, .. -/
def opCst : Op → CmpOp → Const → Bool
  | .isN, .Is, .none => true
  | .notN, .IsNot, .none => true
  | .isB b, .Is, .bool c => b == c
  | .notB b, .IsNot, .bool c => b == c
  | _, _, _ => false
/-- built-in functions: the name, and whether it is a type -/
def opFn : Op → Option (Bool × Str × String)
  | .len => some (false, "len", "len") | .abs => some (false, "abs", "abs") | .min2 => some (false, "min", "min") | .max2 => some (false, "max", "max")
  | .toint => some (true, "int", "int")
  | .all => some (false, "all", "all") | .any => some (false, "any", "any") | .sum => some (false, "sum", "sum") | .sorted _ => some (false, "sorted", "sorted") | .repr => some (false, "repr", "repr")
  | .tupof => some (true, "tuple", "tuple") | .lstof _ => some (true, "list", "list")
  | _ => none
section
variable {G : Tab} {Z : St0} {cf : Fns} {k : Nat} {cc : CC} {X : Cx} {pos : Pos}
theorem bin_ok (g : Good G Z cf k cc X) {o : Op} {b : Operator} (h : opBin o = some b) : ∀ f, OpR X (binaryOp b) (r2 (Z.wf f) (evOp o)) := by
  intro f
  cases o <;> first
    | exact nomatch (show none = some b from h)
    | (cases h; first
      | exact or_add (Z := Z.wf f) g.K _ | exact or_sub | exact or_mul | exact or_fdiv | exact or_mod | exact or_pow | exact or_shl | exact or_shr | exact or_band | exact or_bor | exact or_bxor)
theorem un_ok {o : Op} {b : UnaryOp} (h : opUn o = some b) : ∀ f, UnR X (unaryOp b) (r1 (Z.wf f) (evOp o)) := by
  intro f
  cases o <;> first
    | exact nomatch (show none = some b from h)
    | (cases h; first | exact ur_neg | exact ur_inv)
theorem cmp_ok (g : Good G Z cf k cc X) {o : Op} {b : CmpOp} (h : opCmp o = some b) : ∀ f, OpR X (compareOp b) (r2 (Z.wf f) (evOp o)) := by
  intro f
  cases o <;> first
    | exact nomatch (show none = some b from h)
    | (cases h; first
      | exact or_eq (Z := Z.wf f) g.K g.un64 | exact or_ne (Z := Z.wf f) g.K g.un64 | exact or_lt (Z := Z.wf f) g.K g.un64 | exact or_le | exact or_gt | exact or_ge
      | exact or_in (Z := Z.wf f) g.K g.un65 false | exact or_in (Z := Z.wf f) g.K g.un65 true)
theorem cmp_bl {o : Op} {b : CmpOp} (h : opCmp o = some b) : Blean (evOp o) := by
  intro ds hp d hp' e
  cases o <;> first | exact nomatch (show none = some b from h) | skip
  · replace e : evEq false ds hp = .ok d hp' := e
    unfold evEq at e
    split at e
    · cases e; exact ⟨_, rfl⟩
    · split at e
      · cases e; exact ⟨_, rfl⟩
      · cases e
    · cases e
  · replace e : evEq true ds hp = .ok d hp' := e
    unfold evEq at e
    split at e
    · cases e; exact ⟨_, rfl⟩
    · split at e
      · cases e; exact ⟨_, rfl⟩
      · cases e
    · cases e
  · replace e : evLt ds hp = .ok d hp' := e
    unfold evLt at e
    split at e
    · cases e; exact ⟨_, rfl⟩
    · cases e; exact ⟨_, rfl⟩
    · split at e
      · cases e; exact ⟨_, rfl⟩
      · cases e
    · cases e
  · replace e : evCmp _ ds hp = .ok d hp' := e
    unfold evCmp at e
    split at e
    · cases e; exact ⟨_, rfl⟩
    · cases e
  · replace e : evCmp _ ds hp = .ok d hp' := e
    unfold evCmp at e
    split at e
    · cases e; exact ⟨_, rfl⟩
    · cases e
  · replace e : evCmp _ ds hp = .ok d hp' := e
    unfold evCmp at e
    split at e
    · cases e; exact ⟨_, rfl⟩
    · cases e
  · replace e : evIn false ds hp = .ok d hp' := e
    unfold evIn at e
    split at e
    · cases e; exact ⟨_, rfl⟩
    · split at e
      · split at e
        · cases e; exact ⟨_, rfl⟩
        · cases e
      · cases e
    · cases e
  · replace e : evIn true ds hp = .ok d hp' := e
    unfold evIn at e
    split at e
    · cases e; exact ⟨_, rfl⟩
    · split at e
      · split at e
        · cases e; exact ⟨_, rfl⟩
        · cases e
      · cases e
    · cases e
theorem cst_ok {o : Op} {c : CmpOp} {b : Const} {j : Nat} {cp : Pos} (h : opCst o c b = true) : (∃ v, PE X (.Constant b j cp) (tC v) ∧ ∀ f, OpR X (compareOp c) (fun x y H Q => y = v ∧ r1 (Z.wf f) (evOp o) x H Q)) ∧ Blean (evOp o) := by
  cases o <;> cases c <;> first | exact Bool.noConfusion (show false = true from h) | skip
  all_goals (cases b <;> first | exact Bool.noConfusion (show false = true from h) | skip)
  · refine ⟨⟨.non, pe_non, fun f => or_isN (Z := Z.wf f) false⟩, ?_⟩
    intro ds hp d hp' e
    simp only [evOp] at e
    split at e
    · cases e; exact ⟨_, rfl⟩
    · cases e
  · refine ⟨⟨.non, pe_non, fun f => or_isN (Z := Z.wf f) true⟩, ?_⟩
    intro ds hp d hp' e
    simp only [evOp] at e
    split at e
    · cases e; exact ⟨_, rfl⟩
    · cases e
  · rename_i b c
    have e : b = c := by simpa [opCst] using h
    subst e
    refine ⟨⟨.bl b, pe_bl, fun f => or_isB (Z := Z.wf f) false b⟩, ?_⟩
    intro ds hp d hp' e
    simp only [evOp] at e
    split at e
    · cases e; exact ⟨_, rfl⟩
    · cases e
  · rename_i b c
    have e : b = c := by simpa [opCst] using h
    subst e
    refine ⟨⟨.bl b, pe_bl, fun f => or_isB (Z := Z.wf f) true b⟩, ?_⟩
    intro ds hp d hp' e
    simp only [evOp] at e
    split at e
    · cases e; exact ⟨_, rfl⟩
    · cases e
theorem se_sortset (g : Good G Z cf k cc X) {b : Bool} {n m : Str} {p1 p2 p3 : Pos} {x : Expr} {fs : Env → HP → Rs (List D)} (h : SA Z X [x] fs) (e1 : n = "sorted") (e2 : m = "set") (hx : glOk cc n = true) (hy : glOk cc m = true) (hp : allPlain [x] = true) :
    SE Z X (.Call (.Name n p1) [.Call (.Name m p2) [x] [] p3] [] pos) (fun env hp => (fs env hp).bnd fun ds hp => evOp (.sortset b) ds hp) := by
  intro fb W tk
  subst e1 e2
  obtain ⟨h1, h2, h3⟩ := glOk_of g hx
  obtain ⟨k1, k2, k3⟩ := glOk_of g hy
  have hp' : (plainX x && allPlain []) = true := hp
  rw [Bool.and_eq_true] at hp'
  exact pe_imp (pe_callB (cr_sortA g.calm g.un65) h1 (g.blt _ (by decide)) rfl (pa_cons (pe_callTy (cr_setA g.calm) k1 (g.blt _ (by decide)) rfl (h fb W tk) k3 k2 (plain_star hp'.1) (plain_any hp'.2)) pa_nil) h3 h2) fun σ H Q q => by
    obtain ⟨bx, env, hp0, he, hh, p⟩ := q
    exact ⟨bx, env, hp0, he, hh, Pst.bnd p fun a h1 H1 bx1 x e1 hh1 r1 p1 => sortset_read (Z := Z.wf fb) (b := b) g.K ⟨_, bx1, a, h1, r1, hh1, p1⟩⟩
theorem fn_ok (g : Good G Z cf k cc X) {o : Op} {ty : Bool} {x : Str} {id : String} (h : opFn o = some (ty, x, id)) : (∀ f, CallR X (if ty then .type id else .builtin id) (rL (Z.wf f) (evOp o))) ∧ x ∈ bltNames ∧ bootBuiltins x = some (if ty then .type id else .builtin id) := by
  cases o <;> first | exact nomatch (show none = some _ from h) | skip
  all_goals cases h
  · exact ⟨fun f => cr_len (Z := Z.wf f) g.K, by decide, rfl⟩
  · exact ⟨fun f => cr_abs, by decide, rfl⟩
  · exact ⟨fun f => cr_min2 g.calm, by decide, rfl⟩
  · exact ⟨fun f => cr_max2 g.calm, by decide, rfl⟩
  · exact ⟨fun f => cr_toint, by decide, rfl⟩
  · exact ⟨fun f => cr_allD (Z := Z.wf f) g.K g.calm, by decide, rfl⟩
  · exact ⟨fun f => cr_anyD (Z := Z.wf f) g.K g.calm, by decide, rfl⟩
  · exact ⟨fun f => cr_sumD (Z := Z.wf f) g.K g.calm, by decide, rfl⟩
  · exact ⟨fun f => cr_tupof (Z := Z.wf f) g.K, by decide, rfl⟩
  · exact ⟨fun f => cr_lstof (Z := Z.wf f) g.K _, by decide, rfl⟩
  · exact ⟨fun f => cr_sortedD (Z := Z.wf f) g.K g.un65 _, by decide, rfl⟩
  · exact ⟨fun f => cr_repr (Z := Z.wf f) g.K g.gd g.un65, by decide, rfl⟩
def mtName : Op → Option Str
  | .append => some "append" | .extend => some "extend" | .popAt => some "pop" | .pop => some "pop" | .index => some "index" | .join => some "join" | .upper => some "upper"
  | _ => none
/-- nothing special about the text ahead of a dot -/
def plainB : Expr → Bool
  | .Call _ [] _ _ => false
  | _ => true
theorem plainB_ok {b : Expr} {name : Str} {env : PySem.Env} (h : plainB b = true) : attributeBase b name env (eval b env) = eval b env := by
  cases b <;> first | rfl | skip
  rename_i f as ks p
  cases as with
  | nil => exact Bool.noConfusion (show false = true from h)
  | cons a as => cases f <;> rfl
theorem mt_ok (g : Good G Z cf k cc X) {o : Op} {T : String} {id : String} {m : Str} (h : mtId o T = some id) (hm : mtName o = some m) : MF T m id ∧ ∀ f, MtR X id (rM (Z.wf f) (evOp o) T) := by
  have two : ∀ {A B : String} {r : Option String}, (if T = A then some B else r) = some id → (T = A ∧ id = B) ∨ r = some id := fun {A B r} z => by
    by_cases c : T = A
    · rw [if_pos c] at z
      cases z
      exact .inl ⟨c, rfl⟩
    · rw [if_neg c] at z
      exact .inr z
  cases o <;> first | exact nomatch (show none = some m from hm) | skip
  all_goals cases hm
  · rcases two h with ⟨rfl, rfl⟩ | z
    · exact ⟨⟨PySem.F.plainAttrs_list, PySem.F.slot_list_append, PySem.F.type_list_append⟩, fun f => mt_appendD⟩
    · cases z
  · rcases two h with ⟨rfl, rfl⟩ | z
    · exact ⟨⟨PySem.F.plainAttrs_list, PySem.F.slot_list_extend, PySem.F.type_list_extend⟩, fun f => mt_extendD⟩
    · cases z
  · rcases two h with ⟨rfl, rfl⟩ | z
    · exact ⟨⟨PySem.F.plainAttrs_list, PySem.F.slot_list_pop, PySem.F.type_list_pop⟩, fun f => mt_popAtD⟩
    · cases z
  · rcases two h with ⟨rfl, rfl⟩ | z
    · exact ⟨⟨PySem.F.plainAttrs_list, PySem.F.slot_list_pop, PySem.F.type_list_pop⟩, fun f => mt_popD⟩
    · cases z
  · rcases two h with ⟨rfl, rfl⟩ | z
    · exact ⟨⟨PySem.F.plainAttrs_list, PySem.F.slot_list_index, PySem.F.type_list_index⟩, fun f => mt_indexL (Z := Z.wf f) g.K g.un65⟩
    · rcases two z with ⟨rfl, rfl⟩ | z
      · exact ⟨⟨PySem.F.plainAttrs_tuple, PySem.F.slot_tuple_index, PySem.F.type_tuple_index⟩, fun f => mt_indexT (Z := Z.wf f) g.K g.un65⟩
      · cases z
  · rcases two h with ⟨rfl, rfl⟩ | z
    · exact ⟨⟨PySem.F.plainAttrs_str, PySem.F.slot_str_join, PySem.F.type_str_join⟩, fun f => mt_joinD (Z := Z.wf f) g.K⟩
    · cases z
  · rcases two h with ⟨rfl, rfl⟩ | z
    · exact ⟨⟨PySem.F.plainAttrs_str, PySem.F.slot_str_upper, PySem.F.type_str_upper⟩, fun f => mt_upperD⟩
    · cases z
theorem recv_rep {Z : St0} {H : Hp} {bx : List Addr} {h : HP} {d : D} {x : V} {T : String} (hr : HeapR Z H bx h) (r : Rep Z H bx d x) (e : recvT h d = some T) : tyF Z.K T x H ∧ tyD T d = true := by
  cases d with
  | str z =>
    cases e
    cases r
    exact ⟨.inl rfl, rfl⟩
  | tup xs =>
    cases e
    obtain ⟨a, vs, rfl, f, rr⟩ := r
    obtain ⟨_, ⟨o, f, to, _⟩ | ⟨o, its, n, h1, to, _⟩⟩ := f
    · exact ⟨.inr ⟨rfl, a, rfl, .inl ⟨o, vs, f, to⟩⟩, rfl⟩
    · exact ⟨.inr ⟨rfl, a, rfl, .inr ⟨o, h1, to⟩⟩, rfl⟩
  | lst xs =>
    cases e
    obtain ⟨a, vs, rfl, f, rr⟩ := r
    exact ⟨.inl (.inl ⟨rfl, vs, f.sq⟩), rfl⟩
  | box n =>
    obtain ⟨a, rfl, q⟩ := r
    cases q2 : h[n]? with
    | none => simp [recvT, q2] at e
    | some o =>
      cases o with
      | lst xs =>
        obtain ⟨vs, e2, _⟩ := hr.at_ n a _ q q2
        have e : some "list" = some T := by simpa [recvT, q2] using e
        cases e
        exact ⟨.inl (.inl ⟨rfl, vs, SqL.of e2⟩), rfl⟩
      | dK xs =>
        obtain ⟨vs, e2, _⟩ := hr.at_ n a _ q q2
        have e : some "dict" = some T := by simpa [recvT, q2] using e
        cases e
        exact ⟨.inl (.inr (.inr (.inl ⟨rfl, .inl ⟨vs, e2⟩⟩))), rfl⟩
      | dT xs =>
        obtain ⟨vs, e2, _⟩ := hr.at_ n a _ q q2
        have e : some "dict" = some T := by simpa [recvT, q2] using e
        cases e
        exact ⟨.inl (.inr (.inr (.inl ⟨rfl, .inr ⟨vs, e2⟩⟩))), rfl⟩
  | _ => cases e
theorem se_meth (g : Good G Z cf k cc X) {o : Op} {m : Str} {b : Expr} {es : List Expr} {ap : Pos} {f : Env → HP → Rs D} {fs : Env → HP → Rs (List D)} (h : SE Z X b f) (hs : SA Z X es fs) (hm : mtName o = some m) (hb : plainB b = true) (hl : (ap.endLine == pos.line) = true) (hp : allPlain es = true) (hn : es.length < 30) (h0 : es = [] → ∀ env hp, fs env hp = .ok [] hp) :
    SE Z X (.Call (.Attribute b m ap) es [] pos) (fun env hp => (f env hp).bnd fun x h => if recvOk o x h then (fs env h).bnd fun ds h => evOp o (x :: ds) h else .bad) := fun fb W tk => by
  have hmt : ∀ T id, MF T m id → MtR X id (fun x xs H Q => mtId o T = some id ∧ rM (Z.wf fb) (evOp o) T x xs H Q) := fun T id mf pins s σ H x xs v us Q J rx rs q => (mt_ok g q.1 hm).2 fb pins s σ H x xs v us Q J rx rs q.2
  have start : ∀ {σ : L2.St} {H : Hp} {Q : VK}, tE (Z.wf fb) W (fun env hp => (f env hp).bnd fun x h => if recvOk o x h then (fs env h).bnd fun ds h => evOp o (x :: ds) h else .bad) σ H Q →
      tE (Z.wf fb) W f σ H fun x H1 => ∃ T id bx env hp d, MF T m id ∧ tyF X.K T x H1 ∧ mtId o T = some id ∧ tyD T d = true ∧ Rep (Z.wf fb) H1 bx d x ∧ EnvR (Z.wf fb) H1 bx σ env ∧ HeapR (Z.wf fb) H1 bx hp ∧ Pst (Z.wf fb) H1 bx (fun c d H' => W c d σ H') (RepS (Z.wf fb)) ((fs env hp).bnd fun ds h => evOp o (d :: ds) h) Q := by
    intro σ H Q q
    obtain ⟨bx, env, hp, he, hh, p⟩ := q
    refine ⟨bx, env, hp, he, hh, Pst.bnd p fun d h1 H1 bx1 v e1 hh1 r1 p1 => ?_⟩
    obtain ⟨c, p1⟩ := pst_ite p1
    unfold recvOk at c
    split at c
    · rename_i T eT
      obtain ⟨id, eid⟩ := Option.isSome_iff_exists.mp c
      obtain ⟨t1, t2⟩ := recv_rep hh1 r1 eT
      exact ⟨T, id, bx1, env, h1, d, (mt_ok g eid hm).1, by rw [g.K]; exact t1, eid, t2, r1, he.ext e1, hh1, p1⟩
    · exact Bool.noConfusion c
  have imp : ∀ {σ : L2.St} {H : Hp} {Q Q' : VK}, (∀ v H1, Q v H1 → Q' v H1) → tE (Z.wf fb) W f σ H Q → tE (Z.wf fb) W f σ H Q' := by
    intro σ H Q Q' ff q
    obtain ⟨bx, env, hp, he, hh, p⟩ := q
    refine ⟨bx, env, hp, he, hh, ?_⟩
    cases e : f env hp with
    | ok d h1 => rw [e] at p; exact fun H1 bx1 v e1 hh1 r1 => ff _ _ (p H1 bx1 v e1 hh1 r1)
    | exc x h1 => rw [e] at p; exact p
    | bad => rw [e] at p; exact p
  cases es with
  | nil =>
    refine pe_imp (pe_mt0X hmt (h fb W tk) (plainB_ok hb) hl) fun σ H Q q => imp (fun x H1 z => ?_) (start q)
    obtain ⟨T, id, bx, env, hp, d, z1, z2, z3, z4, z5, z6, z7, z8⟩ := z
    rw [h0 rfl] at z8
    exact ⟨T, id, z1, z2, z3, _, bx, d, [], hp, z5, rfl, z7, z4, z8⟩
  | cons e0 es =>
    refine pe_imp (pe_mtX hmt (h fb W tk) (hs fb W tk) (plainB_ok hb) hl hp hn) fun σ H Q q => imp (fun x H1 z => ?_) (start q)
    obtain ⟨T, id, bx, env, hp, d, z1, z2, z3, z4, z5, z6, z7, z8⟩ := z
    refine ⟨T, id, z1, z2, bx, env, hp, z6, z7, Pst.bnd z8 fun ds h2 H2 bx2 vs e2 hh2 r2 p2 => ?_⟩
    exact ⟨z3, _, bx2, d, ds, h2, Rep.ext e2 _ z5, r2, hh2, z4, p2⟩
def tyStr : Nat → Option Str
  | 0 => some "int" | 1 => some "bool" | 2 => some "str" | 3 => some "tuple" | 4 => some "list" | 5 => some "dict"
  | _ => none
theorem tyStr_ok {t : Nat} {u : Str} (h : tyStr t = some u) : t ∈ [0, 1, 2, 3, 4, 5] ∧ ∃ U, tyName t = some U ∧ bootBuiltins u = some (.type U) ∧ u ∈ bltNames := by
  unfold tyStr at h
  split at h <;> first | (cases h; done) | skip
  all_goals (cases h; exact ⟨by decide, _, rfl, rfl, by decide⟩)
end
def esAll (p : E → Bool) : Es → Bool
  | .nil => true
  | .cons e r => p e && esAll p r
mutual
/-- the text x is told by the tree -/
def chkE (G : Tab) (cc : CC) : E → Expr → Bool
  | .loc i, x => match x with
    | .Name n _ => visOk cc i n
    | _ => false
  | .lit v, x => match x with
    | .Constant c _ _ => ltOk v c
    | _ => false
  | .glo i, x => match x with
    | .Name n _ => glOk cc n && decide (n = G.gnm i) && !decide (n = Str.empty)
    | _ => false
  | .op o es, x => match x with
    | .BinOp a b c _ => decide (opBin o = some b) && chkEs G cc es [a, c]
    | .UnaryOp u a _ => match u with
      | .Not => decide (o = .not) && chkEs G cc es [a]
      | u => decide (opUn o = some u) && chkEs G cc es [a]
    | .Compare a cs bs _ => match cs, bs with
      | [c], [b] => (decide (opCmp o = some c) && chkEs G cc es [a, b]) || (match b with
        | .Constant v _ _ => opCst o c v && chkEs G cc es [a]
        | _ => false)
      | _, _ => false
    | .Subscript a b _ => match b with
      | .Slice lo hi st _ => match lo, hi, st with
        | none, none, some (.UnaryOp .USub (.Constant (.int 1) _ _) _) => decide (o = .rev) && chkEs G cc es [a]
        | _, _, _ => false
      | b => decide (o = .ix) && chkEs G cc es [a, b]
    | .Call f as ks _ => match f, as, ks with
      | .Name n _, a :: as, [] => ((match opFn o with
        | some (_, m, _) => decide (n = m)
        | none => false) && glOk cc n && chkEs G cc es (a :: as)) || (match o, as with
        | .isa t, [.Name u _] => decide (n = "isinstance") && decide (tyStr t = some u) && glOk cc n && glOk cc u && chkEs G cc es [a]
        | .sortset _, [] => (match a with
          | .Call (.Name m _) [x] [] _ => decide (n = "sorted") && decide (m = "set") && glOk cc n && glOk cc m && chkEs G cc es [x]
          | _ => false)
        | _, _ => false)
      | _, _, _ => false
    | _ => false
  | .meth o a es, x => match x with
    | .Call f as ks p => match f, ks with
      | .Attribute b m ap, [] => decide (mtName o = some m) && plainB b && (ap.endLine == p.line) && decide (as.length < 30) && chkE G cc a b && chkEs G cc es as
      | _, _ => false
    | _ => false
  | .sl a lo hi, x => match x with
    | .Subscript b s _ => match s with
      | .Slice l u st _ => chkE G cc a b && chkO G cc lo l && chkO G cc hi u && (match st with | none => true | some _ => false)
      | _ => false
    | _ => false
  | .tup es, x => match x with
    | .Tuple xs _ _ => chkEs G cc es xs && decide (es.len ≤ 1000)
    | _ => false
  | .lst _ es, x => match x with
    | .List xs _ => chkEs G cc es xs && decide (es.len ≤ 1000)
    | _ => false
  | .bop b es, x => match x with
    | .BoolOp o xs _ => decide (o = isAndOp b) && chkEs G cc es xs && (match xs with | [] => false | _ => true)
    | _ => false
  | .ite c a b, x => match x with
    | .IfExp t y z _ => chkE G cc c t && chkE G cc a y && chkE G cc b z
    | _ => false
  | .chain o1 o2 a b c, x => match x with
    | .Compare l ops rs _ => match ops, rs with
      | [p, q], [m, r] => decide (opCmp o1 = some p) && decide (opCmp o2 = some q) && chkE G cc a l && chkE G cc b m && chkE G cc c r && plainX r
      | _, _ => false
    | _ => false
  | .call f es, x => match x with
    | .Call g as ks _ => match g, ks with
      | .Name n _, [] => glOk cc n && decide (n = G.fnm f) && !decide (n = Str.empty) && chkEs G cc es as
      | _, _ => false
    | _ => false
  | .comp _ own t it ifs elt, x => match x with
    | .ListComp y gs scope _ => match gs with
      | [⟨tg, iter, is, as⟩] => decide (as = 0) && chkI G cc it tg iter && plainX iter && blkC cc.N cc.sc scope (ownP cc own) && (t.slots.all fun i => decide (i ∈ own)) && chkT (ccB cc scope) t tg && chkEs G (ccB cc scope) ifs is && decide (ifs.len ≤ 1) && chkE G (ccB cc scope) elt y
      | _ => false
    | _ => false
def chkEs (G : Tab) (cc : CC) : Es → List Expr → Bool
  | .nil, xs => match xs with
    | [] => true
    | _ => false
  | .cons e r, xs => match xs with
    | [] => false
    | x :: xs => plainX x && chkE G cc e x && chkEs G cc r xs
def chkO (G : Tab) (cc : CC) : Es → Option Expr → Bool
  | .nil, x => match x with
    | none => true
    | _ => false
  | .cons e r, x => match x with
    | some x => chkE G cc e x && (match r with | .nil => true | _ => false)
    | none => false
def chkI (G : Tab) (cc : CC) : I → Expr → Expr → Bool
  | .seq e, _, x => chkE G cc e x
  | .rng es, _, x => match x with
    | .Call g as ks _ => match g, ks with
      | .Name n _, [] => decide (n = "range") && glOk cc n && chkEs G cc es as && decide (1 ≤ es.len) && decide (es.len ≤ 3)
      | _, _ => false
    | _ => false
  | .enm es, tg, x => match tg, x with
    | .Tuple .., .Call g as ks _ => match g, ks with
      | .Name n _, [] => decide (n = "enumerate") && glOk cc n && chkEs G cc es as && decide (es.len = 1)
      | _, _ => false
    | _, _ => false
  | .zip es, tg, x => match tg, x with
    | .Tuple .., .Call g as ks _ => match g, ks with
      | .Name n _, [] => decide (n = "zip") && glOk cc n && chkEs G cc es as && decide (es.len = 2)
      | _, _ => false
    | _, _ => false
end
end Mp

end
section
set_option maxRecDepth 100000
set_option maxHeartbeats 8000000
namespace Mp
open PySem PySem.Spec PyProof.Rows L2

section
variable {G : Tab} {Z : St0} {cf : Fns} {k : Nat} {cc : CC} {X : Cx} {pos : Pos}
theorem chkEs_len {G : Tab} {cc : CC} : ∀ {es : Es} {xs : List Expr}, chkEs G cc es xs = true → xs.length = es.len
  | .nil, xs, h => by
    unfold chkEs at h
    cases xs with
    | nil => rfl
    | cons x xs => exact Bool.noConfusion (show false = true from h)
  | .cons e r, xs, h => by
    unfold chkEs at h
    cases xs with
    | nil => exact Bool.noConfusion (show false = true from h)
    | cons x xs =>
      dsimp only at h
      rw [Bool.and_eq_true] at h
      show xs.length + 1 = r.len + 1
      rw [chkEs_len h.2]
theorem chkEs_plain {G : Tab} {cc : CC} : ∀ {es : Es} {xs : List Expr}, chkEs G cc es xs = true → allPlain xs = true
  | .nil, xs, h => by
    unfold chkEs at h
    cases xs with
    | nil => rfl
    | cons x xs => exact Bool.noConfusion (show false = true from h)
  | .cons e r, xs, h => by
    unfold chkEs at h
    cases xs with
    | nil => exact Bool.noConfusion (show false = true from h)
    | cons x xs =>
      dsimp only at h
      rw [Bool.and_eq_true, Bool.and_eq_true] at h
      show (plainX x && allPlain xs) = true
      rw [h.1.1, chkEs_plain h.2]
      rfl
theorem evEs_len (cf : Fns) (gl : Nat → D) : ∀ (es : Es) (env : Env) (hp : HP) (ds : List D) (hp' : HP), evEs cf gl es env hp = .ok ds hp' → ds.length = es.len
  | .nil, env, hp, ds, hp', h => by
    unfold evEs at h
    cases h
    rfl
  | .cons e r, env, hp, ds, hp', h => by
    unfold evEs at h
    cases e1 : evE cf gl e env hp with
    | ok d h1 =>
      rw [e1] at h
      dsimp only [bnd_ok] at h
      cases e2 : evEs cf gl r env h1 with
      | ok es h2 =>
        rw [e2] at h
        cases h
        show es.length + 1 = r.len + 1
        rw [evEs_len cf gl r env _ _ _ e2]
      | exc x h2 => rw [e2] at h; cases h
      | bad => rw [e2] at h; cases h
    | exc x h2 => rw [e1] at h; cases h
    | bad => rw [e1] at h; cases h
theorem evEs1 (cf : Fns) (gl : Nat → D) (a : E) {β : Type} (K : List D → HP → Rs β) : (fun env hp => (evEs cf gl (.cons a .nil) env hp).bnd K) = fun env hp => (evE cf gl a env hp).bnd fun x hp => K [x] hp := by
  funext env hp
  simp only [evEs, bnd_assoc, bnd_ok]
theorem evEs2 (cf : Fns) (gl : Nat → D) (a b : E) {β : Type} (K : List D → HP → Rs β) : (fun env hp => (evEs cf gl (.cons a (.cons b .nil)) env hp).bnd K) = fun env hp => (evE cf gl a env hp).bnd fun x hp => (evE cf gl b env hp).bnd fun y hp => K [x, y] hp := by
  funext env hp
  simp only [evEs, bnd_assoc, bnd_ok]
theorem chk1 {G : Tab} {cc : CC} {es : Es} {a : Expr} (h : chkEs G cc es [a] = true) : ∃ e, es = .cons e .nil ∧ chkE G cc e a = true ∧ plainX a = true := by
  cases es with
  | nil => exact Bool.noConfusion (show false = true from h)
  | cons e r =>
    unfold chkEs at h
    dsimp only at h
    rw [Bool.and_eq_true, Bool.and_eq_true] at h
    cases r with
    | nil => exact ⟨e, rfl, h.1.2, h.1.1⟩
    | cons e2 r2 => exact Bool.noConfusion (show false = true from (by have q := h.2; unfold chkEs at q; exact q))
theorem chk2 {G : Tab} {cc : CC} {es : Es} {a b : Expr} (h : chkEs G cc es [a, b] = true) : ∃ e f, es = .cons e (.cons f .nil) ∧ chkE G cc e a = true ∧ plainX a = true ∧ chkE G cc f b = true ∧ plainX b = true := by
  cases es with
  | nil => exact Bool.noConfusion (show false = true from h)
  | cons e r =>
    unfold chkEs at h
    dsimp only at h
    rw [Bool.and_eq_true, Bool.and_eq_true] at h
    obtain ⟨f, rfl, h1, h2⟩ := chk1 h.2
    exact ⟨e, f, rfl, h.1.2, h.1.1, h1, h2⟩
theorem evT_op (cf : Fns) (gl : Nat → D) {o : Op} (h : o ≠ .not) (es : Es) : evT cf gl (.op o es) = fun env hp => ((evEs cf gl es env hp).bnd (evOp o)).bnd truth := by
  funext env hp
  rw [bnd_assoc]
  cases o <;> first | exact absurd rfl h | (simp only [evT]; rfl)
theorem evE_op (cf : Fns) (gl : Nat → D) (o : Op) (es : Es) : evE cf gl (.op o es) = fun env hp => (evEs cf gl es env hp).bnd (evOp o) := by
  funext env hp
  simp only [evE]
theorem truth_def : (fun (d : D) (h : HP) => (match truD h d with
  | some b => Rs.ok b h
  | none => .bad)) = truth := rfl
theorem st_bad {x : Expr} : ST Z X x (fun _ _ => .bad) := fun fb W tk => ⟨fun pins s σ H Q I q => by
  obtain ⟨bx, env, hp, he, hh, p⟩ := q
  exact False.elim p⟩
theorem bop_form {b : Bool} {x : Expr} {o : BoolOp} (h : decide (o = isAndOp b) = true) : o = isAndOp b := by simpa using h
theorem eqSE {x : Expr} {f f' : Env → HP → Rs D} (h : SE Z X x f) (e : f' = f) : SE Z X x f' := e ▸ h
theorem eqST {x : Expr} {f f' : Env → HP → Rs Bool} (h : ST Z X x f) (e : f' = f) : ST Z X x f' := e ▸ h
theorem eqSW {x : Expr} {f f' : Env → HP → Rs Bool} (h : SW Z X x f) (e : f' = f) : SW Z X x f' := e ▸ h
theorem eqSA {x : List Expr} {f f' : Env → HP → Rs (List D)} (h : SA Z X x f) (e : f' = f) : SA Z X x f' := e ▸ h
theorem eqSTs {x : List Expr} {f f' : Env → HP → Rs Bool} (h : STs Z X x f) (e : f' = f) : STs Z X x f' := e ▸ h
theorem eqSI {tg x : Expr} {f f' : Env → HP → Rs IV} (h : SI Z X tg x f) (e : f' = f) : SI Z X tg x f' := e ▸ h
mutual
theorem sndE : ∀ (e : E) (cc : CC) (X : Cx) (g : Good G Z cf k cc X) (x : Expr), chkE G cc e x = true → SE Z X x (evE cf G.gl e) ∧ ST Z X x (evT cf G.gl e)
  | .loc i, cc, X, g, x, h => by
    have hE : SE Z X x (evE cf G.gl (.loc i)) := by
      unfold chkE at h
      cases x <;> first | exact Bool.noConfusion (show false = true from h) | skip
      all_goals try dsimp only at h
      exact eqSE (se_loc g h) (by funext env hp; first | rfl | (simp only [evE]; rfl))
    refine ⟨hE, ?_⟩
    unfold chkE at h
    cases x <;> first | exact Bool.noConfusion (show false = true from h) | skip
    all_goals try dsimp only at h
    rename_i n p
    intro fb W tk
    refine pt_imp (st_plain g (se_loc (pos := p) g h) rfl fb W tk) fun σ H Q q => ?_
    obtain ⟨bx, env, hp, he, hh, p⟩ := q
    refine ⟨bx, env, hp, he, hh, ?_⟩
    simp only [evT] at p
    split at p
    · rename_i d e
      simp only [e]
      exact p
    · exact False.elim p
  | .lit v, cc, X, g, x, h => by
    have hE : SE Z X x (evE cf G.gl (.lit v)) := by
      unfold chkE at h
      cases x <;> first | exact Bool.noConfusion (show false = true from h) | skip
      all_goals try dsimp only at h
      exact eqSE (se_lit h) (by funext env hp; first | rfl | (simp only [evE]) | (simp only [evE]; rfl))
    refine ⟨hE, ?_⟩
    unfold chkE at h
    cases x <;> first | exact Bool.noConfusion (show false = true from h) | skip
    all_goals try dsimp only at h
    exact eqST (st_plain g (se_lit h) rfl) (by funext env hp; first | rfl | (simp only [evT]) | (simp only [evT]; rfl))
  | .glo i, cc, X, g, x, h => by
    have hE : SE Z X x (evE cf G.gl (.glo i)) := by
      unfold chkE at h
      cases x <;> first | exact Bool.noConfusion (show false = true from h) | skip
      all_goals try dsimp only at h
      simp only [Bool.and_eq_true, decide_eq_true_eq, Bool.not_eq_true', decide_eq_false_iff_not] at h
      exact eqSE (se_glo g h.1.1 h.1.2 h.2) (by funext env hp; first | rfl | (simp only [evE]) | (simp only [evE]; rfl))
    refine ⟨hE, ?_⟩
    unfold chkE at h
    cases x <;> first | exact Bool.noConfusion (show false = true from h) | skip
    all_goals try dsimp only at h
    simp only [Bool.and_eq_true, decide_eq_true_eq, Bool.not_eq_true', decide_eq_false_iff_not] at h
    exact eqST (st_plain g (se_glo g h.1.1 h.1.2 h.2) rfl) (by funext env hp; first | rfl | (simp only [evT]) | (simp only [evT]; rfl))
  | .op o es, cc, X, g, x, h => by
    have hE : SE Z X x (evE cf G.gl (.op o es)) := by
      rw [evE_op]
      unfold chkE at h
      cases x <;> first | exact Bool.noConfusion (show false = true from h) | skip
      all_goals try dsimp only at h
      · rename_i a b c p
        simp only [Bool.and_eq_true, decide_eq_true_eq] at h
        obtain ⟨e, f, rfl, h1, _, h2, _⟩ := chk2 h.2
        rw [evEs2]
        exact se_bin (bin_ok g h.1) ((sndE e _ _ g a h1).1) ((sndE f _ _ g c h2).1)
      · rename_i u a p
        cases u with
        | Not =>
          simp only [Bool.and_eq_true, decide_eq_true_eq] at h
          obtain ⟨rfl, h⟩ := h
          obtain ⟨e, rfl, h1, _⟩ := chk1 h
          rw [evEs1]
          exact se_not g ((sndE e _ _ g a h1).1)
        | _ =>
          simp only [Bool.and_eq_true, decide_eq_true_eq] at h
          obtain ⟨e, rfl, h1, _⟩ := chk1 h.2
          rw [evEs1]
          exact se_un (un_ok h.1) ((sndE e _ _ g a h1).1)
      · rename_i a cs bs p
        split at h
        · rename_i cs' bs' c b
          rw [Bool.or_eq_true] at h
          rcases h with h | h
          · simp only [Bool.and_eq_true, decide_eq_true_eq] at h
            obtain ⟨e, f, rfl, h1, _, h2, hp⟩ := chk2 h.2
            rw [evEs2]
            exact se_cmp (cmp_ok g h.1) ((sndE e _ _ g a h1).1) ((sndE f _ _ g b h2).1) hp
          · cases b <;> first | exact Bool.noConfusion (show false = true from h) | skip
            rw [Bool.and_eq_true] at h
            obtain ⟨e, rfl, h1, _⟩ := chk1 h.2
            rw [evEs1]
            obtain ⟨⟨v, hv, ho⟩, _⟩ := cst_ok (X := X) (Z := Z) (j := by assumption) (cp := by assumption) h.1
            exact se_cmp1 ho ((sndE e _ _ g a h1).1) hv
        · exact Bool.noConfusion (show false = true from h)
      · rename_i f as ks p
        split at h
        · rename_i f as ks n p2 a as
          rw [Bool.or_eq_true] at h
          rcases h with h | h
          · rw [Bool.and_eq_true, Bool.and_eq_true] at h
            obtain ⟨⟨h1, h2⟩, h3⟩ := h
            split at h1
            · rename_i ty m id eo
              have e : n = m := by simpa using h1
              subst e
              obtain ⟨c1, c2, c3⟩ := fn_ok g eo
              cases ty with
              | true => exact se_blty g c1 (sndEs es _ _ g _ h3) h2 c2 c3 (chkEs_plain h3)
              | false => exact se_blt g c1 (sndEs es _ _ g _ h3) h2 c2 c3 (chkEs_plain h3)
            · exact Bool.noConfusion h1
          · split at h
            · rename_i t u p3
              simp only [Bool.and_eq_true, decide_eq_true_eq] at h
              obtain ⟨⟨⟨⟨rfl, z2⟩, z3⟩, z4⟩, z5⟩ := h
              obtain ⟨e, rfl, h1, hp⟩ := chk1 z5
              obtain ⟨y1, U, y2, y3, y4⟩ := tyStr_ok z2
              rw [evEs1]
              exact se_isa g y1 y2 y3 y4 z3 z4 ((sndE e _ _ g a h1).1) hp
            · split at h
              · simp only [Bool.and_eq_true, decide_eq_true_eq] at h
                obtain ⟨⟨⟨⟨z1, z2⟩, z3⟩, z4⟩, z5⟩ := h
                exact se_sortset g (sndEs es _ _ g _ z5) z1 z2 z3 z4 (chkEs_plain z5)
              · exact Bool.noConfusion (show false = true from h)
            · exact Bool.noConfusion (show false = true from h)
        · exact Bool.noConfusion (show false = true from h)
      · rename_i a b p
        split at h
        · rename_i lo hi st p2
          split at h
          · rw [Bool.and_eq_true, decide_eq_true_eq] at h
            obtain ⟨rfl, h⟩ := h
            obtain ⟨e, rfl, h1, _⟩ := chk1 h
            rw [evEs1]
            exact se_rev g ((sndE e _ _ g a h1).1)
          · exact Bool.noConfusion (show false = true from h)
        · rw [Bool.and_eq_true, decide_eq_true_eq] at h
          obtain ⟨rfl, h⟩ := h
          obtain ⟨e, f, rfl, h1, _, h2, hp⟩ := chk2 h
          rw [evEs2]
          exact se_ix (fun f => ix_of (Z := Z.wf f) g.K) ((sndE e _ _ g a h1).1) ((sndE f _ _ g _ h2).1) hp
    refine ⟨hE, ?_⟩
    have h0 := h
    unfold chkE at h
    cases x <;> first | exact Bool.noConfusion (show false = true from h) | skip
    all_goals try dsimp only at h
    · rename_i a b c p
      simp only [Bool.and_eq_true, decide_eq_true_eq] at h
      obtain ⟨e, f, rfl, h1, _, h2, _⟩ := chk2 h.2
      have ne : o ≠ .not := fun e => by rw [e] at h; exact nomatch h.1
      rw [evT_op cf G.gl ne]
      have q := st_plain (X := X) g (se_bin (pos := p) (bin_ok g h.1) ((sndE e _ _ g a h1).1) ((sndE f _ _ g c h2).1)) rfl
      refine eqST q ?_
      funext env hp
      simp only [evEs, bnd_assoc, bnd_ok]
    · rename_i u a p
      cases u with
      | Not =>
        simp only [Bool.and_eq_true, decide_eq_true_eq] at h
        obtain ⟨rfl, h⟩ := h
        obtain ⟨e, rfl, h1, _⟩ := chk1 h
        have q := st_not (pos := p) ((sndE e _ _ g a h1).2)
        exact eqST (q) (by funext env hp; first | rfl | (simp only [evT]) | (simp only [evT]; rfl))
      | _ =>
        simp only [Bool.and_eq_true, decide_eq_true_eq] at h
        obtain ⟨e, rfl, h1, _⟩ := chk1 h.2
        have ne : o ≠ .not := fun e => by rw [e] at h; exact nomatch h.1
        rw [evT_op cf G.gl ne]
        have q := st_plain (X := X) g (se_un (pos := p) (un_ok h.1) ((sndE e _ _ g a h1).1)) rfl
        refine eqST q ?_
        funext env hp
        simp only [evEs, bnd_assoc, bnd_ok]
    · rename_i a cs bs p
      split at h
      · rename_i cs' bs' c b
        rw [Bool.or_eq_true] at h
        rcases h with h | h
        · simp only [Bool.and_eq_true, decide_eq_true_eq] at h
          obtain ⟨e, f, rfl, h1, _, h2, hp⟩ := chk2 h.2
          have ne : o ≠ .not := fun e => by rw [e] at h; exact nomatch h.1
          rw [evT_op cf G.gl ne]
          have q := st_cmp (pos := p) (cmp_ok g h.1) (cmp_bl h.1) ((sndE e _ _ g a h1).1) ((sndE f _ _ g b h2).1) hp
          refine eqST q ?_
          funext env hp
          simp only [evEs, bnd_assoc, bnd_ok]
        · cases b <;> first | exact Bool.noConfusion (show false = true from h) | skip
          rw [Bool.and_eq_true] at h
          obtain ⟨e, rfl, h1, _⟩ := chk1 h.2
          have ne : o ≠ .not := fun e => by rw [e] at h; exact absurd h.1 (by unfold opCst; simp)
          rw [evT_op cf G.gl ne]
          obtain ⟨⟨v, hv, ho⟩, hb⟩ := cst_ok (X := X) (Z := Z) (j := by assumption) (cp := by assumption) h.1
          have q := st_cmp1 (pos := p) ho hb ((sndE e _ _ g a h1).1) hv
          refine eqST q ?_
          funext env hp
          simp only [evEs, bnd_assoc, bnd_ok]
      · exact Bool.noConfusion (show false = true from h)
    · rename_i f as ks p
      have q := st_plain g (hE) rfl
      rw [evE_op] at q
      have ne : o ≠ .not := fun e => by
        rw [e] at h
        split at h
        · rw [Bool.or_eq_true, Bool.and_eq_true, Bool.and_eq_true] at h
          rcases h with h | h
          · exact Bool.noConfusion (show false = true from h.1.1)
          · exact Bool.noConfusion (show false = true from h)
        · exact Bool.noConfusion (show false = true from h)
      rw [evT_op cf G.gl ne]
      exact q
    · rename_i a b p
      have q := st_plain g (hE) rfl
      rw [evE_op] at q
      have ne : o ≠ .not := fun e => by
        rw [e] at h
        split at h
        · split at h
          · rw [Bool.and_eq_true, decide_eq_true_eq] at h
            exact nomatch h.1
          · exact Bool.noConfusion (show false = true from h)
        · rw [Bool.and_eq_true, decide_eq_true_eq] at h
          exact nomatch h.1
      rw [evT_op cf G.gl ne]
      exact q
  | .meth o a es, cc, X, g, x, h => by
    unfold chkE at h
    cases x <;> first | exact Bool.noConfusion (show false = true from h) | skip
    all_goals try dsimp only at h
    rename_i ff as ks p
    split at h
    · rename_i b m ap
      simp only [Bool.and_eq_true, decide_eq_true_eq] at h
      obtain ⟨⟨⟨⟨⟨z1, z2⟩, z3⟩, z4⟩, z5⟩, z6⟩ := h
      have hE : SE Z X (.Call (.Attribute b m ap) as [] p) (evE cf G.gl (.meth o a es)) := by
        have q := se_meth (pos := p) g ((sndE a _ _ g b z5).1) (sndEs es _ _ g _ z6) z1 z2 z3 (chkEs_plain z6) z4 (fun e0 env hp => by
          have l := chkEs_len z6
          rw [e0] at l
          cases es with
          | nil => simp only [evEs]
          | cons e r => exact absurd l (by show (0 : Nat) ≠ r.len + 1; omega))
        exact eqSE q (by funext env hp; first | rfl | (simp only [evE]; done) | (simp only [evE]; rfl))
      refine ⟨hE, ?_⟩
      have q := st_plain g hE rfl
      exact eqST q (by funext env hp; simp only [evT, evE, bnd_assoc]; rfl)
    · exact Bool.noConfusion (show false = true from h)
  | .sl a lo hi, cc, X, g, x, h => by
    have hE : SE Z X x (evE cf G.gl (.sl a lo hi)) := by
      unfold chkE at h
      cases x <;> first | exact Bool.noConfusion (show false = true from h) | skip
      all_goals try dsimp only at h
      rename_i b s p
      cases s <;> first | exact Bool.noConfusion (show false = true from h) | skip
      rename_i l u st p2
      simp only [Bool.and_eq_true] at h
      obtain ⟨⟨⟨h1, h2⟩, h3⟩, h4⟩ := h
      cases st with
      | some _ => exact Bool.noConfusion h4
      | none =>
        have q := se_sl (pos := p) (p2 := p2) g ((sndE a _ _ g b h1).1) (sndO lo _ _ g l h2).1 (sndO hi _ _ g u h3).1
        rw [(sndO lo _ _ g l h2).2, (sndO hi _ _ g u h3).2] at q
        exact eqSE (q) (by funext env hp; first | rfl | (simp only [evE]) | (simp only [evE]; rfl))
    refine ⟨hE, ?_⟩
    have q := hE
    unfold chkE at h
    cases x <;> first | exact Bool.noConfusion (show false = true from h) | skip
    all_goals try dsimp only at h
    have q := st_plain g q rfl
    simp only [evE, bnd_assoc] at q
    exact eqST (q) (by funext env hp; first | rfl | (simp only [evT]) | (simp only [evT]; rfl))
  | .tup es, cc, X, g, x, h => by
    have hE : SE Z X x (evE cf G.gl (.tup es)) := by
      unfold chkE at h
      cases x <;> first | exact Bool.noConfusion (show false = true from h) | skip
      all_goals try dsimp only at h
      rw [Bool.and_eq_true, decide_eq_true_eq] at h
      have q := fun p j => se_tup (pos := p) (j := j) (sndEs es _ _ g _ h.1) fun env hp ds hp' e => by rw [evEs_len cf G.gl es env hp ds hp' e]; exact h.2
      exact eqSE (q _ _) (by funext env hp; first | rfl | (simp only [evE]) | (simp only [evE]; rfl))
    refine ⟨hE, ?_⟩
    have q := hE
    unfold chkE at h
    cases x <;> first | exact Bool.noConfusion (show false = true from h) | skip
    all_goals try dsimp only at h
    have q := st_plain g q rfl
    simp only [evE, bnd_assoc, bnd_ok] at q
    exact eqST (q) (by funext env hp; first | rfl | (simp only [evT]) | (simp only [evT]; rfl))
  | .lst b es, cc, X, g, x, h => by
    have hE : SE Z X x (evE cf G.gl (.lst b es)) := by
      unfold chkE at h
      cases x <;> first | exact Bool.noConfusion (show false = true from h) | skip
      all_goals try dsimp only at h
      rw [Bool.and_eq_true, decide_eq_true_eq] at h
      have q := fun p => se_lst (pos := p) (b := b) (sndEs es _ _ g _ h.1) fun env hp ds hp' e => by rw [evEs_len cf G.gl es env hp ds hp' e]; exact h.2
      exact eqSE (q _) (by funext env hp; first | rfl | (simp only [evE]) | (simp only [evE]; rfl))
    refine ⟨hE, ?_⟩
    exact eqST (st_bad) (by funext env hp; first | rfl | (simp only [evT]) | (simp only [evT]; rfl))
  | .bop b es, cc, X, g, x, h => by
    have hE : SE Z X x (evE cf G.gl (.bop b es)) := by
      unfold chkE at h
      cases x <;> first | exact Bool.noConfusion (show false = true from h) | skip
      all_goals try dsimp only at h
      rename_i o xs p
      simp only [Bool.and_eq_true, decide_eq_true_eq] at h
      obtain ⟨⟨rfl, h1⟩, h2⟩ := h
      exact eqSE (sndB b es _ _ g xs p h1 h2) (by funext env hp; first | rfl | (simp only [evE]) | (simp only [evE]; rfl))
    refine ⟨hE, ?_⟩
    unfold chkE at h
    cases x <;> first | exact Bool.noConfusion (show false = true from h) | skip
    all_goals try dsimp only at h
    rename_i o xs p
    simp only [Bool.and_eq_true, decide_eq_true_eq] at h
    obtain ⟨⟨rfl, h1⟩, h2⟩ := h
    exact eqST ((sndBT b es _ _ g xs p h1 h2).st) (by funext env hp; first | rfl | (simp only [evT]) | (simp only [evT]; rfl))
  | .ite c a b, cc, X, g, x, h => by
    have hE : SE Z X x (evE cf G.gl (.ite c a b)) := by
      unfold chkE at h
      cases x <;> first | exact Bool.noConfusion (show false = true from h) | skip
      all_goals try dsimp only at h
      simp only [Bool.and_eq_true] at h
      have q := fun p => se_ite (pos := p) ((sndE c _ _ g _ h.1.1).2) ((sndE a _ _ g _ h.1.2).1) ((sndE b _ _ g _ h.2).1)
      exact eqSE (q _) (by funext env hp; first | rfl | (simp only [evE]) | (simp only [evE]; rfl))
    refine ⟨hE, ?_⟩
    unfold chkE at h
    cases x <;> first | exact Bool.noConfusion (show false = true from h) | skip
    all_goals try dsimp only at h
    simp only [Bool.and_eq_true] at h
    have q := fun p => st_ite (pos := p) ((sndE c _ _ g _ h.1.1).2) ((sndE a _ _ g _ h.1.2).2) ((sndE b _ _ g _ h.2).2)
    exact eqST (q _) (by funext env hp; first | rfl | (simp only [evT]) | (simp only [evT]; rfl))
  | .chain o1 o2 a b c, cc, X, g, x, h => by
    have hE : SE Z X x (evE cf G.gl (.chain o1 o2 a b c)) := by
      unfold chkE at h
      cases x <;> first | exact Bool.noConfusion (show false = true from h) | skip
      all_goals try dsimp only at h
      rename_i l ops rs p
      split at h
      · rename_i ops' rs' pp q m r
        simp only [Bool.and_eq_true, decide_eq_true_eq] at h
        obtain ⟨⟨⟨⟨⟨h1, h2⟩, h3⟩, h4⟩, h5⟩, h6⟩ := h
        have q := se_chain (pos := p) (cmp_ok g h1) (cmp_ok g h2) (cmp_bl h1) ((sndE a _ _ g _ h3).1) ((sndE b _ _ g _ h4).1) ((sndE c _ _ g _ h5).1) h6
        exact eqSE (q) (by funext env hp; first | rfl | (simp only [evE]) | (simp only [evE]; rfl))
      · exact Bool.noConfusion (show false = true from h)
    refine ⟨hE, ?_⟩
    unfold chkE at h
    cases x <;> first | exact Bool.noConfusion (show false = true from h) | skip
    all_goals try dsimp only at h
    rename_i l ops rs p
    split at h
    · rename_i ops' rs' pp q m r
      simp only [Bool.and_eq_true, decide_eq_true_eq] at h
      obtain ⟨⟨⟨⟨⟨h1, h2⟩, h3⟩, h4⟩, h5⟩, h6⟩ := h
      have q := st_chain (pos := p) (cmp_ok g h1) (cmp_ok g h2) (cmp_bl h1) (cmp_bl h2) ((sndE a _ _ g _ h3).1) ((sndE b _ _ g _ h4).1) ((sndE c _ _ g _ h5).1) h6
      exact eqST q (by funext env hp; first | rfl | (simp only [evT, chainF]) | (simp only [evT, chainF]; rfl))
    · exact Bool.noConfusion (show false = true from h)
  | .call f es, cc, X, g, x, h => by
    have hE : SE Z X x (evE cf G.gl (.call f es)) := by
      unfold chkE at h
      cases x <;> first | exact Bool.noConfusion (show false = true from h) | skip
      all_goals try dsimp only at h
      rename_i gg as ks p
      split at h
      · rename_i n p2
        simp only [Bool.and_eq_true, decide_eq_true_eq, Bool.not_eq_true', decide_eq_false_iff_not] at h
        obtain ⟨⟨⟨h1, h2⟩, h3⟩, h4⟩ := h
        cases as with
        | nil =>
          have l := chkEs_len h4
          cases es with
          | cons e r => exact absurd l (by show (0 : Nat) ≠ r.len + 1; omega)
          | nil =>
            have q := se_call0 (pos := p) (p := p2) g h1 h2 h3
            exact eqSE (q) (by funext env hp; first | rfl | (simp only [evE, evEs, bnd_ok]) | (simp only [evE, evEs, bnd_ok]; rfl))
        | cons a as =>
          have q := se_call (pos := p) (p := p2) g (sndEs es _ _ g _ h4) h1 h2 h3 (chkEs_plain h4)
          exact eqSE (q) (by funext env hp; first | rfl | (simp only [evE]) | (simp only [evE]; rfl))
      · exact Bool.noConfusion (show false = true from h)
    refine ⟨hE, ?_⟩
    have q := hE
    unfold chkE at h
    cases x <;> first | exact Bool.noConfusion (show false = true from h) | skip
    all_goals try dsimp only at h
    have q := st_plain g q rfl
    simp only [evE, bnd_assoc] at q
    exact eqST (q) (by funext env hp; first | rfl | (simp only [evT]) | (simp only [evT]; rfl))
  | .comp b own t it ifs elt, cc, X, g, x, h => by
    have hE : SE Z X x (evE cf G.gl (.comp b own t it ifs elt)) := by
      unfold chkE at h
      cases x <;> first | exact Bool.noConfusion (show false = true from h) | skip
      all_goals try dsimp only at h
      rename_i y gs scope p
      split at h
      · rename_i tg iter is as
        simp only [Bool.and_eq_true, decide_eq_true_eq] at h
        obtain ⟨⟨⟨⟨⟨⟨⟨⟨rfl, h1⟩, h2⟩, h3⟩, h4⟩, h5⟩, h6⟩, h7⟩, h8⟩ := h
        have q := se_comp (pos := p) (b := b) g (sndI it _ _ g tg iter h1) h3 h4 h5 (fun X' g' => sndTs ifs _ _ g' is h6 h7) (fun X' g' => (sndE elt _ _ g' y h8).1) h2
        exact eqSE (q) (by funext env hp; first | rfl | (simp only [evE]) | (simp only [evE]; rfl))
      · exact Bool.noConfusion (show false = true from h)
    refine ⟨hE, ?_⟩
    exact eqST (st_bad) (by funext env hp; first | rfl | (simp only [evT]) | (simp only [evT]; rfl))
theorem sndEs : ∀ (es : Es) (cc : CC) (X : Cx) (g : Good G Z cf k cc X) (xs : List Expr), chkEs G cc es xs = true → SA Z X xs (evEs cf G.gl es)
  | .nil, cc, X, g, xs, h => by
    unfold chkEs at h
    cases xs with
    | nil => exact eqSA (sa_nil) (by funext env hp; first | rfl | (simp only [evEs]) | (simp only [evEs]; rfl))
    | cons x xs => exact Bool.noConfusion (show false = true from h)
  | .cons e r, cc, X, g, xs, h => by
    unfold chkEs at h
    cases xs with
    | nil => exact Bool.noConfusion (show false = true from h)
    | cons x xs =>
      dsimp only at h
      rw [Bool.and_eq_true, Bool.and_eq_true] at h
      have q := sa_cons ((sndE e _ _ g x h.1.2).1) (sndEs r _ _ g xs h.2) h.1.1
      exact eqSA (q) (by funext env hp; first | rfl | (simp only [evEs]) | (simp only [evEs]; rfl))
theorem sndO : ∀ (es : Es) (cc : CC) (X : Cx) (g : Good G Z cf k cc X) (x : Option Expr), chkO G cc es x = true → SO Z X x (match es with
    | .nil => none
    | .cons e _ => some (evE cf G.gl e)) ∧ optF (match es with
    | .nil => none
    | .cons e _ => some (evE cf G.gl e)) = evO cf G.gl es
  | .nil, cc, X, g, x, h => by
    unfold chkO at h
    cases x with
    | none => exact ⟨trivial, by funext env hp; first | rfl | (simp only [evO, optF]) | (simp only [evO, optF]; rfl)⟩
    | some x => exact Bool.noConfusion (show false = true from h)
  | .cons e r, cc, X, g, x, h => by
    unfold chkO at h
    cases x with
    | none => exact Bool.noConfusion (show false = true from h)
    | some x =>
      dsimp only at h
      rw [Bool.and_eq_true] at h
      exact ⟨(sndE e _ _ g x h.1).1, by funext env hp; first | rfl | (simp only [evO, optF]) | (simp only [evO, optF]; rfl)⟩
theorem sndB (b : Bool) : ∀ (es : Es) (cc : CC) (X : Cx) (g : Good G Z cf k cc X) (xs : List Expr) (p : Pos), chkEs G cc es xs = true → (match xs with | [] => false | _ => true) = true → SE Z X (.BoolOp (isAndOp b) xs p) (evB cf G.gl b es)
  | .nil, cc, X, g, xs, p, h, h2 => by
    unfold chkEs at h
    cases xs with
    | nil => exact Bool.noConfusion h2
    | cons x xs => exact Bool.noConfusion (show false = true from h)
  | .cons e r, cc, X, g, xs, p, h, h2 => by
    unfold chkEs at h
    cases xs with
    | nil => exact Bool.noConfusion h2
    | cons x xs =>
      dsimp only at h
      rw [Bool.and_eq_true, Bool.and_eq_true] at h
      cases r with
      | nil =>
        have l := chkEs_len h.2
        cases xs with
        | cons y ys => exact absurd l (by show ys.length + 1 ≠ 0; omega)
        | nil =>
          have q := se_one (pos := p) (o := isAndOp b) ((sndE e _ _ g x h.1.2).1)
          exact eqSE (q) (by funext env hp; first | rfl | (simp only [evB]) | (simp only [evB]; rfl))
      | cons e2 r2 =>
        have l := chkEs_len h.2
        cases xs with
        | nil => exact absurd l (by show (0 : Nat) ≠ r2.len + 1; omega)
        | cons y ys =>
          have q := se_bop (pos := p) g ((sndE e _ _ g x h.1.2).1) (sndB b (.cons e2 r2) _ _ g (y :: ys) p h.2 rfl)
          exact eqSE (q) (by funext env hp; first | rfl | (simp only [evB]) | (simp only [evB]; rfl))
theorem sndBT (b : Bool) : ∀ (es : Es) (cc : CC) (X : Cx) (g : Good G Z cf k cc X) (xs : List Expr) (p : Pos), chkEs G cc es xs = true → (match xs with | [] => false | _ => true) = true → SW Z X (.BoolOp (isAndOp b) xs p) (evBT cf G.gl b es)
  | .nil, cc, X, g, xs, p, h, h2 => by
    unfold chkEs at h
    cases xs with
    | nil => exact Bool.noConfusion h2
    | cons x xs => exact Bool.noConfusion (show false = true from h)
  | .cons e r, cc, X, g, xs, p, h, h2 => by
    unfold chkEs at h
    cases xs with
    | nil => exact Bool.noConfusion h2
    | cons x xs =>
      dsimp only at h
      rw [Bool.and_eq_true, Bool.and_eq_true] at h
      cases r with
      | nil =>
        have l := chkEs_len h.2
        cases xs with
        | cons y ys => exact absurd l (by show ys.length + 1 ≠ 0; omega)
        | nil =>
          have q := sw_one (pos := p) (b := b) ((sndE e _ _ g x h.1.2).2)
          exact eqSW (q) (by funext env hp; first | rfl | (simp only [evBT]) | (simp only [evBT]; rfl))
      | cons e2 r2 =>
        have l := chkEs_len h.2
        cases xs with
        | nil => exact absurd l (by show (0 : Nat) ≠ r2.len + 1; omega)
        | cons y ys =>
          have q := sw_cons (pos := p) ((sndE e _ _ g x h.1.2).2) (sndBT b (.cons e2 r2) _ _ g (y :: ys) p h.2 rfl)
          have z : evBT cf G.gl b (.cons e (.cons e2 r2)) = fun env hp => (evT cf G.gl e env hp).bnd fun k hp => if k = b then evBT cf G.gl b (.cons e2 r2) env hp else .ok k hp := by
            funext env hp
            rw [evBT]
          rw [z]
          exact q
theorem sndTs : ∀ (es : Es) (cc : CC) (X : Cx) (g : Good G Z cf k cc X) (xs : List Expr), chkEs G cc es xs = true → es.len ≤ 1 → STs Z X xs (evTs cf G.gl es)
  | .nil, cc, X, g, xs, h, _ => by
    unfold chkEs at h
    cases xs with
    | nil => exact eqSTs (sts_nil) (by funext env hp; first | rfl | (simp only [evTs]) | (simp only [evTs]; rfl))
    | cons x xs => exact Bool.noConfusion (show false = true from h)
  | .cons e r, cc, X, g, xs, h, hl => by
    unfold chkEs at h
    cases xs with
    | nil => exact Bool.noConfusion (show false = true from h)
    | cons x xs =>
      dsimp only at h
      rw [Bool.and_eq_true, Bool.and_eq_true] at h
      cases r with
      | cons e2 r2 => exact absurd hl (by show ¬ (r2.len + 1 + 1 ≤ 1); omega)
      | nil =>
        have l := chkEs_len h.2
        cases xs with
        | cons y ys => exact absurd l (by show ys.length + 1 ≠ 0; omega)
        | nil =>
          have q := sts_one ((sndE e _ _ g x h.1.2).2)
          exact eqSTs (q) (by funext env hp; first | rfl | (simp only [evTs]) | (simp only [evTs]; rfl))
theorem sndI : ∀ (i : I) (cc : CC) (X : Cx) (g : Good G Z cf k cc X) (tg x : Expr), chkI G cc i tg x = true → SI Z X tg x (evI cf G.gl i)
  | .seq e, cc, X, g, tg, x, h => by
    unfold chkI at h
    have q := si_seq (tg := tg) g ((sndE e _ _ g x h).1)
    exact eqSI (q) (by funext env hp; first | rfl | (simp only [evI]) | (simp only [evI]; rfl))
  | .rng es, cc, X, g, tg, x, h => by
    unfold chkI at h
    cases x <;> first | exact Bool.noConfusion (show false = true from h) | skip
    all_goals try dsimp only at h
    rename_i gg as ks p
    split at h
    · rename_i n p2
      simp only [Bool.and_eq_true, decide_eq_true_eq] at h
      obtain ⟨⟨⟨⟨rfl, h1⟩, h2⟩, h3⟩, h4⟩ := h
      have l := chkEs_len h2
      have q := si_range (pos := p) (p := p2) (tg := tg) g (sndEs es _ _ g _ h2) h1 (by omega) (fun env hp ds hp' e => by rw [evEs_len cf G.gl es env hp ds hp' e, l]) (chkEs_plain h2)
      exact eqSI (q) (by funext env hp; first | rfl | (simp only [evI]) | (simp only [evI]; rfl))
    · exact Bool.noConfusion (show false = true from h)
  | .enm es, cc, X, g, tg, x, h => by
    unfold chkI at h
    cases tg <;> cases x <;> first | exact Bool.noConfusion (show false = true from h) | skip
    rename_i elts kk tp gg as ks p
    dsimp only at h
    split at h
    · rename_i n p2
      simp only [Bool.and_eq_true, decide_eq_true_eq] at h
      obtain ⟨⟨⟨rfl, h1⟩, h2⟩, h3⟩ := h
      have l := chkEs_len h2
      match as, l, h2 with
      | [a], l, h2 =>
        obtain ⟨e, rfl, _, hp⟩ := chk1 h2
        have q := si_enum (pos := p) (p := p2) (elts := elts) (kk := kk) (tpos := tp) g (sndEs _ _ _ g _ h2) h1 hp
        exact eqSI (q) (by funext env hp; first | rfl | (simp only [evI]) | (simp only [evI]; rfl))
      | [], l, _ => exact absurd l (by rw [h3]; decide)
      | a :: b :: c, l, _ => exact absurd l (by rw [h3]; simp)
    · exact Bool.noConfusion (show false = true from h)
  | .zip es, cc, X, g, tg, x, h => by
    unfold chkI at h
    cases tg <;> cases x <;> first | exact Bool.noConfusion (show false = true from h) | skip
    rename_i elts kk tp gg as ks p
    dsimp only at h
    split at h
    · rename_i n p2
      simp only [Bool.and_eq_true, decide_eq_true_eq] at h
      obtain ⟨⟨⟨rfl, h1⟩, h2⟩, h3⟩ := h
      have l := chkEs_len h2
      match as, l, h2 with
      | [a, b], l, h2 =>
        obtain ⟨e, f, rfl, _, hp1, _, hp2⟩ := chk2 h2
        have q := si_zip (pos := p) (p := p2) (elts := elts) (kk := kk) (tpos := tp) g (sndEs _ _ _ g _ h2) h1 hp1 hp2
        exact eqSI (q) (by funext env hp; first | rfl | (simp only [evI]) | (simp only [evI]; rfl))
      | [], l, _ => exact absurd l (by rw [h3]; decide)
      | [a], l, _ => exact absurd l (by rw [h3]; simp)
      | a :: b :: c :: d, l, _ => exact absurd l (by rw [h3]; simp)
    · exact Bool.noConfusion (show false = true from h)
end
end
end Mp

end
section
set_option maxRecDepth 100000
set_option maxHeartbeats 8000000
namespace Mp
open PySem PySem.Spec PyProof.Rows L2

/-- how a statement ends -/
inductive Ct where
  | nx (e : Env) | rt (d : D) | bk (e : Env) | ct (e : Env) | xc (x : Xn) (e : Env)
def liftE {α : Type} (r : Rs α) (env : Env) (k : α → HP → Rs Ct) : Rs Ct := match r with
  | .ok a h => k a h
  | .exc x h => .ok (.xc x env) h
  | .bad => .bad
/-- one behind the other -/
def andThen (r : Rs Ct) (k : Env → HP → Rs Ct) : Rs Ct := match r with
  | .ok (.nx e) h => k e h
  | r => r
def forL (step : D → Env → HP → Rs Ct) (iv : IV) : Nat → Nat → Env → HP → Rs Ct
  | 0, _, _, _ => .bad
  | f + 1, i, env, h => match iv h with
    | none => .bad
    | some xs => match xs[i]? with
      | none => if i = xs.length then .ok (.nx env) h else .bad
      | some d => match step d env h with
        | .ok (.nx e) h => forL step iv f (i + 1) e h
        | .ok (.ct e) h => forL step iv f (i + 1) e h
        | .ok (.bk e) h => .ok (.nx e) h
        | r => r
def whileL (c : Env → HP → Rs Bool) (b : Env → HP → Rs Ct) : Nat → Env → HP → Rs Ct
  | 0, _, _ => .bad
  | f + 1, env, h => liftE (c env h) env fun t h => match t with
    | false => .ok (.nx env) h
    | true => match b env h with
      | .ok (.nx e) h => whileL c b f e h
      | .ok (.ct e) h => whileL c b f e h
      | .ok (.bk e) h => .ok (.nx e) h
      | r => r
def whileFuel : Nat := 1099511627776
/-- op= of ints -/
def augD : Op → List D → HP → Rs D
  | .add _, ds, h => int2 (fun i j => .ok (.int (i + j)) h) ds
  | .sub, ds, h => int2 (fun i j => .ok (.int (i - j)) h) ds
  | .bor, ds, h => int2 (fun i j => .ok (.int (Builtin.bitOr i j)) h) ds
  | .band, ds, h => int2 (fun i j => .ok (.int (Builtin.bitAnd i j)) h) ds
  | .bxor, ds, h => int2 (fun i j => .ok (.int (Builtin.bitXor i j)) h) ds
  | _, _, _ => .bad
def opAug : Op → Option Operator
  | .add _ => some .Add | .sub => some .Sub | .bor => some .BitOr | .band => some .BitAnd | .bxor => some .BitXor
  | _ => none
/-- a list read in place: only lists -/
def getD2 (x i : D) (h : HP) : Rs D := match x, i with
  | .box n, .int j => match h[n]? with
    | some (.lst xs) => (match L2.atI xs j with
      | some d => .ok d h
      | none => .bad)
    | _ => .bad
  | _, _ => .bad
def setD2 (x i d : D) (h : HP) : Rs Unit := match x, i with
  | .box n, .int j => match h[n]? with
    | some (.lst xs) => (match L2.ixN xs.length j with
      | some k => .ok () (h.set n (.lst (xs.set k d)))
      | none => .bad)
    | _ => .bad
  | _, _ => .bad
mutual
def evS (cf : Fns) (gl : Nat → D) : S → Env → HP → Rs Ct
  | .asg t e, env, h => liftE (evE cf gl e env h) env fun d h => match setTg t d env with
    | some env' => .ok (.nx env') h
    | none => .bad
  | .par is es, env, h => liftE (evEs cf gl es env h) env fun ds h => match is, ds with
    | [i, j], [a, b] => .ok (.nx ((env.set i (some a)).set j (some b))) h
    | [i, j, l], [a, b, c] => .ok (.nx (((env.set i (some a)).set j (some b)).set l (some c))) h
    | _, _ => .bad
  | .aug i o e, env, h => match env[i]? with
    | some (some x) => liftE (evE cf gl e env h) env fun y h => liftE (augD o [x, y] h) env fun z h => .ok (.nx (env.set i (some z))) h
    | _ => .bad
  | .setIx a i e, env, h => liftE (evE cf gl e env h) env fun d h => liftE (evE cf gl a env h) env fun x h => liftE (evE cf gl i env h) env fun j h => liftE (setD2 x j d h) env fun _ h => .ok (.nx env) h
  | .augIx o a i e, env, h => liftE (evE cf gl a env h) env fun x h => liftE (evE cf gl i env h) env fun j h => liftE (getD2 x j h) env fun v h => liftE (evE cf gl e env h) env fun y h =>
      liftE (augD o [v, y] h) env fun z h => liftE (setD2 x j z h) env fun _ h => .ok (.nx env) h
  | .ex e, env, h => liftE (evE cf gl e env h) env fun _ h => .ok (.nx env) h
  | .ret e, env, h => liftE (evE cf gl e env h) env fun d h => .ok (.rt d) h
  | .retN, _, h => .ok (.rt .non) h
  | .ifs c a b, env, h => liftE (evT cf gl c env h) env fun t h => match t with
    | true => evSs cf gl a env h
    | false => evSs cf gl b env h
  | .for t it body, env, h => liftE (evI cf gl it env h) env fun iv h => forL (fun d env h => match setTg t d env with
      | some env' => evSs cf gl body env' h
      | none => .bad) iv walkFuel 0 env h
  | .while c body, env, h => whileL (evT cf gl c) (evSs cf gl body) whileFuel env h
  | .raise _ _ _, _, _ => .bad
  | .pass, env, h => .ok (.nx env) h
  | .brk, env, h => .ok (.bk env) h
  | .cnt, env, h => .ok (.ct env) h
def evSs (cf : Fns) (gl : Nat → D) : Ss → Env → HP → Rs Ct
  | .nil, env, h => .ok (.nx env) h
  | .cons s r, env, h => andThen (evS cf gl s env h) fun env h => evSs cf gl r env h
end
def PstC (Z : St0) (H : Hp) (bx : List Addr) (W : WX) (E : Ends) (r : Rs Ct) : Prop := match r with
  | .ok (.nx e) h => ∀ H' bx' σ', Ext H bx H' bx' → HeapR Z H' bx' h → EnvR Z H' bx' σ' e → E.nx σ' H'
  | .ok (.bk e) h => ∀ H' bx' σ', Ext H bx H' bx' → HeapR Z H' bx' h → EnvR Z H' bx' σ' e → E.bk σ' H'
  | .ok (.ct e) h => ∀ H' bx' σ', Ext H bx H' bx' → HeapR Z H' bx' h → EnvR Z H' bx' σ' e → E.ct σ' H'
  | .ok (.rt d) h => ∀ H' bx' v, Ext H bx H' bx' → HeapR Z H' bx' h → Rep Z H' bx' d v → E.rt v H'
  | .ok (.xc x e) h => ∀ H' bx' σ' c d, Ext H bx H' bx' → HeapR Z H' bx' h → EnvR Z H' bx' σ' e → Z.XR Z.fb H' bx' x c d → W c d σ' H'
  | _ => False
def tS (Z : St0) (W : WX) (f : Env → HP → Rs Ct) : TS := fun E σ H => ∃ bx env h, EnvR Z H bx σ env ∧ HeapR Z H bx h ∧ PstC Z H bx W E (f env h)
def SS (Z : St0) (X : Cx) (x : Stmt) (f : Env → HP → Rs Ct) : Prop := ∀ fb W, Takes X W → PS X x (tS (Z.wf fb) W f)
def SSs (Z : St0) (X : Cx) (xs : List Stmt) (f : Env → HP → Rs Ct) : Prop := ∀ fb W, Takes X W → PSs X xs (tS (Z.wf fb) W f)
structure GoodS (G : Tab) (Z : St0) (cf : Fns) (k : Nat) (cc : CC) (X : Cx) : Prop extends Good G Z cf k cc X where
  pass : PassesOwn (model X.prog X.w) X.A X.env X.xe
  kind : cc.sc.kind = .function
section
variable {Z : St0} {H H' : Hp} {bx bx' : List Addr} {W : WX} {E E' : Ends}
theorem PstC.ext {r : Rs Ct} (h : PstC Z H bx W E r) (e : Ext H bx H' bx') : PstC Z H' bx' W E r := by
  cases r with
  | ok a h2 =>
    cases a with
    | nx env => exact fun H2 bx2 b e2 => h H2 bx2 b (e.trans e2)
    | bk env => exact fun H2 bx2 b e2 => h H2 bx2 b (e.trans e2)
    | ct env => exact fun H2 bx2 b e2 => h H2 bx2 b (e.trans e2)
    | rt d => exact fun H2 bx2 b e2 => h H2 bx2 b (e.trans e2)
    | xc x env => exact fun H2 bx2 b c d e2 => h H2 bx2 b c d (e.trans e2)
  | exc x h2 => exact h
  | bad => exact h
theorem PstC.mono {r : Rs Ct} (h : PstC Z H bx W E r) (h1 : ∀ e h, r = .ok (.nx e) h → ∀ σ H, E.nx σ H → E'.nx σ H) (h2 : ∀ e h, r = .ok (.bk e) h → ∀ σ H, E.bk σ H → E'.bk σ H) (h3 : ∀ e h, r = .ok (.ct e) h → ∀ σ H, E.ct σ H → E'.ct σ H) (h4 : ∀ v H, E.rt v H → E'.rt v H) : PstC Z H bx W E' r := by
  cases r with
  | ok a hh =>
    cases a with
    | nx env => exact fun H2 bx2 b e2 q r => h1 _ _ rfl _ _ (h H2 bx2 b e2 q r)
    | bk env => exact fun H2 bx2 b e2 q r => h2 _ _ rfl _ _ (h H2 bx2 b e2 q r)
    | ct env => exact fun H2 bx2 b e2 q r => h3 _ _ rfl _ _ (h H2 bx2 b e2 q r)
    | rt d => exact fun H2 bx2 b e2 q r => h4 _ _ (h H2 bx2 b e2 q r)
    | xc x env => exact h
  | exc x h2 => exact h
  | bad => exact h
/-- an expression ahead -/
theorem PstC.lift {α β : Type} {R : Hp → List Addr → α → β → Prop} {r : Rs α} {σ : L2.St} {env : Env} {k : α → HP → Rs Ct} {Q : β → Hp → Prop} (he : EnvR Z H bx σ env) (h : PstC Z H bx W E (liftE r env k))
    (f : ∀ a h' H' bx' b, Ext H bx H' bx' → HeapR Z H' bx' h' → R H' bx' a b → PstC Z H' bx' W E (k a h') → Q b H') : Pst Z H bx (fun c d H' => W c d σ H') R r Q := by
  cases r with
  | ok a h' => exact fun H2 bx2 b e2 hr rr => f a h' H2 bx2 b e2 hr rr (PstC.ext h e2)
  | exc x h' => exact fun H2 bx2 c d e2 hr xr => h H2 bx2 σ c d e2 hr (he.ext e2) xr
  | bad => exact h
end
section
variable {G : Tab} {Z : St0} {cf : Fns} {k : Nat} {cc : CC} {X : Cx} {pos : Pos}
theorem ss_pass : SS Z X (.Pass pos) (fun env h => .ok (.nx env) h) := fun fb W tk => ps_imp ps_pass fun D σ H q => by
  obtain ⟨bx, env, h, he, hh, p⟩ := q
  exact p H bx σ (Ext.refl _ _) hh he
theorem ss_brk : SS Z X (.Break pos) (fun env h => .ok (.bk env) h) := fun fb W tk => ps_imp ps_break fun D σ H q => by
  obtain ⟨bx, env, h, he, hh, p⟩ := q
  exact p H bx σ (Ext.refl _ _) hh he
theorem ss_cnt : SS Z X (.Continue pos) (fun env h => .ok (.ct env) h) := fun fb W tk => ps_imp ps_continue fun D σ H q => by
  obtain ⟨bx, env, h, he, hh, p⟩ := q
  exact p H bx σ (Ext.refl _ _) hh he
theorem ss_retN : SS Z X (.Return none pos) (fun env h => .ok (.rt .non) h) := fun fb W tk => ps_imp ps_retN fun D σ H q => by
  obtain ⟨bx, env, h, he, hh, p⟩ := q
  exact p H bx .non (Ext.refl _ _) hh rfl
theorem ss_ret {e : Expr} {f : Env → HP → Rs D} (h : SE Z X e f) : SS Z X (.Return (some e) pos) (fun env hp => liftE (f env hp) env fun d h => .ok (.rt d) h) := fun fb W tk => ps_imp (ps_ret (h fb W tk)) fun D σ H q => by
  obtain ⟨bx, env, h, he, hh, p⟩ := q
  exact ⟨bx, env, h, he, hh, PstC.lift he p fun a h1 H1 bx1 b e1 hh1 r1 p1 => p1 H1 bx1 b (Ext.refl _ _) hh1 r1⟩
def noComp : Expr → Bool
  | .ListComp .. => false
  | .SetComp .. => false
  | .DictComp .. => false
  | _ => true
theorem swaps_no {e : Expr} {t : Option Expr} {l : Nat} {env : PySem.Env} (h : noComp e = true) : swapsWith e t l env = pure false := by
  cases e <;> first | rfl | exact Bool.noConfusion (show false = true from h)
theorem ss_ex {e : Expr} {f : Env → HP → Rs D} (h : SE Z X e f) (hn : noComp e = true) : SS Z X (.Expr e pos) (fun env hp => liftE (f env hp) env fun _ h => .ok (.nx env) h) := fun fb W tk => ps_imp (ps_expr (h fb W tk) (swaps_no hn)) fun D σ H q => by
  obtain ⟨bx, env, h, he, hh, p⟩ := q
  exact ⟨bx, env, h, he, hh, PstC.lift he p fun a h1 H1 bx1 b e1 hh1 r1 p1 => p1 H1 bx1 σ (Ext.refl _ _) hh1 (he.ext e1)⟩
theorem ss_if {c : Expr} {a b : List Stmt} {fc : Env → HP → Rs Bool} {fa fb : Env → HP → Rs Ct} (hc : ST Z X c fc) (ha : SSs Z X a fa) (hb : SSs Z X b fb) : SS Z X (.If c a b pos) (fun env hp => liftE (fc env hp) env fun t h => match t with
    | true => fa env h
    | false => fb env h) := fun f W tk => ps_imp (ps_if (hc f W tk) (ha f W tk) (hb f W tk)) fun D σ H q => by
  obtain ⟨bx, env, h, he, hh, p⟩ := q
  refine ⟨bx, env, h, he, hh, PstC.lift he p fun t h1 H1 bx1 t' e1 hh1 r1 p1 => ?_⟩
  have r1 : t = t' := r1
  subst r1
  cases t with
  | true => exact iteT ⟨bx1, env, h1, he.ext e1, hh1, p1⟩
  | false => exact iteF ⟨bx1, env, h1, he.ext e1, hh1, p1⟩
theorem sss_nil : SSs Z X [] (fun env h => .ok (.nx env) h) := fun fb W tk => pss_imp pss_nil fun D σ H q => by
  obtain ⟨bx, env, h, he, hh, p⟩ := q
  exact p H bx σ (Ext.refl _ _) hh he
theorem sss_cons {st : Stmt} {rest : List Stmt} {f g : Env → HP → Rs Ct} (h1 : SS Z X st f) (h2 : SSs Z X rest g) : SSs Z X (st :: rest) (fun env h => andThen (f env h) g) := fun fb W tk => pss_imp (pss_cons (h1 fb W tk) (h2 fb W tk)) fun D σ H q => by
  obtain ⟨bx, env, h, he, hh, p⟩ := q
  refine ⟨bx, env, h, he, hh, ?_⟩
  dsimp only at p
  cases e : f env h with
  | bad => rw [e] at p; exact p
  | exc x hx => rw [e] at p; exact p
  | ok a h' =>
    rw [e] at p
    cases a with
    | nx env' => exact fun H2 bx2 σ2 e2 hr2 he2 => ⟨bx2, env', h', he2, hr2, PstC.ext p e2⟩
    | bk _ => exact p
    | ct _ => exact p
    | rt _ => exact p
    | xc _ _ => exact p
def swC (sc : Scope) (tg e : Expr) : Bool := match tg, e with
  | .Tuple ts _ _, .Tuple vs _ _ => !(ts.length == 2 || ts.length == 3) || vs.length != ts.length || (ts.filterMap fun
    | .Name id pos => if sc.names.lookup id == some .local && pos.line == (ts.head?.map (·.pos.line)).getD 0 then some id else none
    | _ => none).length != ts.length || vs.all (foldedForSure 8)
  | .List .., .Tuple .. => false
  | _, _ => true
theorem swC_ok {tg e : Expr} {env : PySem.Env} (h : swC env.scope tg e = true) : swappedStores [tg] e env = pure none := by
  unfold swappedStores
  cases tg <;> first | rfl | skip
  · cases e <;> first | rfl | exact Bool.noConfusion (show false = true from h)
  · cases e <;> first | rfl | skip
    rename_i ts k1 p1 vs k2 p2
    unfold swC at h
    simp only [Bool.or_eq_true] at h
    dsimp only
    split
    · rfl
    · split
      · rfl
      · rename_i c1 c2
        split
        · rfl
        · rename_i c3
          split
          · rfl
          · rename_i c4
            simp only [Bool.or_eq_true, not_or] at c1 c3
            rcases h with ((h | h) | h) | h
            · exact absurd h c1.1.1
            · exact absurd h c1.1.2
            · exact absurd h c3.1
            · exact absurd h c4
theorem ss_asg (g : Good G Z cf k cc X) {t : Tg} {tg e : Expr} {f : Env → HP → Rs D} (h : SE Z X e f) (hT : chkT cc t tg = true) (hs : ∀ env : PySem.Env, env.scope = cc.sc → swapsWith e (some tg) pos.line env = pure false) (hw : swC cc.sc tg e = true) :
    SS Z X (.Assign [tg] e pos) (fun env hp => liftE (f env hp) env fun d h => match setTg t d env with
      | some env' => .ok (.nx env') h
      | none => .bad) := fun fb W tk => ps_imp (ps_asg (h fb W tk) (pg_tg g hT) (hs X.env g.sc) (swC_ok (by rw [g.sc]; exact hw)) (by rw [assignEach_cons (chkT_plain hT)]; rfl)) fun D σ H q => by
  obtain ⟨bx, env, h, he, hh, p⟩ := q
  refine ⟨bx, env, h, he, hh, PstC.lift he p fun d h1 H1 bx1 v e1 hh1 r1 p1 => ?_⟩
  split at p1
  · rename_i env' es
    exact gT_of (Z := Z.wf fb) g.K (he.ext e1) r1 es fun σ' he' _ _ => p1 H1 bx1 σ' (Ext.refl _ _) hh1 he'
  · exact False.elim p1
theorem ss_setLc (g : Good G Z cf k cc X) {b : Bool} {own : List Nat} {t : Tg} {tg it elt : Expr} {ifs : List Expr} {scope : Scope} {fi : Env → HP → Rs IV} {ft : Env → HP → Rs Bool} {fe : Env → HP → Rs D} {i : Nat} {y : Str} {py spos : Pos}
    (hy : cc.N[i]? = some y) (hyl : cc.sc.names.lookup y = some .local) (hsw : ∀ env : PySem.Env, env.scope = cc.sc → swapsWith (.ListComp elt [⟨tg, it, ifs, 0⟩] scope pos) (some (.Name y py)) spos.line env = pure true)
    (hi : SI Z X tg it fi) (hb : blkC cc.N cc.sc scope (ownP cc own) = true) (hsl : (t.slots.all fun i => decide (i ∈ own)) = true) (hT : chkT (ccB cc scope) t tg = true)
    (hf : ∀ X', Good G Z cf k (ccB cc scope) X' → STs Z X' ifs ft) (he : ∀ X', Good G Z cf k (ccB cc scope) X' → SE Z X' elt fe) (hs : plainX it = true) :
    SS Z X (.Assign [.Name y py] (.ListComp elt [⟨tg, it, ifs, 0⟩] scope pos) spos) (fun env hp => liftE ((fi env hp).bnd fun iv h => (walkL (compStep t own ft fe env) iv walkFuel 0 [] h).bnd fun acc h => newL b acc h) env fun d h => match setTg (.nm i) d env with
      | some env' => .ok (.nx env') h
      | none => .bad) := fun fb W tk => ps_imp (ps_comp g hy hyl (hsw X.env g.sc) hi hb hsl hT hf he hs fb W tk) fun D σ H q => by
  obtain ⟨bx, env, h, hE, hh, p⟩ := q
  refine ⟨bx, env, h, hE, hh, PstC.lift hE p fun d h1 H1 bx1 v e1 hh1 r1 p1 => ?_⟩
  exact p1 H1 bx1 _ (Ext.refl _ _) hh1 ((hE.ext e1).set r1)
theorem ss_for (g : GoodS G Z cf k cc X) {t : Tg} {tg it : Expr} {body : List Stmt} {fi : Env → HP → Rs IV} {fb : Env → HP → Rs Ct} (hi : SI Z X tg it fi) (hT : chkT cc t tg = true) (hb : SSs Z X body fb) (hs : plainX it = true) :
    SS Z X (.For tg it body [] pos) (fun env h => liftE (fi env h) env fun iv h => forL (fun d env h => match setTg t d env with
      | some env' => fb env' h
      | none => .bad) iv walkFuel 0 env h) := fun f W tk => ps_imp (ps_for g.pass g.calm (hi f W tk) (pg_tg g.toGood hT) (hb f W tk) (plain_fold hs)) fun D σ H q => by
  obtain ⟨bx, env, h, he, hh, p⟩ := q
  refine ⟨bx, env, h, he, hh, PstC.lift he p fun iv h1 H1 bx1 J e1 hh1 r1 p1 => ?_⟩
  obtain ⟨P, pl, hR, hpl, hP⟩ := r1
  refine ⟨fun i m σ2 H2 => ∃ bx2 env2 h2, EnvR (Z.wf f) H2 bx2 σ2 env2 ∧ HeapR (Z.wf f) H2 bx2 h2 ∧ P f H2 bx2 ∧ PstC (Z.wf f) H2 bx2 W D (forL (fun d env h => match setTg t d env with
      | some env' => fb env' h
      | none => .bad) iv m i env2 h2), ⟨walkFuel, bx1, env, h1, he.ext e1, hh1, hP, p1⟩, ?_⟩
  rintro i m σ2 H2 ⟨bx2, env2, h2, he2, hh2, hP2, p2⟩
  cases m with
  | zero => exact False.elim p2
  | succ m =>
    unfold forL at p2
    split at p2
    · exact False.elim p2
    · rename_i xs ei
      split at p2
      · by_cases c : i = xs.length
        · rw [if_pos c] at p2
          refine .inl ⟨by rw [c]; exact hR.stop hP2 hh2 ei, p2 H2 bx2 σ2 (Ext.refl _ _) hh2 he2⟩
        · rw [if_neg c] at p2
          exact False.elim p2
      · rename_i d ed
        refine .inr ⟨hR.go hP2 hh2 ei ed, _, fun σ' H' z => ⟨m, Nat.lt_succ_self m, z⟩, fun x H' y => ?_⟩
        obtain ⟨x3, hh3, rd⟩ := hR.yld hP2 hh2 ei ed y
        cases es : setTg t d env2 with
        | none => simp only [es] at p2; exact False.elim p2
        | some env3 =>
          simp only [es] at p2
          refine gT_y (Z := Z.wf f) g.K (he2.ext x3) rd (hpl.imp id (chkT_tup hT)) es fun σ' he3 _ _ => ⟨bx2, env3, h2, he3, hh3, ?_⟩
          have hP3 := hR.ext x3 hP2
          cases er : fb env3 h2 with
          | bad => rw [er] at p2; exact False.elim p2
          | exc xx hx => rw [er] at p2; exact False.elim p2
          | ok a h' =>
            rw [er] at p2
            have p3 := PstC.ext p2 x3
            cases a with
            | nx env' => exact fun H4 bx4 σ4 e4 hr4 he4 => ⟨bx4, env', h', he4, hr4, hR.ext e4 hP3, PstC.ext p3 e4⟩
            | ct env' => exact fun H4 bx4 σ4 e4 hr4 he4 => ⟨bx4, env', h', he4, hr4, hR.ext e4 hP3, PstC.ext p3 e4⟩
            | bk env' => exact p3
            | rt d' => exact p3
            | xc xx env' => exact p3
theorem ss_while (g : GoodS G Z cf k cc X) {c : Expr} {body : List Stmt} {fc : Env → HP → Rs Bool} {fb : Env → HP → Rs Ct} (hc : ST Z X c fc) (hb : SSs Z X body fb) : SS Z X (.While c body [] pos) (fun env h => whileL fc fb whileFuel env h) := fun f W tk =>
  ps_imp (ps_while g.pass (hc f W tk) (hb f W tk)) fun D σ H q => by
  obtain ⟨bx, env, h, he, hh, p⟩ := q
  refine ⟨fun m σ2 H2 => ∃ bx2 env2 h2, EnvR (Z.wf f) H2 bx2 σ2 env2 ∧ HeapR (Z.wf f) H2 bx2 h2 ∧ PstC (Z.wf f) H2 bx2 W D (whileL fc fb m env2 h2), ⟨whileFuel, bx, env, h, he, hh, p⟩, ?_⟩
  rintro m σ2 H2 ⟨bx2, env2, h2, he2, hh2, p2⟩
  cases m with
  | zero => exact False.elim p2
  | succ m =>
    unfold whileL at p2
    refine ⟨bx2, env2, h2, he2, hh2, PstC.lift he2 p2 fun t h3 H3 bx3 t' e3 hh3 r3 p3 => ?_⟩
    have r3 : t = t' := r3
    subst r3
    cases t with
    | false => exact iteF (p3 H3 bx3 σ2 (Ext.refl _ _) hh3 (he2.ext e3))
    | true =>
      refine iteT ⟨_, fun σ' H' z => ⟨m, Nat.lt_succ_self m, z⟩, bx3, env2, h3, he2.ext e3, hh3, ?_⟩
      dsimp only at p3
      cases er : fb env2 h3 with
      | bad => rw [er] at p3; exact False.elim p3
      | exc xx hx => rw [er] at p3; exact False.elim p3
      | ok a h' =>
        rw [er] at p3
        cases a with
        | nx env' => exact fun H4 bx4 σ4 e4 hr4 he4 => ⟨bx4, env', h', he4, hr4, PstC.ext p3 e4⟩
        | ct env' => exact fun H4 bx4 σ4 e4 hr4 he4 => ⟨bx4, env', h', he4, hr4, PstC.ext p3 e4⟩
        | bk env' => exact p3
        | rt d' => exact p3
        | xc xx env' => exact p3
end
end Mp

end
section
set_option maxRecDepth 100000
set_option maxHeartbeats 8000000
namespace Mp
open PySem PySem.Spec PyProof.Rows L2

/-- a, b = x, y stored from the right -/
def swP (sc : Scope) (ts vs : List Expr) (ns : List Str) : Bool :=
  (ts.length == 2 || ts.length == 3) && vs.length == ts.length && !(vs.any fun | .Starred .. => true | _ => false) && decide ((ts.filterMap fun
    | .Name id pos => if sc.names.lookup id == some .local && pos.line == (ts.head?.map (·.pos.line)).getD 0 then some id else none
    | _ => none) = ns) && ns.length == ts.length && ns.eraseDups.length == ns.length && !(vs.all (foldedForSure 8)) && !(vs.all (constantsAlone 8))
theorem swP_ok {ts vs : List Expr} {ns : List Str} {k1 k2 p1 p2} {env : PySem.Env} (hk : env.scope.kind = .function) (h : swP env.scope ts vs ns = true) : swappedStores [.Tuple ts k1 p1] (.Tuple vs k2 p2) env = pure (some ns) := by
  unfold swP at h
  rw [Bool.and_eq_true, Bool.and_eq_true, Bool.and_eq_true, Bool.and_eq_true, Bool.and_eq_true, Bool.and_eq_true, Bool.and_eq_true] at h
  obtain ⟨⟨⟨⟨⟨⟨⟨h1, h2⟩, h3⟩, h4⟩, h5⟩, h6⟩, h7⟩, h8⟩ := h
  have h4 := of_decide_eq_true h4
  rw [Bool.not_eq_true'] at h3 h7 h8
  have hb : env.blockKind = .function := by unfold Env.blockKind; rw [hk]; rfl
  unfold swappedStores
  dsimp only
  rw [if_neg (by rw [h1, hb, bne, h2]; decide)]
  generalize hA : (vs.any _) = A
  have e : A = false := hA.symm.trans h3
  subst e
  rw [if_neg (by decide)]
  generalize hL : List.filterMap _ ts = L
  have e : L = ns := hL.symm.trans h4
  subst e
  rw [if_neg (by rw [bne, h5, bne, h6]; decide), if_neg (by rw [h7]; decide), if_neg (by rw [h8]; decide)]
section
variable {G : Tab} {Z : St0} {cf : Fns} {k : Nat} {cc : CC} {X : Cx} {pos : Pos}
theorem setLc_false {e : Expr} {tg : Expr} {l : Nat} {env : PySem.Env} (h : ∀ n p, tg ≠ .Name n p) : swapsWith e (some tg) l env = pure false := by
  cases e <;> first | rfl | skip
  all_goals (cases tg <;> first | rfl | exact absurd rfl (h _ _))
theorem ss_par2 (g : GoodS G Z cf k cc X) {i j : Nat} {x y : Str} {px py pt : Pos} {kt k2 : Nat} {p2 : Pos} {a b : Expr} {fs : Env → HP → Rs (List D)} (hi : cc.N[i]? = some x) (hj : cc.N[j]? = some y) (hij : i ≠ j) (hx : cc.sc.names.lookup x = some .local) (hy : cc.sc.names.lookup y = some .local)
    (hw : swP cc.sc [.Name x px, .Name y py] [a, b] [x, y] = true) (h : SA Z X [a, b] fs) (hn : ∀ env hp ds hp', fs env hp = .ok ds hp' → ds.length = 2) :
    SS Z X (.Assign [.Tuple [.Name x px, .Name y py] kt pt] (.Tuple [a, b] k2 p2) pos) (fun env hp => liftE (fs env hp) env fun ds h => match [i, j], ds with
    | [i, j], [a, b] => .ok (.nx ((env.set i (some a)).set j (some b))) h
    | [i, j, l], [a, b, c] => .ok (.nx (((env.set i (some a)).set j (some b)).set l (some c))) h
    | _, _ => .bad) := fun f W tk => ps_imp (ps_par g.calm (by rw [g.N]; exact g.nd) (by rw [g.N]; exact hi) (by rw [g.N]; exact hj) hij (by rw [g.sc]; exact hx) (by rw [g.sc]; exact hy) (h f W tk) (swP_ok (by rw [g.sc]; exact g.kind) (by rw [g.sc]; exact hw)) ) fun D σ H q => by
  obtain ⟨bx, env, h, he, hh, p⟩ := q
  refine ⟨bx, env, h, he, hh, PstC.lift he p fun ds h1 H1 bx1 vs e1 hh1 r1 p1 => ?_⟩
  match ds, r1, p1 with
  | [a, b], r1, p1 =>
    obtain ⟨v, w, rfl, q1, q2⟩ := rep2 r1
    exact ⟨v, w, rfl, p1 H1 bx1 _ (Ext.refl _ _) hh1 (((he.ext e1).set q1).set q2)⟩
  | [], _, p1 => exact False.elim p1
  | [a], _, p1 => exact False.elim p1
  | a :: b :: c :: d, _, p1 => exact False.elim p1
theorem ss_par3 (g : GoodS G Z cf k cc X) {i j l : Nat} {x y z : Str} {px py pz pt : Pos} {kt k2 : Nat} {p2 : Pos} {a b c : Expr} {fs : Env → HP → Rs (List D)} (hi : cc.N[i]? = some x) (hj : cc.N[j]? = some y) (hl : cc.N[l]? = some z) (hij : i ≠ j) (hil : i ≠ l) (hjl : j ≠ l)
    (hx : cc.sc.names.lookup x = some .local) (hy : cc.sc.names.lookup y = some .local) (hz : cc.sc.names.lookup z = some .local)
    (hw : swP cc.sc [.Name x px, .Name y py, .Name z pz] [a, b, c] [x, y, z] = true) (h : SA Z X [a, b, c] fs) :
    SS Z X (.Assign [.Tuple [.Name x px, .Name y py, .Name z pz] kt pt] (.Tuple [a, b, c] k2 p2) pos) (fun env hp => liftE (fs env hp) env fun ds h => match [i, j, l], ds with
    | [i, j], [a, b] => .ok (.nx ((env.set i (some a)).set j (some b))) h
    | [i, j, l], [a, b, c] => .ok (.nx (((env.set i (some a)).set j (some b)).set l (some c))) h
    | _, _ => .bad) := fun f W tk => ps_imp (ps_par3 g.calm (by rw [g.N]; exact g.nd) (by rw [g.N]; exact hi) (by rw [g.N]; exact hj) (by rw [g.N]; exact hl) hij hil hjl (by rw [g.sc]; exact hx) (by rw [g.sc]; exact hy) (by rw [g.sc]; exact hz) (h f W tk)
      (swP_ok (by rw [g.sc]; exact g.kind) (by rw [g.sc]; exact hw)) ) fun D σ H q => by
  obtain ⟨bx, env, h, he, hh, p⟩ := q
  refine ⟨bx, env, h, he, hh, PstC.lift he p fun ds h1 H1 bx1 vs e1 hh1 r1 p1 => ?_⟩
  match ds, r1, p1 with
  | [a, b, c], r1, p1 =>
    obtain ⟨v, t, rfl, q0, r2⟩ := r1
    obtain ⟨u, w, rfl, q1, q2⟩ := rep2 r2
    exact ⟨v, u, w, rfl, p1 H1 bx1 _ (Ext.refl _ _) hh1 ((((he.ext e1).set q0).set q1).set q2)⟩
  | [], _, p1 => exact False.elim p1
  | [a], _, p1 => exact False.elim p1
  | [a, b], _, p1 => exact False.elim p1
  | a :: b :: c :: d :: e, _, p1 => exact False.elim p1
theorem pip_int {op : Operator} {v : Int → Int → V} {f : Int → Int → HP → Rs D} (h : OpR X (inplaceOp op) (rI0 v)) (hf : ∀ i j h, ∃ d, f i j h = .ok d h ∧ ∀ H bx, Rep Z H bx d (v i j)) : PIp X op (r2 Z (fun ds h => int2 (fun i j => f i j h) ds)) := fun pins s σ H x y u w Q I rx ry q =>
  h pins s σ H x y u w Q I rx ry (rI0_of (C := fun _ _ => True) (r2_int (C := fun _ _ => True) (v := v) (f := f) (fun i j h => by
    obtain ⟨d, e, r⟩ := hf i j h
    exact .inl ⟨d, e, trivial, fun H bx => r H bx⟩) x y H Q q))
theorem aug_ok {o : Op} {b : Operator} (h : opAug o = some b) : ∀ f, PIp X b (r2 (Z.wf f) (augD o)) := by
  intro f
  cases o <;> first | exact nomatch (show none = some b from h) | skip
  all_goals cases h
  · exact pip_int (v := fun i j => .int (i + j)) (f := fun i j h => .ok (.int (i + j)) h) (fun pins s σ H x y u w Q I rx ry q => ip_add pins s σ H x y u w Q I rx ry q) fun i j h => ⟨_, rfl, fun _ _ => rfl⟩
  · exact pip_int (v := fun i j => .int (i - j)) (f := fun i j h => .ok (.int (i - j)) h) (fun pins s σ H x y u w Q I rx ry q => ip_sub pins s σ H x y u w Q I rx ry q) fun i j h => ⟨_, rfl, fun _ _ => rfl⟩
  · exact pip_int (v := fun i j => .int (Builtin.bitAnd i j)) (f := fun i j h => .ok (.int (Builtin.bitAnd i j)) h) iop_and fun i j h => ⟨_, rfl, fun _ _ => rfl⟩
  · exact pip_int (v := fun i j => .int (Builtin.bitOr i j)) (f := fun i j h => .ok (.int (Builtin.bitOr i j)) h) iop_or fun i j h => ⟨_, rfl, fun _ _ => rfl⟩
  · exact pip_int (v := fun i j => .int (Builtin.bitXor i j)) (f := fun i j h => .ok (.int (Builtin.bitXor i j)) h) iop_xor fun i j h => ⟨_, rfl, fun _ _ => rfl⟩
theorem augD_noexc {o : Op} {ds : List D} {h h' : HP} {x : Xn} : augD o ds h ≠ .exc x h' := by
  intro e
  cases o <;> first | (cases e; done) | skip
  all_goals
    unfold augD int2 at e
    dsimp only at e
    split at e <;> cases e
theorem ss_aug (g : Good G Z cf k cc X) {i : Nat} {x : Str} {op : Operator} {o : Op} {e : Expr} {f : Env → HP → Rs D} {p1 : Pos} (h : SE Z X e f) (hT : chkT cc (.nm i) (.Name x p1) = true) (ho : opAug o = some op) :
    SS Z X (.AugAssign (.Name x p1) op e pos) (fun env hp => match env[i]? with
    | some (some x) => liftE (f env hp) env fun y h => liftE (augD o [x, y] h) env fun z h => .ok (.nx (env.set i (some z))) h
    | _ => .bad) := fun fb W tk => by
  unfold chkT at hT
  simp only [Bool.and_eq_true, decide_eq_true_eq, Bool.or_eq_true] at hT
  refine ps_imp (ps_aug (by rw [g.N]; exact g.nd) (by rw [g.N]; exact hT.1) (by unfold L2.Loc; rw [g.sc]; exact hT.2.imp id fun z => z.1) (h fb W tk) (aug_ok (Z := Z) ho fb) (by rw [g.sc, g.fn]; exact (hT.2.imp id fun z => z.2).symm)) fun D σ H q => ?_
  obtain ⟨bx, env, h, he, hh, p⟩ := q
  dsimp only at p
  split at p
  · rename_i d ed
    obtain ⟨v, h5, h6⟩ := he.at_ i d ed
    refine ⟨v, h5, bx, env, h, he, hh, PstC.lift he p fun y h1 H1 bx1 w e1 hh1 r1 p1 => ?_⟩
    exact ⟨fun _ _ _ => False, bx1, d, y, h1, Rep.ext e1 _ h6, r1, hh1, by
      cases ea : augD o [d, y] h1 with
      | bad => rw [ea] at p1; exact False.elim p1
      | exc xx hx => exact absurd ea augD_noexc
      | ok z h2 =>
        rw [ea] at p1
        exact fun H2 bx2 w2 e2 hh2 r2 => p1 H2 bx2 _ e2 hh2 (((he.ext e1).ext e2).set r2)⟩
  · exact False.elim p
theorem pst_set {fb : List Addr} {W : WX} {E : Ends} {σ : L2.St} {env : Env} {H : Hp} {bx : List Addr} {h : HP} {x i d : D} {vx vi vd : V} (he : EnvR (Z.wf fb) H bx σ env) (hh : HeapR (Z.wf fb) H bx h) (rx : Rep (Z.wf fb) H bx x vx) (ri : Rep (Z.wf fb) H bx i vi) (rd : Rep (Z.wf fb) H bx d vd)
    (p : PstC (Z.wf fb) H bx W E (liftE (setD2 x i d h) env fun _ h => .ok (.nx env) h)) : rSetL vx vi vd H fun H' => E.nx σ H' := by
  unfold setD2 at p
  split at p
  · rename_i n j
    obtain ⟨a, rfl, q⟩ := rx
    have ri : vi = .int j := ri
    subst ri
    split at p
    · rename_i xs g
      obtain ⟨vs, e2, hz, rr⟩ := hh.at_ n a _ q g
      split at p
      · rename_i kk e3
        refine ⟨a, vs, j, kk, rfl, rfl, e2, by rw [rr.length]; exact e3, ?_⟩
        have x2 := ext_set hh (.lst (vs.set kk vd)) q
        exact p _ bx σ x2 (heap_set hh _ _ q ⟨_, rfl, by rw [List.length_set]; exact hz, rr.set kk rd⟩) (he.ext x2)
      · exact False.elim p
    · exact False.elim p
  · exact False.elim p
theorem sub_assign {o i : Expr} {env : PySem.Env} (h : plainX i = true) : ∀ v, assign (.Subscript o i pos) env v = (do
      let ov ← holding [v] (eval o env)
      let iv ← holding [v, ov] (eval i env)
      standAt pos
      holding [v, ov, iv] (setItem ov iv v)
      release [v, ov, iv] []) := by
  intro v
  cases i <;> first | rfl | exact Bool.noConfusion (show false = true from h)
theorem ss_setIx (g : Good G Z cf k cc X) {a i e : Expr} {p1 : Pos} {fa fi fe : Env → HP → Rs D} (ha : SE Z X a fa) (hi : SE Z X i fi) (he : SE Z X e fe) (hp : plainX i = true) :
    SS Z X (.Assign [.Subscript a i p1] e pos) (fun env hp => liftE (fe env hp) env fun d h => liftE (fa env h) env fun x h => liftE (fi env h) env fun j h => liftE (setD2 x j d h) env fun _ h => .ok (.nx env) h) := fun fb W tk =>
  ps_imp (ps_asg (he fb W tk) (pg_sub (ha fb W tk) (hi fb W tk) set_list (sub_assign hp)) (show swapsWith e (some (.Subscript a i p1)) pos.line X.env = pure false from setLc_false fun n p => by simp) (swC_ok (by cases e <;> rfl)) rfl) fun D σ H q => by
  obtain ⟨bx, env, h, hE, hh, p⟩ := q
  refine ⟨bx, env, h, hE, hh, PstC.lift hE p fun d h1 H1 bx1 v e1 hh1 r1 p1 => ?_⟩
  refine ⟨bx1, env, h1, hE.ext e1, hh1, PstC.lift (hE.ext e1) p1 fun x h2 H2 bx2 vx e2 hh2 r2 p2 => ?_⟩
  refine ⟨bx2, env, h2, (hE.ext e1).ext e2, hh2, PstC.lift ((hE.ext e1).ext e2) p2 fun j h3 H3 bx3 vi e3 hh3 r3 p3 => ?_⟩
  exact pst_set (((hE.ext e1).ext e2).ext e3) hh3 (Rep.ext e3 _ r2) r3 (Rep.ext e3 _ (Rep.ext e2 _ r1)) p3
theorem pget_list : PGet X (rIxL X.K) := by
  intro pins s σ H x y v u Q I rx ry h
  obtain ⟨p, xs, i, z, rfl, rfl, hq, he, q⟩ := h
  cases rx
  obtain ⟨t, rfl⟩ := ry
  obtain ⟨its, r, pl, hz⟩ := I.list hq
  obtain ⟨j, h1, h2, h3, h4, h5⟩ := atI_get he
  obtain ⟨w, ew, rw'⟩ := r.get h2
  have hl := r.length
  have hn := line63
  have fin : EP X pins σ Q w s := ⟨z, H, I, rw', q⟩
  by_cases h0 : 0 ≤ i
  · have hj : i.toNat = j := by
      rw [seqIndex_of h0 h5] at h1
      exact Option.some.inj h1
    exact wpAny_getItem_list pl.isList h0 (by omega) (by rw [hj]; simpa using ew) fin
  · have hj : (i + (its.toArray.size : Int)).toNat = j := by
      rw [seqIndex_neg (by omega) h4] at h1
      rw [List.size_toArray, ← hl]
      exact Option.some.inj h1
    exact wpAny_getItem_list_neg pl.isList (by omega) (by rw [List.size_toArray] <;> omega) (by omega) (by rw [hj]; simpa using ew) fin
theorem ss_augIx (g : Good G Z cf k cc X) {a i e : Expr} {op : Operator} {o : Op} {p1 : Pos} {fa fi fe : Env → HP → Rs D} (ha : SE Z X a fa) (hi : SE Z X i fi) (he : SE Z X e fe) (hp : plainX i = true) (ho : opAug o = some op) :
    SS Z X (.AugAssign (.Subscript a i p1) op e pos) (fun env hp => liftE (fa env hp) env fun x h => liftE (fi env h) env fun j h => liftE (getD2 x j h) env fun v h => liftE (fe env h) env fun y h => liftE (augD o [v, y] h) env fun z h => liftE (setD2 x j z h) env fun _ h => .ok (.nx env) h) := fun fb W tk =>
  ps_imp (ps_augS (ha fb W tk) (hi fb W tk) pget_list (he fb W tk) (aug_ok (Z := Z) ho fb) set_list (by intro ov iv new; cases i <;> first | rfl | exact Bool.noConfusion (show false = true from hp))) fun D σ H q => by
  obtain ⟨bx, env, h, hE, hh, p⟩ := q
  refine ⟨bx, env, h, hE, hh, PstC.lift hE p fun x h1 H1 bx1 vx e1 hh1 r1 p1 => ?_⟩
  have hE1 := hE.ext e1
  refine ⟨bx1, env, h1, hE1, hh1, PstC.lift hE1 p1 fun j h2 H2 bx2 vi e2 hh2 r2 p2 => ?_⟩
  have hE2 := hE1.ext e2
  cases eg : getD2 x j h2 with
  | bad => rw [eg] at p2; exact False.elim p2
  | exc xx hx =>
    exfalso
    unfold getD2 at eg
    split at eg
    · split at eg
      · split at eg <;> cases eg
      · cases eg
    · cases eg
  | ok v h3 =>
    rw [eg] at p2
    unfold getD2 at eg
    split at eg
    · rename_i n jj
      split at eg
      · rename_i xs gx
        split at eg
        · rename_i d ed
          cases eg
          have r1' := Rep.ext e2 _ r1
          obtain ⟨aa, rfl, q⟩ := r1'
          have r2' : vi = .int jj := r2
          subst r2'
          obtain ⟨vs, e4, hz, rr⟩ := hh2.at_ n aa _ q gx
          obtain ⟨v2, z1, z2⟩ := atI_rep rr ed
          refine ⟨aa, vs, jj, v2, rfl, rfl, SqL.of e4, z1, bx2, env, h2, hE2, hh2, PstC.lift hE2 p2 fun y h4 H4 bx4 vy e5 hh4 r4 p4 => ?_⟩
          have hE4 := hE2.ext e5
          refine ⟨fun _ _ _ => False, bx4, _, y, h4, Rep.ext e5 _ z2, r4, hh4, ?_⟩
          cases ea : augD o [v, y] h4 with
          | bad => rw [ea] at p4; exact False.elim p4
          | exc xx hx => exact absurd ea augD_noexc
          | ok zz h5 =>
            rw [ea] at p4
            exact fun H5 bx5 w5 e6 hh5 r5 => pst_set (hE4.ext e6) hh5 (Rep.ext e6 _ (Rep.ext e5 _ (Rep.ext e2 _ r1))) (Rep.ext e6 _ (Rep.ext e5 _ r2)) r5 (PstC.ext p4 e6)
        · cases eg
      · cases eg
    · cases eg
end
/-- the store behind a comprehension -/
def asgOk (cc : CC) (t : Tg) (e : E) (tg v : Expr) : Bool := noComp v || (match tg with | .Name .. => false | _ => true) || (match tg, v, t, e with
        | .Name y py, .ListComp _ _ scope vp, .nm _, .comp _ _ _ _ _ _ => decide (cc.sc.names.lookup y = some .local) && (py.line == vp.line) && !(scope.names.any fun (n, k) => n == y && (k == .local || k == .cell)) || (decide (cc.sc.names.lookup y = some .cell))
        | _, _, _, _ => false)
mutual
def chkS (G : Tab) (cc : CC) : S → Stmt → Bool
  | .asg t e, x => match x with
    | .Assign tgs v pos => match tgs with
      | [tg] => chkE G cc e v && chkT cc t tg && swC cc.sc tg v && asgOk cc t e tg v
      | _ => false
    | _ => false
  | .par is es, x => match x with
    | .Assign tgs v _ => match tgs, v with
      | [.Tuple ts _ _], .Tuple vs _ _ => chkEs G cc es vs && (match is, ts with
        | [i, j], [.Name x _, .Name y _] => decide (cc.N[i]? = some x) && decide (cc.N[j]? = some y) && decide (i ≠ j) && decide (cc.sc.names.lookup x = some .local) && decide (cc.sc.names.lookup y = some .local) && swP cc.sc ts vs [x, y]
        | [i, j, l], [.Name x _, .Name y _, .Name z _] => decide (cc.N[i]? = some x) && decide (cc.N[j]? = some y) && decide (cc.N[l]? = some z) && decide (i ≠ j) && decide (i ≠ l) && decide (j ≠ l) && decide (cc.sc.names.lookup x = some .local) && decide (cc.sc.names.lookup y = some .local) && decide (cc.sc.names.lookup z = some .local) && swP cc.sc ts vs [x, y, z]
        | _, _ => false)
      | _, _ => false
    | _ => false
  | .aug i o e, x => match x with
    | .AugAssign tg op v _ => (match tg with | .Name .. => true | _ => false) && chkT cc (.nm i) tg && decide (opAug o = some op) && chkE G cc e v
    | _ => false
  | .setIx a i e, x => match x with
    | .Assign tgs v _ => match tgs with
      | [.Subscript b j _] => chkE G cc a b && chkE G cc i j && chkE G cc e v && plainX j
      | _ => false
    | _ => false
  | .augIx o a i e, x => match x with
    | .AugAssign tg op v _ => match tg with
      | .Subscript b j _ => chkE G cc a b && chkE G cc i j && chkE G cc e v && plainX j && decide (opAug o = some op)
      | _ => false
    | _ => false
  | .ex e, x => match x with
    | .Expr v _ => chkE G cc e v && noComp v
    | _ => false
  | .ret e, x => match x with
    | .Return (some v) _ => chkE G cc e v
    | _ => false
  | .retN, x => match x with
    | .Return none _ => true
    | _ => false
  | .ifs c a b, x => match x with
    | .If t y z _ => chkE G cc c t && chkSs G cc a y && chkSs G cc b z
    | _ => false
  | .for t it body, x => match x with
    | .For tg iter b o _ => chkI G cc it tg iter && chkT cc t tg && plainX iter && chkSs G cc body b && o.isEmpty
    | _ => false
  | .while c body, x => match x with
    | .While t b o _ => chkE G cc c t && chkSs G cc body b && o.isEmpty
    | _ => false
  | .raise _ _ _, _ => true
  | .pass, x => match x with
    | .Pass _ => true
    | _ => false
  | .brk, x => match x with
    | .Break _ => true
    | _ => false
  | .cnt, x => match x with
    | .Continue _ => true
    | _ => false
def chkSs (G : Tab) (cc : CC) : Ss → List Stmt → Bool
  | .nil, xs => match xs with
    | [] => true
    | _ => false
  | .cons s r, xs => match xs with
    | [] => false
    | x :: xs => chkS G cc s x && chkSs G cc r xs
end
end Mp

end
section
set_option maxRecDepth 100000
set_option maxHeartbeats 8000000
namespace Mp
open PySem PySem.Spec PyProof.Rows L2

section
variable {G : Tab} {Z : St0} {cf : Fns} {k : Nat} {cc : CC} {X : Cx} {pos : Pos}
theorem eqSS {x : Stmt} {f f' : Env → HP → Rs Ct} (h : SS Z X x f) (e : f' = f) : SS Z X x f' := e ▸ h
theorem eqSSs {x : List Stmt} {f f' : Env → HP → Rs Ct} (h : SSs Z X x f) (e : f' = f) : SSs Z X x f' := e ▸ h
theorem ss_bad {x : Stmt} : SS Z X x (fun _ _ => .bad) := fun fb W tk => ⟨fun pins s σ H D I q => by
  obtain ⟨bx, env, hp, he, hh, p⟩ := q
  exact False.elim p⟩
theorem blockK {env : PySem.Env} (h : env.scope.kind = .function) : env.blockKind = .function := by unfold Env.blockKind; rw [h]; rfl
theorem sndAsg (g : GoodS G Z cf k cc X) {t : Tg} {e : E} {tg v : Expr} (h1 : chkE G cc e v = true) (h2 : chkT cc t tg = true) (h3 : swC cc.sc tg v = true) (h4 : asgOk cc t e tg v = true) : SS Z X (.Assign [tg] v pos) (evS cf G.gl (.asg t e)) := by
  have gen : (∀ env : PySem.Env, env.scope = cc.sc → swapsWith v (some tg) pos.line env = pure false) → SS Z X (.Assign [tg] v pos) (evS cf G.gl (.asg t e)) := fun hs =>
    eqSS (ss_asg g.toGood ((sndE e cc X g.toGood v h1).1) h2 hs h3) (by funext env hp; first | rfl | (simp only [evS]; done) | (simp only [evS]; rfl))
  unfold asgOk at h4
  rw [Bool.or_eq_true, Bool.or_eq_true] at h4
  rcases h4 with (h4 | h4) | h4
  · exact gen fun env _ => swaps_no h4
  · exact gen fun env _ => setLc_false fun n p e => by subst e; exact Bool.noConfusion (show false = true from h4)
  · split at h4
    · rename_i y py x1 x2 scope vp i b own tt it ifs elt
      rw [Bool.or_eq_true] at h4
      rcases h4 with h4 | h4
      · simp only [Bool.and_eq_true, decide_eq_true_eq, Bool.not_eq_true'] at h4
        obtain ⟨⟨z1, z2⟩, z3⟩ := h4
        unfold chkE at h1
        dsimp only at h1
        split at h1
        · rename_i tg iter is as
          simp only [Bool.and_eq_true, decide_eq_true_eq] at h1
          obtain ⟨⟨⟨⟨⟨⟨⟨⟨rfl, h1⟩, h2'⟩, h3'⟩, h4'⟩, h5⟩, h6⟩, h7⟩, h8⟩ := h1
          unfold chkT at h2
          simp only [Bool.and_eq_true, decide_eq_true_eq] at h2
          have hsw : ∀ env : PySem.Env, env.scope = cc.sc → swapsWith (.ListComp x1 [⟨tg, iter, is, 0⟩] scope vp) (some (.Name y py)) pos.line env = pure true := by
            intro env he
            unfold swapsWith
            dsimp only
            rw [blockK (by rw [he]; exact g.kind)]
            unfold Env.kindOf
            rw [he, z1, z3]
            have e2 : (py.line == (Expr.ListComp x1 [⟨tg, iter, is, 0⟩] scope vp).pos.line) = true := z2
            rw [e2]
            rfl
          have q := ss_setLc (b := b) (spos := pos) g.toGood h2.1 z1 hsw (sndI it cc X g.toGood tg iter h1) h3' h4' h5 (fun X' g' => sndTs ifs (ccB cc scope) X' g' is h6 h7) (fun X' g' => (sndE elt (ccB cc scope) X' g' x1 h8).1) h2'
          exact eqSS q (by funext env hp; simp only [evS, evE]; rfl)
        · exact Bool.noConfusion (show false = true from h1)
      · simp only [decide_eq_true_eq] at h4
        refine gen fun env he => ?_
        unfold swapsWith
        dsimp only
        unfold Env.kindOf
        rw [he, h4]
        have e : (some NameKind.cell == some NameKind.local) = false := rfl
        rw [e, Bool.and_false, Bool.false_and, Bool.false_and]
    · exact Bool.noConfusion h4
mutual
theorem sndS : ∀ (s : S) (cc : CC) (X : Cx) (g : GoodS G Z cf k cc X) (x : Stmt), chkS G cc s x = true → SS Z X x (evS cf G.gl s)
  | .asg t e, cc, X, g, x, h => by
    unfold chkS at h
    cases x <;> first | exact Bool.noConfusion (show false = true from h) | skip
    dsimp only at h
    split at h
    · rw [Bool.and_eq_true, Bool.and_eq_true, Bool.and_eq_true] at h
      exact sndAsg g h.1.1.1 h.1.1.2 h.1.2 h.2
    · exact Bool.noConfusion (show false = true from h)
  | .par is es, cc, X, g, x, h => by
    unfold chkS at h
    cases x <;> first | exact Bool.noConfusion (show false = true from h) | skip
    dsimp only at h
    split at h
    · rw [Bool.and_eq_true] at h
      obtain ⟨h0, h⟩ := h
      have l := chkEs_len h0
      split at h
      · simp only [Bool.and_eq_true, decide_eq_true_eq] at h
        rename_i tgs v vs k2 p2 kt pt i j x px y py
        obtain ⟨⟨⟨⟨⟨q1, q2⟩, q3⟩, q4⟩, q5⟩, q6⟩ := h
        have hlen : vs.length = 2 := by
          unfold swP at q6
          simp only [Bool.and_eq_true] at q6
          have := q6.1.1.1.1.1.1.2
          simpa using this
        match vs, hlen, h0, l, q6 with
        | [a, b], _, h0, l, q6 =>
          have q := fun pos pt kt k2 p2 => ss_par2 (pos := pos) (pt := pt) (kt := kt) (k2 := k2) (p2 := p2) g q1 q2 q3 q4 q5 q6 (sndEs es cc X g.toGood _ h0) (fun env hp ds hp' e => by rw [evEs_len cf G.gl es env hp ds hp' e, ← l]; rfl)
          exact eqSS (q _ _ _ _ _) (by funext env hp; first | rfl | (simp only [evS]; done) | (simp only [evS]; rfl))
      · simp only [Bool.and_eq_true, decide_eq_true_eq] at h
        rename_i tgs v vs k2 p2 kt pt i j l' x px y py z pz
        obtain ⟨⟨⟨⟨⟨⟨⟨⟨⟨q1, q2⟩, q3⟩, q4⟩, q5⟩, q6⟩, q7⟩, q8⟩, q9⟩, q10⟩ := h
        have hlen : vs.length = 3 := by
          unfold swP at q10
          simp only [Bool.and_eq_true] at q10
          have := q10.1.1.1.1.1.1.2
          simpa using this
        match vs, hlen, h0, q10 with
        | [a, b, c], _, h0, q10 =>
          have q := fun pos pt kt k2 p2 => ss_par3 (pos := pos) (pt := pt) (kt := kt) (k2 := k2) (p2 := p2) g q1 q2 q3 q4 q5 q6 q7 q8 q9 q10 (sndEs es cc X g.toGood _ h0)
          exact eqSS (q _ _ _ _ _) (by funext env hp; first | rfl | (simp only [evS]; done) | (simp only [evS]; rfl))
      · exact Bool.noConfusion (show false = true from h)
    · exact Bool.noConfusion (show false = true from h)
  | .aug i o e, cc, X, g, x, h => by
    unfold chkS at h
    cases x <;> first | exact Bool.noConfusion (show false = true from h) | skip
    rename_i tg op v p
    simp only [Bool.and_eq_true, decide_eq_true_eq] at h
    obtain ⟨⟨⟨h1, h2⟩, h3⟩, h4⟩ := h
    cases tg <;> first | exact Bool.noConfusion (show false = true from h1) | skip
    have q := fun pos p => ss_aug (pos := pos) (p1 := p) g.toGood ((sndE e cc X g.toGood v h4).1) h2 h3
    exact eqSS (q _ _) (by funext env hp; first | rfl | (simp only [evS]; done) | (simp only [evS]; rfl))
  | .setIx a i e, cc, X, g, x, h => by
    unfold chkS at h
    cases x <;> first | exact Bool.noConfusion (show false = true from h) | skip
    dsimp only at h
    split at h
    · simp only [Bool.and_eq_true] at h
      obtain ⟨⟨⟨h1, h2⟩, h3⟩, h4⟩ := h
      exact eqSS (ss_setIx g.toGood (sndE a cc X g.toGood _ h1).1 (sndE i cc X g.toGood _ h2).1 (sndE e cc X g.toGood _ h3).1 h4) (by funext env hp; first | rfl | (simp only [evS]; done) | (simp only [evS]; rfl))
    · exact Bool.noConfusion (show false = true from h)
  | .augIx o a i e, cc, X, g, x, h => by
    unfold chkS at h
    cases x <;> first | exact Bool.noConfusion (show false = true from h) | skip
    rename_i tg op v p
    cases tg <;> first | exact Bool.noConfusion (show false = true from h) | skip
    simp only [Bool.and_eq_true, decide_eq_true_eq] at h
    obtain ⟨⟨⟨⟨h1, h2⟩, h3⟩, h4⟩, h5⟩ := h
    exact eqSS (ss_augIx g.toGood (sndE a cc X g.toGood _ h1).1 (sndE i cc X g.toGood _ h2).1 (sndE e cc X g.toGood _ h3).1 h4 h5) (by funext env hp; first | rfl | (simp only [evS]; done) | (simp only [evS]; rfl))
  | .ex e, cc, X, g, x, h => by
    unfold chkS at h
    cases x <;> first | exact Bool.noConfusion (show false = true from h) | skip
    rw [Bool.and_eq_true] at h
    exact eqSS (ss_ex (sndE e cc X g.toGood _ h.1).1 h.2) (by funext env hp; first | rfl | (simp only [evS]; done) | (simp only [evS]; rfl))
  | .ret e, cc, X, g, x, h => by
    unfold chkS at h
    cases x <;> first | exact Bool.noConfusion (show false = true from h) | skip
    rename_i v p
    cases v <;> first | exact Bool.noConfusion (show false = true from h) | skip
    exact eqSS (ss_ret (sndE e cc X g.toGood _ h).1) (by funext env hp; first | rfl | (simp only [evS]; done) | (simp only [evS]; rfl))
  | .retN, cc, X, g, x, h => by
    unfold chkS at h
    cases x <;> first | exact Bool.noConfusion (show false = true from h) | skip
    rename_i v p
    cases v <;> first | exact Bool.noConfusion (show false = true from h) | skip
    exact eqSS ss_retN (by funext env hp; first | rfl | (simp only [evS]; done) | (simp only [evS]; rfl))
  | .ifs c a b, cc, X, g, x, h => by
    unfold chkS at h
    cases x <;> first | exact Bool.noConfusion (show false = true from h) | skip
    simp only [Bool.and_eq_true] at h
    exact eqSS (ss_if (sndE c cc X g.toGood _ h.1.1).2 (sndSs a cc X g _ h.1.2) (sndSs b cc X g _ h.2)) (by funext env hp; first | rfl | (simp only [evS]; done) | (simp only [evS]; rfl))
  | .for t it body, cc, X, g, x, h => by
    unfold chkS at h
    cases x <;> first | exact Bool.noConfusion (show false = true from h) | skip
    rename_i tg iter b o p
    simp only [Bool.and_eq_true] at h
    obtain ⟨⟨⟨⟨h1, h2⟩, h3⟩, h4⟩, h5⟩ := h
    cases o with
    | cons _ _ => exact Bool.noConfusion h5
    | nil => exact eqSS (ss_for g (sndI it cc X g.toGood tg iter h1) h2 (sndSs body cc X g b h4) h3) (by funext env hp; first | rfl | (simp only [evS]; done) | (simp only [evS]; rfl))
  | .while c body, cc, X, g, x, h => by
    unfold chkS at h
    cases x <;> first | exact Bool.noConfusion (show false = true from h) | skip
    rename_i t b o p
    simp only [Bool.and_eq_true] at h
    obtain ⟨⟨h1, h2⟩, h3⟩ := h
    cases o with
    | cons _ _ => exact Bool.noConfusion h3
    | nil => exact eqSS (ss_while g (sndE c cc X g.toGood t h1).2 (sndSs body cc X g b h2)) (by funext env hp; first | rfl | (simp only [evS]; done) | (simp only [evS]; rfl))
  | .raise _ _ _, cc, X, g, x, h => by
    exact eqSS ss_bad (by funext env hp; first | rfl | (simp only [evS]; done) | (simp only [evS]; rfl))
  | .pass, cc, X, g, x, h => by
    unfold chkS at h
    cases x <;> first | exact Bool.noConfusion (show false = true from h) | skip
    exact eqSS ss_pass (by funext env hp; first | rfl | (simp only [evS]; done) | (simp only [evS]; rfl))
  | .brk, cc, X, g, x, h => by
    unfold chkS at h
    cases x <;> first | exact Bool.noConfusion (show false = true from h) | skip
    exact eqSS ss_brk (by funext env hp; first | rfl | (simp only [evS]; done) | (simp only [evS]; rfl))
  | .cnt, cc, X, g, x, h => by
    unfold chkS at h
    cases x <;> first | exact Bool.noConfusion (show false = true from h) | skip
    exact eqSS ss_cnt (by funext env hp; first | rfl | (simp only [evS]; done) | (simp only [evS]; rfl))
theorem sndSs : ∀ (s : Ss) (cc : CC) (X : Cx) (g : GoodS G Z cf k cc X) (xs : List Stmt), chkSs G cc s xs = true → SSs Z X xs (evSs cf G.gl s)
  | .nil, cc, X, g, xs, h => by
    unfold chkSs at h
    cases xs with
    | nil => exact eqSSs sss_nil (by funext env hp; simp only [evSs])
    | cons x xs => exact Bool.noConfusion (show false = true from h)
  | .cons s r, cc, X, g, xs, h => by
    unfold chkSs at h
    cases xs with
    | nil => exact Bool.noConfusion (show false = true from h)
    | cons x xs =>
      dsimp only at h
      rw [Bool.and_eq_true] at h
      exact eqSSs (sss_cons (sndS s cc X g x h.1) (sndSs r cc X g xs h.2)) (by funext env hp; simp only [evSs])
end
end
end Mp

end
section
set_option maxRecDepth 100000
set_option maxHeartbeats 4000000
namespace Mp
open PySem PySem.Spec PyProof.Rows L2

/-- a def: how many parameters, how many slots, its body -/
structure Df where
  np : Nat
  n : Nat
  body : Ss
def startD (n : Nat) (ds : List D) : Env := ds.map some ++ List.replicate (n - ds.length) none
def finD (r : Rs Ct) : Rs D := match r with
  | .ok (.nx _) h => .ok .non h
  | .ok (.rt d) h => .ok d h
  | .ok (.xc x _) h => .exc x h
  | _ => .bad
def runD (cf : Fns) (gl : Nat → D) (d : Df) (ds : List D) (h : HP) : Rs D := if ds.length = d.np then finD (evSs cf gl d.body (startD d.n ds) h) else .bad
def callN (prog : Nat → Option Df) (gl : Nat → D) : Nat → Fns
  | 0 => fun _ _ _ => .bad
  | k + 1 => fun f ds h => match prog f with
    | none => .bad
    | some d => runD (callN prog gl k) gl d ds h
/-- a def's text -/
structure Td where
  N : List Str
  ps : List Str
  params : Arguments
  body : List Stmt
  sc : Scope
def ccD (t : Td) : CC := ⟨t.N, t.sc, fun _ => true⟩
def okT (G : Tab) (d : Df) (t : Td) : Bool := decide (t.ps.length = d.np) && decide (t.N.length = d.n) && chkSs G (ccD t) d.body t.body
structure Wf (P : Program) (w : World) (K : PySem.W.Frag) (mg : Str → Option Value) (base : Heap) (G : Tab) (Z : St0) (prog : Nat → Option Df) (T : Nat → Td) : Prop where
  hK : Z.K = K
  blt : ∀ x ∈ bltNames, mg x = none
  glo : ∀ i, (∃ u v, mg (G.gnm i) = some u ∧ RelV v u ∧ ∀ fb H bx, Rep (Z.wf fb) H bx (G.gl i) v) ∨ G.gnm i = Str.empty
  fns : ∀ f, (prog f = none ∧ G.fnm f = Str.empty) ∨ ∃ d, prog f = some d ∧ okT G d (T f) = true ∧ FnScope (T f).N (T f).ps (T f).sc ∧ (G.fnm f == ("__debug__" : Str)) = false ∧
    ∃ a fd, mg (G.fnm f) = some (.ref a) ∧ FunD K (G.fnm f) (G.fnm f) (T f).params (T f).body (T f).sc [] [] a fd ∧ L2.Binds K fd (T f).ps []
section
variable {P : Program} {w : World} {K : PySem.W.Frag} {mg : Str → Option Value} {base : Heap} {G : Tab} {Z : St0} {prog : Nat → Option Df} {T : Nat → Td}
theorem start_rep {Z : St0} {H : Hp} {bx : List Addr} {N : List Str} {n : Nat} {ds : List D} {vs : List V} (hn : N.length = n) (r : RepL Z H bx ds vs) : EnvR Z H bx (L2.start N vs) (startD n ds) := by
  have l := r.length
  refine ⟨by unfold L2.start startD; simp; omega, fun i d e => ?_⟩
  unfold startD at e
  unfold L2.start
  by_cases hi : i < ds.length
  · rw [List.getElem?_append_left (by simpa using hi), List.getElem?_map] at e
    cases q : ds[i]? with
    | none => rw [q] at e; cases e
    | some d' =>
      rw [q] at e
      cases e
      obtain ⟨v, h1, h2⟩ := r.get q
      refine ⟨v, ?_, h2⟩
      rw [List.getElem?_append_left (by simp; omega), List.getElem?_map, h1]
      rfl
  · rw [List.getElem?_append_right (by simpa using hi), List.getElem?_replicate] at e
    split at e <;> cases e
theorem fnGood (wf : Wf P w K mg base G Z prog T) : ∀ k f, FnGood P w K mg base Z k (G.fnm f) (callN prog G.gl k f) ∨ G.fnm f = Str.empty := by
  intro k
  induction k with
  | zero =>
    intro f
    rcases wf.fns f with ⟨_, e⟩ | ⟨d, e, ok, S, hd, a, fd, hm, F, hb⟩
    · exact .inr e
    · refine .inl ⟨⟨a, fd, (T f).ps, hm, F.kp, hb, fun ds h _ => rfl, ⟨fun vs H Q E q => ?_, fun A outer s H args us vs Q E hr hgd he hb hv q => ?_⟩⟩, hd⟩
      · obtain ⟨fb, bx, ds, h, r, hr, hl, p⟩ := q
        exact False.elim p
      · obtain ⟨fb, bx, ds, h, r, hr, hl, p⟩ := q
        exact False.elim p
  | succ k ih =>
    intro f
    rcases wf.fns f with ⟨_, e⟩ | ⟨d, e, ok, S, hd, a, fd, hm, F, hb⟩
    · exact .inr e
    · have hc : callN prog G.gl (k + 1) f = runD (callN prog G.gl k) G.gl d := by
        funext ds h
        show (match prog f with
          | none => Rs.bad
          | some d => runD (callN prog G.gl k) G.gl d ds h) = _
        rw [e]
      unfold okT at ok
      simp only [Bool.and_eq_true, decide_eq_true_eq] at ok
      obtain ⟨⟨o1, o2⟩, o3⟩ := ok
      rw [hc]
      refine .inl ⟨⟨a, fd, (T f).ps, hm, F.kp, hb, fun ds h ne => ?_, fnG_of F S (fun vs H Q E q => ?_) fun cdv A outer s H vs Q E hr hgd q => ?_⟩, hd⟩
      · unfold runD
        rw [if_neg (by rw [← o1]; exact ne)]
      · obtain ⟨fb, bx, ds, h, r, hr, hl, p⟩ := q
        rw [r.length, hl]
      · obtain ⟨fb, bx, ds, h, r, hh, hl, p⟩ := q
        have g : GoodS G Z (callN prog G.gl k) k (ccD (T f)) (cxOf (L2.CX P w) P w K mg base (T f).N (G.fnm f) (T f).sc a cdv A outer s H E) :=
          { K := wf.hK.symm, calm := rfl, N := rfl, nd := S.nd, sc := rfl, fn := rfl, room := hr, gd := hgd, blt := wf.blt, glo := wf.glo, fns := ih, kind := S.kind, pass := passes_of rfl }
        have tk : Takes (cxOf (L2.CX P w) P w K mg base (T f).N (G.fnm f) (T f).sc a cdv A outer s H E) (fun c d _ H => E c d H) := takes_of rfl rfl rfl rfl
        refine ⟨_, sndSs d.body (ccD (T f)) _ g (T f).body o3 fb _ tk, ?_⟩
        refine ⟨bx, startD d.n ds, h, start_rep o2 r, hh, ?_⟩
        replace p : PstS (Z.wf fb) H bx E (RepS (Z.wf fb)) (runD (callN prog G.gl k) G.gl d ds h) Q := p
        unfold runD at p
        rw [if_pos (by rw [hl, o1])] at p
        cases er : evSs (callN prog G.gl k) G.gl d.body (startD d.n ds) h with
        | bad => rw [er] at p; exact False.elim p
        | exc xx hx => rw [er] at p; exact False.elim p
        | ok c h' =>
          rw [er] at p
          cases c with
          | nx env => exact fun H' bx' σ' e' hr' he' => p H' bx' .non e' hr' rfl
          | rt d' => exact p
          | bk env => exact False.elim p
          | ct env => exact False.elim p
          | xc x env => exact fun H' bx' σ' c d e' hr' he' xr => p H' bx' c d e' hr' xr
/-- the same, of a def whose object is known -/
theorem fnG_at (wf : Wf P w K mg base G Z prog T) {k f : Nat} {d : Df} {a : Addr} {fd : FuncData} (e : prog f = some d) (ok : okT G d (T f) = true) (S : FnScope (T f).N (T f).ps (T f).sc)
    (F : FunD K (G.fnm f) (G.fnm f) (T f).params (T f).body (T f).sc [] [] a fd) : FnG P w K mg base (L2.CX P w) (k + 1) a fd (T f).ps (spF Z (T f).ps.length (callN prog G.gl (k + 1) f)) := by
  have ih := fnGood wf k
  have hc : callN prog G.gl (k + 1) f = runD (callN prog G.gl k) G.gl d := by
    funext ds h
    show (match prog f with
      | none => Rs.bad
      | some d => runD (callN prog G.gl k) G.gl d ds h) = _
    rw [e]
  unfold okT at ok
  simp only [Bool.and_eq_true, decide_eq_true_eq] at ok
  obtain ⟨⟨o1, o2⟩, o3⟩ := ok
  rw [hc]
  refine fnG_of F S (fun vs H Q E q => ?_) fun cdv A outer s H vs Q E hr hgd q => ?_
  · obtain ⟨fb, bx, ds, h, r, hr, hl, p⟩ := q
    rw [r.length, hl]
  · obtain ⟨fb, bx, ds, h, r, hh, hl, p⟩ := q
    have g : GoodS G Z (callN prog G.gl k) k (ccD (T f)) (cxOf (L2.CX P w) P w K mg base (T f).N (G.fnm f) (T f).sc a cdv A outer s H E) :=
      { K := wf.hK.symm, calm := rfl, N := rfl, nd := S.nd, sc := rfl, fn := rfl, room := hr, gd := hgd, blt := wf.blt, glo := wf.glo, fns := ih, kind := S.kind, pass := passes_of rfl }
    have tk : Takes (cxOf (L2.CX P w) P w K mg base (T f).N (G.fnm f) (T f).sc a cdv A outer s H E) (fun c d _ H => E c d H) := takes_of rfl rfl rfl rfl
    refine ⟨_, sndSs d.body (ccD (T f)) _ g (T f).body o3 fb _ tk, ?_⟩
    refine ⟨bx, startD d.n ds, h, start_rep o2 r, hh, ?_⟩
    replace p : PstS (Z.wf fb) H bx E (RepS (Z.wf fb)) (runD (callN prog G.gl k) G.gl d ds h) Q := p
    unfold runD at p
    rw [if_pos (by rw [hl, o1])] at p
    cases er : evSs (callN prog G.gl k) G.gl d.body (startD d.n ds) h with
    | bad => rw [er] at p; exact False.elim p
    | exc xx hx => rw [er] at p; exact False.elim p
    | ok c h' =>
      rw [er] at p
      cases c with
      | nx env => exact fun H' bx' σ' e' hr' he' => p H' bx' .non e' hr' rfl
      | rt d' => exact p
      | bk env => exact False.elim p
      | ct env => exact False.elim p
      | xc x env => exact fun H' bx' σ' c d e' hr' he' xr => p H' bx' c d e' hr' xr
/-- the script -/
def scriptD (ns : List Int) : D := .lst (ns.map .int)
theorem ints_rep {Z : St0} {H : Hp} {bx : List Addr} : ∀ ns : List Int, RepL Z H bx (ns.map .int) (ns.map V.int)
  | [] => .nil
  | n :: ns => .cons (show V.int n = .int n from rfl) (ints_rep ns)
theorem law_sp {Z : St0} (hK : Z.K = K) {g : List D → HP → Rs D} {H : Hp} {a : Addr} {ns : List Int} {h' : HP} (hl : ns.length ≤ 63) (hS : SqL K H a (ns.map V.int)) (e : g [scriptD ns] [] = .ok (.bl true) h') : spF Z 1 g [.ref a] H (fun v _ => v = .bl true) (fun _ _ _ => False) := by
  have l2 : (ns.map V.int).length ≤ sizeLine := by rw [sizeLine_eq, List.length_map]; omega
  refine ⟨[], [], [scriptD ns], [], .cons ⟨a, ns.map V.int, rfl, ⟨l2, ?_⟩, ints_rep ns⟩ .nil, ?_, rfl, ?_⟩
  · rcases hS with h | h
    · exact .inl ⟨h, by simp, by simp⟩
    · exact .inr (by rw [hK]; exact h)
  · exact ⟨List.nodup_nil, fun a m => by simp at m, fun a m => by simp at m, rfl, fun n a o h1 h2 => by simp at h1⟩
  · rw [e]
    exact fun H' bx' b _ _ r => r
end
theorem walk_ofW {l : PySem.W.OpenLaw} {n k : Nat} {q : Program} {loose : List Str} {XP : (Str → Option Value) → Heap → Prop} {YP : World → Heap → Prop} {d : DefRec} {x : Str} (hn : l.most = some n) (hn2 : n ≤ sizeLine) (hdf : d.params.defaults = []) (hr : Room k callerA)
    (F : ∀ (w : World) (mg : Str → Option Value) (fa : Addr) (h : Heap), YP w h → h.Ns mainGlobals mg → mg d.name = some (.ref fa) → ∃ (K : PySem.W.Frag) (fd : FuncData) (sp : Sp), K.In h ∧ (∀ (s : Shared) (u : Value), BindsTo s fd ⟨[u], []⟩ [(x, u)]) ∧
        (∀ (H : Hp) (a : Addr) (ns : List Int), ns.length ≤ n → SqL K H a (ns.map V.int) → sp [.ref a] H (fun v _ => v = .bl true) fun _ _ _ => False) ∧ ∀ b : Heap, K.In b → b.Ns mainGlobals mg → FnG l.prog w K mg b (L2.CX l.prog w) k fa fd [x] sp) :
    PySem.W.WalkO q loose XP YP l.row.toRowW d [] (fun f vs => PySem.call f vs) := by
  refine Att.attach_call hn hdf fun w s0 s1 mg mb fa o pm cd doc a vs ns G Y ho hd hcd hmg hobj hints hlen hgens => ?_
  obtain ⟨K, fd, sp, K1, hb, hsp, hF⟩ := F w mg fa _ Y G.T.g hmg
  refine law_callG K1 G.T.g G.T.b G.T.builtins G.T.nolimit hgens hobj hints (Nat.le_trans hlen hn2) hr hF hb (fun H hS => hsp H a ns hlen hS) fun H e s2 hC => ?_
  obtain ⟨_, _, _, _, _, _, _, _, _, _, _, _, z⟩ := hC
  exact z
end Mp

end
section
set_option maxRecDepth 100000
namespace Mp
open PySem
theorem callN_succ (prog : Nat → Option Df) (gl : Nat → D) (k f : Nat) {d : Df} (e : prog f = some d) (ds : List D) (h : HP) : callN prog gl (k + 1) f ds h = runD (callN prog gl k) gl d ds h := by
  show (match prog f with
    | none => Rs.bad
    | some d => runD (callN prog gl k) gl d ds h) = _
  rw [e]
/-- a walk over what stays, by an invariant -/
theorem walkL_inv {α : Type} {step : D → α → HP → Rs α} {iv : IV} {xs : List D} (Pv : Nat → α → HP → Prop) (hiv : ∀ i acc h, Pv i acc h → iv h = some xs)
    (hs : ∀ i d acc h, xs[i]? = some d → Pv i acc h → ∃ acc' h', step d acc h = .ok acc' h' ∧ Pv (i + 1) acc' h') :
    ∀ (m f i : Nat) (acc : α) (h : HP), xs.length - i = m → i ≤ xs.length → m < f → Pv i acc h → ∃ acc' h', walkL step iv f i acc h = .ok acc' h' ∧ Pv xs.length acc' h' := by
  intro m
  induction m with
  | zero =>
    intro f i acc h hm hi hf p
    have e : i = xs.length := by omega
    subst e
    cases f with
    | zero => omega
    | succ f =>
      refine ⟨acc, h, ?_, p⟩
      unfold walkL
      rw [hiv _ _ _ p]
      dsimp only
      rw [List.getElem?_eq_none (Nat.le_refl _)]
      dsimp only
      rw [if_pos rfl]
  | succ m ih =>
    intro f i acc h hm hi hf p
    cases f with
    | zero => omega
    | succ f =>
      have hlt : i < xs.length := by omega
      obtain ⟨acc1, h1, e1, p1⟩ := hs i xs[i] acc h (List.getElem?_eq_getElem hlt) p
      obtain ⟨acc2, h2, e2, p2⟩ := ih f (i + 1) acc1 h1 (by omega) hlt (by omega) p1
      refine ⟨acc2, h2, ?_, p2⟩
      unfold walkL
      rw [hiv _ _ _ p]
      dsimp only
      rw [List.getElem?_eq_getElem hlt]
      dsimp only
      rw [e1, bnd_ok]
      exact e2
/-- a walk whose turns change nothing but the list that is made -/
theorem walkL_map {step : D → List D → HP → Rs (List D)} {iv : IV} {xs : List D} {g : D → List D} {h : HP} (hiv : iv h = some xs) (hs : ∀ d ∈ xs, ∀ acc, step d acc h = .ok (acc ++ g d) h) {f : Nat} (hf : xs.length < f) :
    walkL step iv f 0 [] h = .ok (xs.flatMap g) h := by
  have key : ∀ (m f i : Nat) (acc : List D), xs.length - i = m → i ≤ xs.length → m < f → walkL step iv f i acc h = .ok (acc ++ (xs.drop i).flatMap g) h := by
    intro m
    induction m with
    | zero =>
      intro f i acc hm hi hf
      have e : i = xs.length := by omega
      subst e
      cases f with
      | zero => omega
      | succ f =>
        unfold walkL
        rw [hiv]
        dsimp only
        rw [List.getElem?_eq_none (Nat.le_refl _)]
        dsimp only
        rw [if_pos rfl, List.drop_length, List.flatMap_nil, List.append_nil]
    | succ m ih =>
      intro f i acc hm hi hf
      cases f with
      | zero => omega
      | succ f =>
        have hlt : i < xs.length := by omega
        unfold walkL
        rw [hiv]
        dsimp only
        rw [List.getElem?_eq_getElem hlt]
        dsimp only
        rw [hs xs[i] (List.getElem_mem hlt), bnd_ok, ih f (i + 1) _ (by omega) hlt (by omega), List.append_assoc, List.drop_eq_getElem_cons hlt, List.flatMap_cons]
  have := key xs.length f 0 [] rfl (Nat.zero_le _) hf
  rwa [List.nil_append, List.drop_zero] at this
/-- what a turn of a comprehension adds -/
def turnD (cf : Fns) (gl : Nat → D) (own : List Nat) (t : Tg) (ifs : Es) (elt : E) (env : Env) (d : D) (acc : List D) (h : HP) : Rs (List D) := match setTg t d (wipeD env own) with
  | some env' => ((evTs cf gl ifs env' h).bnd fun k h => match k with
    | true => (evE cf gl elt env' h).bnd fun x h => .ok (acc ++ [x]) h
    | false => .ok acc h).noX
  | none => .bad
theorem comp_of {cf : Fns} {gl : Nat → D} {b : Bool} {own : List Nat} {t : Tg} {it : I} {ifs : Es} {elt : E} {env : Env} {h : HP} {iv : IV} {xs : List D} {g : D → List D} (h1 : evI cf gl it env h = .ok iv h) (h2 : iv h = some xs) (h3 : xs.length ≤ line)
    (h4 : ∀ d ∈ xs, ∀ acc, turnD cf gl own t ifs elt env d acc h = .ok (acc ++ g d) h) : evE cf gl (.comp b own t it ifs elt) env h = newL b (xs.flatMap g) h := by
  have e : evE cf gl (.comp b own t it ifs elt) env h = (evI cf gl it env h).bnd fun iv h => (walkL (turnD cf gl own t ifs elt env) iv walkFuel 0 [] h).bnd fun acc h => newL b acc h := by
    rw [evE]
    rfl
  rw [e, h1, bnd_ok, walkL_map h2 h4 (by unfold line at h3; unfold walkFuel; omega), bnd_ok]
end Mp

end
section
set_option maxRecDepth 100000
namespace Mp
open PySem
theorem forL_inv {step : D → Env → HP → Rs Ct} {iv : IV} {xs : List D} (Pv : Nat → Env → HP → Prop) (hiv : ∀ i e h, Pv i e h → iv h = some xs)
    (hs : ∀ i d e h, xs[i]? = some d → Pv i e h → ∃ e' h', step d e h = .ok (.nx e') h' ∧ Pv (i + 1) e' h') :
    ∀ (m f i : Nat) (e : Env) (h : HP), xs.length - i = m → i ≤ xs.length → m < f → Pv i e h → ∃ e' h', forL step iv f i e h = .ok (.nx e') h' ∧ Pv xs.length e' h' := by
  intro m
  induction m with
  | zero =>
    intro f i acc h hm hi hf p
    have e : i = xs.length := by omega
    subst e
    cases f with
    | zero => omega
    | succ f =>
      refine ⟨acc, h, ?_, p⟩
      unfold forL
      rw [hiv _ _ _ p]
      dsimp only
      rw [List.getElem?_eq_none (Nat.le_refl _)]
      dsimp only
      rw [if_pos rfl]
  | succ m ih =>
    intro f i acc h hm hi hf p
    cases f with
    | zero => omega
    | succ f =>
      have hlt : i < xs.length := by omega
      obtain ⟨acc1, h1, e1, p1⟩ := hs i xs[i] acc h (List.getElem?_eq_getElem hlt) p
      obtain ⟨acc2, h2, e2, p2⟩ := ih f (i + 1) acc1 h1 (by omega) hlt (by omega) p1
      refine ⟨acc2, h2, ?_, p2⟩
      unfold forL
      rw [hiv _ _ _ p]
      dsimp only
      rw [List.getElem?_eq_getElem hlt]
      dsimp only
      rw [e1]
      exact e2
theorem len_rngD : ∀ (n : Nat) (lo : Int), (rngD lo n).length = n
  | 0, _ => rfl
  | n + 1, lo => congrArg Nat.succ (len_rngD n (lo + 1))
theorem get_rngD : ∀ (n : Nat) (lo : Int) (i : Nat), i < n → (rngD lo n)[i]? = some (.int (lo + i))
  | 0, _, _, h => absurd h (Nat.not_lt_zero _)
  | n + 1, lo, 0, _ => by
    show some (D.int lo) = some (.int (lo + (0 : Nat)))
    simp
  | n + 1, lo, i + 1, h => by
    show (rngD (lo + 1) n)[i]? = _
    rw [get_rngD n (lo + 1) i (Nat.lt_of_succ_lt_succ h)]
    congr 2
    push_cast
    omega
theorem mem_rngD : ∀ {n : Nat} {lo : Int} {d : D}, d ∈ rngD lo n → ∃ i : Nat, i < n ∧ d = .int (lo + i)
  | 0, _, _, h => nomatch h
  | n + 1, lo, d, h => by
    rcases List.mem_cons.mp h with e | h
    · exact ⟨0, by omega, by rw [e]; simp⟩
    · obtain ⟨i, hi, e⟩ := mem_rngD h
      refine ⟨i + 1, by omega, ?_⟩
      rw [e]
      congr 1
      push_cast
      omega
theorem rngD_map : ∀ (n : Nat) (lo : Int), rngD lo n = (List.range n).map fun i : Nat => D.int (lo + i)
  | 0, _ => rfl
  | n + 1, lo => by
    show D.int lo :: rngD (lo + 1) n = _
    rw [rngD_map n (lo + 1), List.range_succ_eq_map, List.map_cons, List.map_map]
    congr 1
    · simp
    · refine List.map_congr_left fun i _ => ?_
      show D.int _ = D.int _
      congr 1
      show lo + 1 + (i : Int) = lo + ((i + 1 : Nat) : Int)
      push_cast
      omega
theorem bits_le {i : Int} {n : Nat} (h : i.natAbs < 2 ^ n) : Builtin.Int.intBits i ≤ n := PyProof.Rows.intBits_le h
theorem log_le {i : Int} {n : Nat} (h : i.natAbs < 2 ^ n) (h2 : n < 9000) : i.natAbs.log2 < 9000 := by
  by_cases z : i.natAbs = 0
  · rw [z]; decide
  · have := (Nat.log2_lt z).mpr h
    omega
theorem data_signs {x : Str} (h : PyData.strOk x = true) : dataL (signsD x) = true := by
  have key : ∀ l : List Nat, (∀ c ∈ l, c < 0x110000) → dataL (l.map fun c => D.str ⟨#[c]⟩) = true := by
    intro l
    induction l with
    | nil => intro _; rfl
    | cons c l ih =>
      intro h
      show (PyData.strOk ⟨#[c]⟩ && dataL _) = true
      rw [Bool.and_eq_true]
      refine ⟨?_, ih fun d hd => h d (List.mem_cons_of_mem _ hd)⟩
      have := h c List.mem_cons_self
      simp [PyData.strOk, this]
  refine key _ fun c hc => ?_
  have h : x.cps.all (· < 0x110000) = true := h
  rw [← Array.all_toList, List.all_eq_true] at h
  exact of_decide_eq_true (h c hc)
theorem strOk_of {x : Str} (h : ∀ c ∈ x.cps.toList, c < 0x110000) : PyData.strOk x = true := by
  show x.cps.all (· < 0x110000) = true
  rw [← Array.all_toList, List.all_eq_true]
  exact fun c hc => decide_eq_true (h c hc)
theorem strOk_lt {x : Str} (h : PyData.strOk x = true) : ∀ c ∈ x.cps.toList, c < 0x110000 := by
  have h : x.cps.all (· < 0x110000) = true := h
  rw [← Array.all_toList, List.all_eq_true] at h
  exact fun c hc => of_decide_eq_true (h c hc)
theorem cps_append (x y : Str) : (x ++ y).cps.toList = x.cps.toList ++ y.cps.toList := by
  show (x.cps ++ y.cps).toList = _
  exact Array.toList_append
theorem len_cps (x : Str) : x.length = x.cps.toList.length := Array.length_toList.symm
theorem strOk_append {x y : Str} (hx : PyData.strOk x = true) (hy : PyData.strOk y = true) : PyData.strOk (x ++ y) = true := strOk_of fun c hc => by
  rw [cps_append] at hc
  rcases List.mem_append.mp hc with h | h
  · exact strOk_lt hx c h
  · exact strOk_lt hy c h
/-- "".join of signs -/
theorem join_signs (cs : List Nat) : (PySem.Txt.join Str.empty (cs.map fun c => (⟨#[c]⟩ : Str))).cps.toList = cs := by
  have key : ∀ (l : List Nat) (acc : Array Nat), ((l.map fun c => (⟨#[c]⟩ : Str)).foldl (fun acc p => acc ++ Str.empty.cps ++ p.cps) acc).toList = acc.toList ++ l := by
    intro l
    induction l with
    | nil => intro acc; simp
    | cons c l ih =>
      intro acc
      rw [List.map_cons, List.foldl_cons, ih]
      simp [Str.empty]
  cases cs with
  | nil => rfl
  | cons c l =>
    show (((l.map fun c => (⟨#[c]⟩ : Str))).foldl (fun acc p => acc ++ Str.empty.cps ++ p.cps) #[c]).toList = _
    rw [key]
    rfl
end Mp

end
section
set_option maxRecDepth 100000
namespace Mp
open PySem
/-- a turn of a for loop -/
def turnS (cf : Fns) (gl : Nat → D) (t : Tg) (body : Ss) (d : D) (env : Env) (h : HP) : Rs Ct := match setTg t d env with
  | some env' => evSs cf gl body env' h
  | none => .bad
section
variable {cf : Fns} {gl : Nat → D} {env env' : Env} {h h1 h2 : HP}
theorem ss_next {s : S} {r : Ss} {x : Rs Ct} (e : evS cf gl s env h = .ok (.nx env') h1) (p : evSs cf gl r env' h1 = x) : evSs cf gl (.cons s r) env h = x := by
  rw [evSs, e]
  exact p
theorem ss_out {e : E} {r : Ss} {d : D} (p : evE cf gl e env h = .ok d h1) : evSs cf gl (.cons (.ret e) r) env h = .ok (.rt d) h1 := by
  rw [evSs, evS, p]
  rfl
theorem s_asg {t : Tg} {e : E} {d : D} (p : evE cf gl e env h = .ok d h1) (q : setTg t d env = some env') : evS cf gl (.asg t e) env h = .ok (.nx env') h1 := by
  rw [evS, p]
  simp only [liftE, q]
theorem s_ex {e : E} {d : D} (p : evE cf gl e env h = .ok d h1) : evS cf gl (.ex e) env h = .ok (.nx env) h1 := by
  rw [evS, p]
  rfl
theorem s_ifF {c : E} {a : Ss} (p : evT cf gl c env h = .ok false h1) : evS cf gl (.ifs c a .nil) env h = .ok (.nx env) h1 := by
  rw [evS, p]
  simp only [liftE, evSs]
theorem e_loc {i : Nat} {d : D} (p : env[i]? = some (some d)) : evE cf gl (.loc i) env h = .ok d h := by
  rw [evE, p]
theorem e_op {o : Op} {es : Es} {ds : List D} {r : Rs D} (p : evEs cf gl es env h = .ok ds h1) (q : evOp o ds h1 = r) : evE cf gl (.op o es) env h = r := by
  rw [evE, p]
  exact q
theorem es_nil : evEs cf gl .nil env h = .ok [] h := by rw [evEs]
theorem es_cons {e : E} {r : Es} {d : D} {ds : List D} (p : evE cf gl e env h = .ok d h1) (q : evEs cf gl r env h1 = .ok ds h2) : evEs cf gl (.cons e r) env h = .ok (d :: ds) h2 := by
  rw [evEs, p, bnd_ok, q, bnd_ok]
theorem es_one {e : E} {d : D} (p : evE cf gl e env h = .ok d h1) : evEs cf gl (.cons e .nil) env h = .ok [d] h1 := es_cons p es_nil
theorem e_call {f : Nat} {es : Es} {ds : List D} {r : Rs D} (p : evEs cf gl es env h = .ok ds h1) (q : cf f ds h1 = r) : evE cf gl (.call f es) env h = r := by
  rw [evE, p]
  exact q
theorem e_tup {es : Es} {ds : List D} (p : evEs cf gl es env h = .ok ds h1) : evE cf gl (.tup es) env h = .ok (.tup ds) h1 := by
  rw [evE, p]
  rfl
theorem e_lstF {es : Es} {ds : List D} (p : evEs cf gl es env h = .ok ds h1) : evE cf gl (.lst false es) env h = .ok (.lst ds) h1 := by
  rw [evE, p]
  rfl
theorem t_op {o : Op} {es : Es} {ds : List D} {d : D} {b : Bool} (n : o ≠ .not) (p : evEs cf gl es env h = .ok ds h1) (q : evOp o ds h1 = .ok d h2) (r : truD h2 d = some b) : evT cf gl (.op o es) env h = .ok b h2 := by
  rw [evT, p, bnd_ok, q, bnd_ok, r]
  intro e z
  exact absurd z n
theorem t_not {e : E} {b : Bool} (p : evT cf gl e env h = .ok b h1) : evT cf gl (.op .not (.cons e .nil)) env h = .ok (!b) h1 := by
  rw [evT, p]
  rfl
theorem e_lit (v : Lt) : evE cf gl (.lit v) env h = .ok v.d h := by rw [evE]
theorem e_glo (i : Nat) : evE cf gl (.glo i) env h = .ok (gl i) h := by rw [evE]
theorem t_call {f : Nat} {es : Es} {ds : List D} {d : D} {b : Bool} (p : evEs cf gl es env h = .ok ds h1) (q : cf f ds h1 = .ok d h2) (r : truD h2 d = some b) : evT cf gl (.call f es) env h = .ok b h2 := by
  rw [evT, p, bnd_ok, q, bnd_ok, r]
theorem t_notT {e : E} (p : evT cf gl e env h = .ok true h1) : evT cf gl (.op .not (.cons e .nil)) env h = .ok false h1 := t_not p
theorem t_notF {e : E} (p : evT cf gl e env h = .ok false h1) : evT cf gl (.op .not (.cons e .nil)) env h = .ok true h1 := t_not p
theorem t_bop {k : Bool} {es : Es} {x : Rs Bool} (p : evBT cf gl k es env h = x) : evT cf gl (.bop k es) env h = x := by
  rw [evT]
  exact p
theorem bt_next {k : Bool} {e : E} {r : Es} {x : Rs Bool} (p : evT cf gl e env h = .ok k h1) (q : evBT cf gl k r env h1 = x) : evBT cf gl k (.cons e r) env h = x := by
  rw [evBT, p, bnd_ok, if_pos rfl]
  exact q
theorem bt_out {k b : Bool} {e : E} {r : Es} (p : evT cf gl e env h = .ok b h1) (n : b ≠ k) : evBT cf gl k (.cons e r) env h = .ok b h1 := by
  rw [evBT, p, bnd_ok, if_neg n]
theorem bt_nil {k : Bool} : evBT cf gl k .nil env h = .ok k h := by rw [evBT]
theorem e_bop {k : Bool} {es : Es} {x : Rs D} (p : evB cf gl k es env h = x) : evE cf gl (.bop k es) env h = x := by
  rw [evE]
  exact p
theorem b_next {k : Bool} {e e2 : E} {r : Es} {d : D} {x : Rs D} (p : evE cf gl e env h = .ok d h1) (t : truD h1 d = some k) (q : evB cf gl k (.cons e2 r) env h1 = x) : evB cf gl k (.cons e (.cons e2 r)) env h = x := by
  rw [evB, p, bnd_ok, t]
  dsimp only
  rw [if_pos rfl]
  exact q
theorem b_out {k b : Bool} {e e2 : E} {r : Es} {d : D} (p : evE cf gl e env h = .ok d h1) (t : truD h1 d = some b) (n : b ≠ k) : evB cf gl k (.cons e (.cons e2 r)) env h = .ok d h1 := by
  rw [evB, p, bnd_ok, t]
  dsimp only
  rw [if_neg n]
theorem b_one {k : Bool} {e : E} {x : Rs D} (p : evE cf gl e env h = x) : evB cf gl k (.cons e .nil) env h = x := by
  rw [evB]
  exact p
theorem s_ret {e : E} {d : D} (p : evE cf gl e env h = .ok d h1) : evS cf gl (.ret e) env h = .ok (.rt d) h1 := by
  rw [evS, p]
  rfl
theorem s_ifT {c : E} {a b : Ss} {x : Rs Ct} (p : evT cf gl c env h = .ok true h1) (q : evSs cf gl a env h1 = x) : evS cf gl (.ifs c a b) env h = x := by
  rw [evS, p]
  exact q
/-- a comprehension, by an invariant -/
theorem comp_inv {b : Bool} {own : List Nat} {t : Tg} {it : I} {ifs : Es} {elt : E} {iv : IV} {xs : List D} {r : Rs D} (Pv : Nat → List D → HP → Prop) (q1 : evI cf gl it env h = .ok iv h1) (q2 : ∀ i acc h, Pv i acc h → iv h = some xs) (q3 : xs.length ≤ line) (q4 : Pv 0 [] h1)
    (q5 : ∀ i d acc h, xs[i]? = some d → Pv i acc h → ∃ acc' h', turnD cf gl own t ifs elt env d acc h = .ok acc' h' ∧ Pv (i + 1) acc' h') (q6 : ∀ acc h', Pv xs.length acc h' → newL b acc h' = r) : evE cf gl (.comp b own t it ifs elt) env h = r := by
  have e : evE cf gl (.comp b own t it ifs elt) env h = (evI cf gl it env h).bnd fun iv h => (walkL (turnD cf gl own t ifs elt env) iv walkFuel 0 [] h).bnd fun acc h => newL b acc h := by
    rw [evE]
    rfl
  obtain ⟨acc, h', e2, p⟩ := walkL_inv Pv q2 q5 xs.length walkFuel 0 [] h1 rfl (Nat.zero_le _) (by unfold line at q3; unfold walkFuel; omega) q4
  rw [e, q1, bnd_ok, e2, bnd_ok]
  exact q6 _ _ p
theorem s_for {t : Tg} {it : I} {body : Ss} {iv : IV} {xs : List D} (Pv : Nat → Env → HP → Prop) (q1 : evI cf gl it env h = .ok iv h1) (q2 : ∀ i e h, Pv i e h → iv h = some xs) (q3 : xs.length ≤ line) (q4 : Pv 0 env h1)
    (q5 : ∀ i d e h, xs[i]? = some d → Pv i e h → ∃ e1 e' h', setTg t d e = some e1 ∧ evSs cf gl body e1 h = .ok (.nx e') h' ∧ Pv (i + 1) e' h') : ∃ e' h', evS cf gl (.for t it body) env h = .ok (.nx e') h' ∧ Pv xs.length e' h' := by
  have e : evS cf gl (.for t it body) env h = liftE (evI cf gl it env h) env fun iv h => forL (turnS cf gl t body) iv walkFuel 0 env h := by
    rw [evS]
    rfl
  obtain ⟨e', h', e2, p⟩ := forL_inv (step := turnS cf gl t body) Pv q2 (fun i d e h hd p => by
    obtain ⟨e1, e', h', z1, z2, z3⟩ := q5 i d e h hd p
    refine ⟨e', h', ?_, z3⟩
    unfold turnS
    rw [z1]
    exact z2) xs.length walkFuel 0 env h1 rfl (Nat.zero_le _) (by unfold line at q3; unfold walkFuel; omega) q4
  refine ⟨e', h', ?_, p⟩
  rw [e, q1]
  exact e2
end
theorem deref_data {h : HP} {d : D} (x : d.data = true) : deref h d = d := by
  cases d <;> first | rfl | exact Bool.noConfusion (show false = true from x)
/-- data whose repr is told; its weight at most m -/
structure RO (k m : Nat) (d : D) : Prop where
  data : d.data = true
  dep : d.dep ≤ k
  show_ : d.py.showable = true
  leaf : d.py.leavesShort 8 = true
  wt : d.py.weight ≤ m
theorem RO.mono {k m k' m' : Nat} {d : D} (r : RO k m d) (a : k ≤ k') (b : m ≤ m') : RO k' m' d := ⟨r.data, Nat.le_trans r.dep a, r.show_, r.leaf, Nat.le_trans r.wt b⟩
theorem ro_bl (b : Bool) : RO 0 0 (.bl b) := ⟨rfl, Nat.le_refl _, by simp [D.py, PyData.showable], by simp [D.py, PyData.leavesShort], by simp [D.py, PyData.weight]⟩
theorem ro_non : RO 0 0 .non := ⟨rfl, Nat.le_refl _, by simp [D.py, PyData.showable], by simp [D.py, PyData.leavesShort], by simp [D.py, PyData.weight]⟩
theorem small_ints {n : Nat} (h : n ≤ 1000) : (PyData.int (n : Int)).shown.length ≤ 8 := by
  have e := int_text_length_le10 (a := (n : Int)) (k := 7) (by decide) (by omega)
  have : (PyData.int (n : Int)).shown = Str.ofString (toString (n : Int)) := by simp only [PyData.shown]
  rw [this, ofString_length]
  exact e
theorem ro_nat {n : Nat} (h : n ≤ 1000) : RO 0 10 (.int n) := by
  have s := small_ints h
  have l : (n : Int).natAbs.log2 < 10 ∨ n = 0 := by
    by_cases z : n = 0
    · exact .inr z
    · refine .inl ((Nat.log2_lt (by omega)).mpr (by omega))
  refine ⟨rfl, Nat.le_refl _, ?_, ?_, ?_⟩
  · simp only [D.py, PyData.showable, decide_eq_true_eq]
    rcases l with l | l
    · omega
    · subst l; decide
  · simp only [D.py, PyData.leavesShort, decide_eq_true_eq]
    exact s
  · simp only [D.py, PyData.weight]
    split
    · omega
    · rcases l with l | l
      · omega
      · subst l; rename_i z; exact absurd rfl z
theorem ro_str {x : Str} (h : PyData.strOk x = true) : RO 0 x.length (.str x) := by
  refine ⟨h, Nat.le_refl _, by simp [D.py, PyData.showable], ?_, by simp only [D.py, PyData.weight]; exact Nat.le_refl _⟩
  simp only [D.py, PyData.leavesShort, List.all_eq_true, decide_eq_true_eq]
  intro c hc
  have := strOk_lt h c hc
  omega
theorem roL {k m : Nat} : ∀ {ds : List D}, (∀ d ∈ ds, RO k m d) → dataL ds = true ∧ depL ds ≤ k ∧ PyData.showableAll (pyL ds) = true ∧ PyData.leavesShortAll 8 (pyL ds) = true ∧ PyData.weightAll (pyL ds) ≤ (m + 1) * ds.length
  | [], _ => ⟨rfl, Nat.zero_le _, by simp only [pyL, PyData.showableAll], by simp only [pyL, PyData.leavesShortAll], by simp only [pyL, PyData.weightAll, List.length_nil]; exact Nat.zero_le _⟩
  | d :: ds, h => by
    obtain ⟨a1, a2, a3, a4, a5⟩ := roL fun e he => h e (List.mem_cons_of_mem _ he)
    have r := h d List.mem_cons_self
    refine ⟨?_, ?_, ?_, ?_, ?_⟩
    · show (D.data d && dataL ds) = true
      rw [r.data, a1]
      rfl
    · show max (D.dep d) (depL ds) ≤ k
      exact Nat.max_le.mpr ⟨r.dep, a2⟩
    · simp only [pyL, PyData.showableAll]
      rw [r.show_, a3]
      rfl
    · simp only [pyL, PyData.leavesShortAll]
      rw [r.leaf, a4]
      rfl
    · simp only [pyL, PyData.weightAll, List.length_cons]
      have := r.wt
      rw [Nat.mul_add]
      omega
theorem ro_lst {k m : Nat} {ds : List D} (h : ∀ d ∈ ds, RO k m d) : RO (k + 1) ((m + 1) * ds.length) (.lst ds) := by
  obtain ⟨a1, a2, a3, a4, a5⟩ := roL h
  exact ⟨a1, Nat.succ_le_succ a2, by simp only [D.py, PyData.showable]; exact a3, by simp only [D.py, PyData.leavesShort]; exact a4, by simp only [D.py, PyData.weight]; exact a5⟩
theorem ro_tup {k m : Nat} {ds : List D} (h : ∀ d ∈ ds, RO k m d) : RO (k + 1) ((m + 1) * ds.length) (.tup ds) := by
  obtain ⟨a1, a2, a3, a4, a5⟩ := roL h
  exact ⟨a1, Nat.succ_le_succ a2, by simp only [D.py, PyData.showable]; exact a3, by simp only [D.py, PyData.leavesShort]; exact a4, by simp only [D.py, PyData.weight]; exact a5⟩
theorem RO.ok {k m : Nat} {d : D} (r : RO k m d) (hk : k ≤ 60) : d.ok = true := by
  unfold D.ok
  rw [Bool.and_eq_true]
  exact ⟨r.data, decide_eq_true (Nat.le_trans r.dep hk)⟩
theorem RO.repr {k m : Nat} {d : D} (r : RO k m d) (hk : k ≤ 60) (hm : m ≤ 1000000) (h : HP) : evOp .repr [d] h = .ok (.str d.py.shown) h := by
  have s := PyData.shown_le 8 (Nat.le_refl _) d.py r.leaf
  have w := r.wt
  simp only [evOp, evRepr]
  rw [deref_data r.data, r.ok hk, r.show_, if_pos]
  simp only [Bool.and_self, Bool.true_and, decide_eq_true_eq]
  unfold line
  omega
theorem eqv_self {d : D} (h : d.data = true) : d.eqv d = true := by
  rw [← py_eqv d d h h]
  exact PySem.SeqAt.eqv_refl _ (py_lay d h)
/-- the same data are equal -/
theorem ne_self {d : D} (h : d.ok = true) (hp : HP) : evOp .ne [d, d] hp = .ok (.bl false) hp := by
  have hd := ok_data h
  rcases evEq_cases true d d hp with ⟨x, y, e1, e2⟩ | e
  · subst e1
    show Rs.ok (D.bl (!decide (x = x))) hp = _
    simp
  · show evEq true [d, d] hp = _
    rw [e, deref_data hd, eqv_self hd]
    unfold isDat
    rw [h]
    rfl
theorem eq_self' {d : D} (h : d.ok = true) (hp : HP) : evOp .eq [d, d] hp = .ok (.bl true) hp := by
  have hd := ok_data h
  rcases evEq_cases false d d hp with ⟨x, y, e1, e2⟩ | e
  · subst e1
    show Rs.ok (D.bl (decide (x = x))) hp = _
    simp
  · show evEq false [d, d] hp = _
    rw [e, deref_data hd, eqv_self hd]
    unfold isDat
    rw [h]
    rfl
theorem ne_strs (x : Str) (hp : HP) : evOp .ne [.str x, .str x] hp = .ok (.bl false) hp := by
  show Rs.ok (D.bl (!decide (x = x))) hp = _
  simp
theorem eq_strs (x : Str) (hp : HP) : evOp .eq [.str x, .str x] hp = .ok (.bl true) hp := by
  show Rs.ok (D.bl (decide (x = x))) hp = _
  simp
theorem get_enumD : ∀ (ds : List D) (n i : Nat), (enumD n ds)[i]? = ds[i]?.map fun d => .tup [.int ((n + i : Nat) : Int), d]
  | [], _, _ => rfl
  | d :: ds, n, 0 => rfl
  | d :: ds, n, i + 1 => by
    show (enumD (n + 1) ds)[i]? = ds[i]?.map _
    rw [get_enumD ds (n + 1) i]
    have e : n + 1 + i = n + (i + 1) := by omega
    rw [e]
theorem len_enumD : ∀ (ds : List D) (n : Nat), (enumD n ds).length = ds.length
  | [], _ => rfl
  | d :: ds, n => congrArg Nat.succ (len_enumD ds (n + 1))
end Mp

end
section
set_option maxRecDepth 100000
set_option maxHeartbeats 0
namespace K01
open PySem PySem.Spec PyProof.Rows L2 Mp
def top (i : Nat) : Stmt := PySem.Challenge.pw_strangercome_k01_whole_names_and_roles.main.body.getD i (.Pass ⟨0, 0, 0, 0⟩)
def fnames : List Str := ["is_whole", "is_within", "is_rising", "are_words_in", "place_in", "role_at", "is_role_in", "roles_in", "require_words", "is_name", "are_words", "place", "role_of", "roles", "_law_bowl", "_law_spoon", "_law_one", "_law_is_name", "_law_are_words", "_law_name", "_law_right", "law"]
def gnames : List Str := ["GREAT", "MAX_WORDS", "MAX_LETTERS", "LETTERS", "MOST_HOUSES"]
def gvals : List D := [(.int 1000000000000000000000000000000000000000000000000000000000000), (.int 6), (.int 8), (.str "abcdefghijklmnopqrstuvwxyz"), (.int 13)]
def G : Tab := { fnm := fun i => fnames.getD i Str.empty, gnm := fun i => gnames.getD i Str.empty, gl := fun i => gvals.getD i .non, cnm := fun _ => Str.empty }
def b0 : Ss := (.cons (.ret (.bop true (.cons (.op (.isa 0) (.cons (.loc 0) .nil)) (.cons (.op .not (.cons (.op (.isa 1) (.cons (.loc 0) .nil)) .nil)) (.cons (.chain .lt .lt (.op .neg (.cons (.glo 0) .nil)) (.loc 0) (.glo 0)) .nil)))))
    .nil)
def d0 : Df := ⟨1, 1, b0⟩
def x0 : Td := ⟨["value"], ["value"], defArgs (top 11), defBody (top 11), defScope (top 11)⟩
def b1 : Ss := (.cons (.ret (.bop true (.cons (.call 0 (.cons (.loc 0) .nil)) (.cons (.chain .le .le (.loc 1) (.loc 0) (.loc 2)) .nil))))
    .nil)
def d1 : Df := ⟨3, 3, b1⟩
def x1 : Td := ⟨["value", "low", "high"], ["value", "low", "high"], defArgs (top 12), defBody (top 12), defScope (top 12)⟩
def b2 : Ss := (.cons (.ret (.op .all (.cons (.comp false [1, 2] (.tup (.cons (.nm 1) (.cons (.nm 2) .nil))) (.zip (.cons (.loc 0) (.cons (.sl (.loc 0) (.cons (.lit (.int 1)) .nil) .nil) .nil))) .nil (.op .lt (.cons (.loc 1) (.cons (.loc 2) .nil)))) .nil)))
    .nil)
def d2 : Df := ⟨1, 3, b2⟩
def x2 : Td := ⟨["row", "one", "other"], ["row"], defArgs (top 13), defBody (top 13), defScope (top 13)⟩
def b3 : Ss := (.cons (.ifs (.bop false (.cons (.op .not (.cons (.op (.isa 3) (.cons (.loc 0) .nil)) .nil)) (.cons (.op .not (.cons (.chain .le .le (.lit (.int 1)) (.op .len (.cons (.loc 0) .nil)) (.glo 1)) .nil)) (.cons (.op .not (.cons (.op .all (.cons (.comp false [1] (.nm 1) (.seq (.loc 0)) .nil (.call 9 (.cons (.loc 1) .nil))) .nil)) .nil)) .nil)))) (.cons (.ret (.lit (.bl false)))
    .nil) .nil)
    (.cons (.ret (.call 2 (.cons (.loc 0) .nil)))
    .nil))
def d3 : Df := ⟨1, 2, b3⟩
def x3 : Td := ⟨["value", "one"], ["value"], defArgs (top 14), defBody (top 14), defScope (top 14)⟩
def b4 : Ss := (.cons (.ret (.op (.add false) (.cons (.op .mul (.cons (.op .ix (.cons (.loc 1) (.cons (.lit (.int 0)) .nil))) (.cons (.op .len (.cons (.loc 0) .nil)) .nil))) (.cons (.meth .index (.loc 0) (.cons (.op .ix (.cons (.loc 1) (.cons (.lit (.int 1)) .nil))) .nil)) .nil))))
    .nil)
def d4 : Df := ⟨2, 2, b4⟩
def x4 : Td := ⟨["words", "role"], ["words", "role"], defArgs (top 15), defBody (top 15), defScope (top 15)⟩
def b5 : Ss := (.cons (.ret (.tup (.cons (.op .fdiv (.cons (.loc 1) (.cons (.op .len (.cons (.loc 0) .nil)) .nil))) (.cons (.op .ix (.cons (.loc 0) (.cons (.op .mod (.cons (.loc 1) (.cons (.op .len (.cons (.loc 0) .nil)) .nil))) .nil))) .nil))))
    .nil)
def d5 : Df := ⟨2, 2, b5⟩
def x5 : Td := ⟨["words", "number"], ["words", "number"], defArgs (top 16), defBody (top 16), defScope (top 16)⟩
def b6 : Ss := (.cons (.ifs (.bop false (.cons (.op .not (.cons (.op (.isa 3) (.cons (.loc 2) .nil)) .nil)) (.cons (.op .ne (.cons (.op .len (.cons (.loc 2) .nil)) (.cons (.lit (.int 2)) .nil))) (.cons (.op .not (.cons (.call 1 (.cons (.op .ix (.cons (.loc 2) (.cons (.lit (.int 0)) .nil))) (.cons (.lit (.int 0)) (.cons (.op .sub (.cons (.loc 0) (.cons (.lit (.int 1)) .nil))) .nil)))) .nil)) .nil)))) (.cons (.ret (.lit (.bl false)))
    .nil) .nil)
    (.cons (.ret (.bop true (.cons (.op (.isa 2) (.cons (.op .ix (.cons (.loc 2) (.cons (.lit (.int 1)) .nil))) .nil)) (.cons (.op .isin (.cons (.op .ix (.cons (.loc 2) (.cons (.lit (.int 1)) .nil))) (.cons (.loc 1) .nil))) .nil))))
    .nil))
def d6 : Df := ⟨3, 3, b6⟩
def x6 : Td := ⟨["size", "words", "value"], ["size", "words", "value"], defArgs (top 17), defBody (top 17), defScope (top 17)⟩
def b7 : Ss := (.cons (.ret (.comp false [2] (.nm 2) (.rng (.cons (.op .mul (.cons (.loc 0) (.cons (.op .len (.cons (.loc 1) .nil)) .nil))) .nil)) .nil (.call 5 (.cons (.loc 1) (.cons (.loc 2) .nil)))))
    .nil)
def d7 : Df := ⟨2, 3, b7⟩
def x7 : Td := ⟨["size", "words", "number"], ["size", "words"], defArgs (top 18), defBody (top 18), defScope (top 18)⟩
def b8 : Ss := (.cons (.ifs (.op .not (.cons (.call 3 (.cons (.loc 0) .nil)) .nil)) (.cons (.raise 0 false (.lit .non))
    .nil) .nil)
    .nil)
def d8 : Df := ⟨1, 1, b8⟩
def x8 : Td := ⟨["words"], ["words"], defArgs (top 19), defBody (top 19), defScope (top 19)⟩
def b9 : Ss := (.cons (.ifs (.bop false (.cons (.op .not (.cons (.op (.isa 2) (.cons (.loc 0) .nil)) .nil)) (.cons (.op .not (.cons (.chain .le .le (.lit (.int 1)) (.op .len (.cons (.loc 0) .nil)) (.glo 2)) .nil)) .nil))) (.cons (.ret (.lit (.bl false)))
    .nil) .nil)
    (.cons (.ret (.op .all (.cons (.comp false [1] (.nm 1) (.seq (.loc 0)) .nil (.op .isin (.cons (.loc 1) (.cons (.glo 3) .nil)))) .nil)))
    .nil))
def d9 : Df := ⟨1, 2, b9⟩
def x9 : Td := ⟨["value", "letter"], ["value"], defArgs (top 20), defBody (top 20), defScope (top 20)⟩
def b10 : Ss := (.cons (.ret (.call 3 (.cons (.loc 0) .nil)))
    .nil)
def d10 : Df := ⟨1, 1, b10⟩
def x10 : Td := ⟨["value"], ["value"], defArgs (top 21), defBody (top 21), defScope (top 21)⟩
def b11 : Ss := (.cons (.ex (.call 8 (.cons (.loc 0) .nil)))
    (.cons (.ifs (.op .not (.cons (.call 6 (.cons (.glo 4) (.cons (.loc 0) (.cons (.loc 1) .nil)))) .nil)) (.cons (.raise 0 false (.lit .non))
    .nil) .nil)
    (.cons (.ret (.call 4 (.cons (.loc 0) (.cons (.loc 1) .nil))))
    .nil)))
def d11 : Df := ⟨2, 2, b11⟩
def x11 : Td := ⟨["words", "role"], ["words", "role"], defArgs (top 22), defBody (top 22), defScope (top 22)⟩
def b12 : Ss := (.cons (.ex (.call 8 (.cons (.loc 0) .nil)))
    (.cons (.ifs (.op .not (.cons (.call 1 (.cons (.loc 1) (.cons (.lit (.int 0)) (.cons (.op .sub (.cons (.op .mul (.cons (.glo 4) (.cons (.op .len (.cons (.loc 0) .nil)) .nil))) (.cons (.lit (.int 1)) .nil))) .nil)))) .nil)) (.cons (.raise 0 false (.lit .non))
    .nil) .nil)
    (.cons (.ret (.call 5 (.cons (.loc 0) (.cons (.loc 1) .nil))))
    .nil)))
def d12 : Df := ⟨2, 2, b12⟩
def x12 : Td := ⟨["words", "number"], ["words", "number"], defArgs (top 23), defBody (top 23), defScope (top 23)⟩
def b13 : Ss := (.cons (.ifs (.op .not (.cons (.call 1 (.cons (.loc 0) (.cons (.lit (.int 1)) (.cons (.glo 4) .nil)))) .nil)) (.cons (.raise 0 false (.lit .non))
    .nil) .nil)
    (.cons (.ex (.call 8 (.cons (.loc 1) .nil)))
    (.cons (.ret (.op .tupof (.cons (.call 7 (.cons (.loc 0) (.cons (.loc 1) .nil))) .nil)))
    .nil)))
def d13 : Df := ⟨2, 2, b13⟩
def x13 : Td := ⟨["size", "words"], ["size", "words"], defArgs (top 24), defBody (top 24), defScope (top 24)⟩
def b14 : Ss := (.cons (.asg (.nm 2) (.ite (.op .lt (.cons (.loc 1) (.cons (.op .len (.cons (.loc 0) .nil)) .nil))) (.op .ix (.cons (.loc 0) (.cons (.loc 1) .nil))) (.op (.add false) (.cons (.op (.add false) (.cons (.op .mul (.cons (.lit (.int 127)) (.cons (.loc 1) .nil))) (.cons (.op .mul (.cons (.lit (.int 3)) (.cons (.op .sum (.cons (.sl (.loc 0) .nil (.cons (.lit (.int 2)) .nil)) .nil)) .nil))) .nil))) (.cons (.lit (.int 11)) .nil)))))
    (.cons (.asg (.nm 3) (.op .mod (.cons (.op .toint (.cons (.op .abs (.cons (.loc 2) .nil)) .nil)) (.cons (.op .pow (.cons (.op .pow (.cons (.lit (.int 10)) (.cons (.lit (.int 59)) .nil))) (.cons (.lit (.int 2)) .nil))) .nil))))
    (.cons (.ret (.lst true (.cons (.op .max2 (.cons (.lit (.int 0)) (.cons (.op .sub (.cons (.loc 3) (.cons (.op .pow (.cons (.lit (.int 10)) (.cons (.lit (.int 16)) .nil))) .nil))) .nil))) (.cons (.op (.add false) (.cons (.op (.add false) (.cons (.op (.add false) (.cons (.op .mul (.cons (.op .mod (.cons (.op .toint (.cons (.loc 3) .nil)) (.cons (.lit (.int 2305843009213693723)) .nil))) (.cons (.lit (.int 47)) .nil))) (.cons (.op .mul (.cons (.lit (.int 5381)) (.cons (.loc 1) .nil))) .nil))) (.cons (.op .toint (.cons (.op .lt (.cons (.loc 2) (.cons (.lit (.int 0)) .nil))) .nil)) .nil))) (.cons (.lit (.int 6)) .nil))) (.cons (.lit (.int 0)) .nil)))))
    .nil)))
def d14 : Df := ⟨2, 4, b14⟩
def x14 : Td := ⟨["script", "spot", "cell", "great"], ["script", "spot"], defArgs (top 26), defBody (top 26), defScope (top 26)⟩
def b15 : Ss := (.cons (.ifs (.op .gt (.cons (.op .ix (.cons (.loc 0) (.cons (.lit (.int 0)) .nil))) (.cons (.lit (.int 0)) .nil))) (.cons (.asg (.nm 4) (.op .mod (.cons (.op .toint (.cons (.op .ix (.cons (.loc 0) (.cons (.lit (.int 0)) .nil))) .nil)) (.cons (.loc 1) .nil))))
    (.cons (.setIx (.loc 0) (.lit (.int 0)) (.op .fdiv (.cons (.op .ix (.cons (.loc 0) (.cons (.lit (.int 0)) .nil))) (.cons (.loc 1) .nil))))
    (.cons (.ret (.loc 4))
    .nil))) .nil)
    (.cons (.setIx (.loc 0) (.lit (.int 2)) (.op (.add false) (.cons (.op .ix (.cons (.loc 0) (.cons (.lit (.int 2)) .nil))) (.cons (.lit (.int 1)) .nil))))
    (.cons (.asg (.nm 2) (.op .mod (.cons (.op .toint (.cons (.op (.add false) (.cons (.op .ix (.cons (.loc 0) (.cons (.lit (.int 1)) .nil))) (.cons (.op .mul (.cons (.lit (.int 20964919)) (.cons (.op .ix (.cons (.loc 0) (.cons (.lit (.int 2)) .nil))) .nil))) .nil))) .nil)) (.cons (.lit (.int 1152921504606846577)) .nil))))
    (.cons (.asg (.nm 3) (.op (.add false) (.cons (.op .mul (.cons (.op .mod (.cons (.op .toint (.cons (.op (.add false) (.cons (.op .mul (.cons (.loc 2) (.cons (.loc 2) .nil))) (.cons (.lit (.int 71)) .nil))) .nil)) (.cons (.lit (.int 1152921504606846697)) .nil))) (.cons (.loc 2) .nil))) (.cons (.op .mul (.cons (.lit (.int 104711)) (.cons (.op .ix (.cons (.loc 0) (.cons (.lit (.int 2)) .nil))) .nil))) .nil))))
    (.cons (.ret (.op .mod (.cons (.op .toint (.cons (.op .fdiv (.cons (.op .mod (.cons (.op .toint (.cons (.loc 3) .nil)) (.cons (.lit (.int 1152921504606846869)) .nil))) (.cons (.lit (.int 2048)) .nil))) .nil)) (.cons (.loc 1) .nil))))
    .nil)))))
def d15 : Df := ⟨2, 5, b15⟩
def x15 : Td := ⟨["bowl", "many", "one", "two", "found"], ["bowl", "many"], defArgs (top 27), defBody (top 27), defScope (top 27)⟩
def b16 : Ss := (.cons (.ret (.op .ix (.cons (.loc 1) (.cons (.call 15 (.cons (.loc 0) (.cons (.op .len (.cons (.loc 1) .nil)) .nil))) .nil))))
    .nil)
def d16 : Df := ⟨2, 2, b16⟩
def x16 : Td := ⟨["bowl", "items"], ["bowl", "items"], defArgs (top 28), defBody (top 28), defScope (top 28)⟩
def b17 : Ss := (.cons (.ret (.bop true (.cons (.op (.isa 2) (.cons (.loc 0) .nil)) (.cons (.chain .le .le (.lit (.int 1)) (.op .len (.cons (.loc 0) .nil)) (.lit (.int 8))) (.cons (.op .eq (.cons (.comp false [1] (.nm 1) (.seq (.loc 0)) (.cons (.op .notin (.cons (.loc 1) (.cons (.lit (.str "abcdefghijklmnopqrstuvwxyz")) .nil))) .nil) (.loc 1)) (.cons (.lst false .nil) .nil))) .nil)))))
    .nil)
def d17 : Df := ⟨1, 2, b17⟩
def x17 : Td := ⟨["value", "one"], ["value"], defArgs (top 30), defBody (top 30), defScope (top 30)⟩
def b18 : Ss := (.cons (.ifs (.bop false (.cons (.op .not (.cons (.op (.isa 3) (.cons (.loc 0) .nil)) .nil)) (.cons (.op .not (.cons (.chain .le .le (.lit (.int 1)) (.op .len (.cons (.loc 0) .nil)) (.lit (.int 6))) .nil)) (.cons (.op .ne (.cons (.comp false [1] (.nm 1) (.seq (.loc 0)) (.cons (.op .not (.cons (.call 17 (.cons (.loc 1) .nil)) .nil)) .nil) (.loc 1)) (.cons (.lst false .nil) .nil))) .nil)))) (.cons (.ret (.lit (.bl false)))
    .nil) .nil)
    (.cons (.ret (.op .eq (.cons (.op (.lstof false) (.cons (.loc 0) .nil)) (.cons (.op (.sortset false) (.cons (.loc 0) .nil)) .nil))))
    .nil))
def d18 : Df := ⟨1, 2, b18⟩
def x18 : Td := ⟨["value", "one"], ["value"], defArgs (top 31), defBody (top 31), defScope (top 31)⟩
def b19 : Ss := (.cons (.ret (.meth .join (.lit (.str "")) (.cons (.comp false [1] (.nm 1) (.rng (.cons (.op (.add false) (.cons (.lit (.int 1)) (.cons (.call 15 (.cons (.loc 0) (.cons (.lit (.int 8)) .nil))) .nil))) .nil)) .nil (.call 16 (.cons (.loc 0) (.cons (.lit (.str "abcdefghijklmnopqrstuvwxyz")) .nil)))) .nil)))
    .nil)
def d19 : Df := ⟨1, 2, b19⟩
def x19 : Td := ⟨["bowl", "turn"], ["bowl"], defArgs (top 32), defBody (top 32), defScope (top 32)⟩
def b20 : Ss := (.cons (.asg (.nm 1) (.comp false [9] (.nm 9) (.rng (.cons (.lit (.int 6)) .nil)) .nil (.call 19 (.cons (.loc 0) .nil))))
    (.cons (.asg (.tup (.cons (.nm 7) (.cons (.nm 8) .nil))) (.tup (.cons (.op .tupof (.cons (.op (.sortset false) (.cons (.sl (.loc 1) .nil (.cons (.op (.add false) (.cons (.lit (.int 1)) (.cons (.call 15 (.cons (.loc 0) (.cons (.lit (.int 6)) .nil))) .nil))) .nil)) .nil)) .nil)) (.cons (.op (.add false) (.cons (.lit (.int 1)) (.cons (.call 15 (.cons (.loc 0) (.cons (.lit (.int 13)) .nil))) .nil))) .nil))))
    (.cons (.asg (.nm 2) (.op (.add false) (.cons (.loc 1) (.cons (.lst false (.cons (.op (.add false) (.cons (.op .ix (.cons (.loc 1) (.cons (.lit (.int 0)) .nil))) (.cons (.lit (.str "A")) .nil))) (.cons (.lit (.str "")) (.cons (.op (.add false) (.cons (.sl (.op .ix (.cons (.loc 1) (.cons (.lit (.int 1)) .nil))) .nil (.cons (.op .neg (.cons (.lit (.int 1)) .nil)) .nil)) (.cons (.lit (.str "-")) .nil))) (.cons (.lit .non) (.cons (.lit (.int 0)) (.cons (.tup (.cons (.lit (.str "a")) .nil)) (.cons (.op (.add false) (.cons (.op .ix (.cons (.loc 1) (.cons (.lit (.int 2)) .nil))) (.cons (.lit (.str "abcdefgh")) .nil))) (.cons (.lit (.str "a b")) (.cons (.meth .upper (.op .ix (.cons (.loc 1) (.cons (.lit (.int 3)) .nil))) .nil) .nil)))))))))) .nil))))
    (.cons (.ifs (.op .ne (.cons (.op .repr (.cons (.comp false [10] (.nm 10) (.seq (.loc 2)) .nil (.call 9 (.cons (.loc 10) .nil))) .nil)) (.cons (.op .repr (.cons (.comp false [10] (.nm 10) (.seq (.loc 2)) .nil (.call 17 (.cons (.loc 10) .nil))) .nil)) .nil))) (.cons (.ret (.lit (.bl false)))
    .nil) .nil)
    (.cons (.asg (.nm 3) (.lst false (.cons (.loc 7) (.cons (.op .rev (.cons (.loc 7) .nil)) (.cons (.op (.lstof false) (.cons (.loc 7) .nil)) (.cons (.op (.add false) (.cons (.loc 7) (.cons (.sl (.loc 7) (.cons (.op .neg (.cons (.lit (.int 1)) .nil)) .nil) .nil) .nil))) (.cons (.op (.add false) (.cons (.loc 7) (.cons (.tup (.cons (.lit (.str "A")) .nil)) .nil))) (.cons (.tup .nil) (.cons (.op (.add false) (.cons (.op .tupof (.cons (.op (.sortset false) (.cons (.loc 1) .nil)) .nil)) (.cons (.tup (.cons (.lit (.str "zzzzzzzz")) .nil)) .nil))) (.cons (.lit .non) (.cons (.lit (.str "a")) (.cons (.tup (.cons (.loc 7) .nil)) .nil))))))))))))
    (.cons (.asg (.nm 3) (.op (.add false) (.cons (.loc 3) (.cons (.lst false (.cons (.op .tupof (.cons (.op (.sortset false) (.cons (.sl (.lst false (.cons (.lit (.str "a")) (.cons (.lit (.str "b")) (.cons (.lit (.str "c")) (.cons (.lit (.str "d")) (.cons (.lit (.str "e")) (.cons (.lit (.str "f")) (.cons (.lit (.str "g")) .nil)))))))) .nil (.cons (.op (.add false) (.cons (.lit (.int 6)) (.cons (.call 15 (.cons (.loc 0) (.cons (.lit (.int 2)) .nil))) .nil))) .nil)) .nil)) .nil)) (.cons (.tup (.cons (.lit .non) .nil)) .nil))) .nil))))
    (.cons (.ifs (.op .ne (.cons (.op .repr (.cons (.comp false [10] (.nm 10) (.seq (.loc 3)) .nil (.call 10 (.cons (.loc 10) .nil))) .nil)) (.cons (.op .repr (.cons (.comp false [10] (.nm 10) (.seq (.loc 3)) .nil (.call 18 (.cons (.loc 10) .nil))) .nil)) .nil))) (.cons (.ret (.lit (.bl false)))
    .nil) .nil)
    (.cons (.asg (.nm 4) (.call 13 (.cons (.loc 8) (.cons (.loc 7) .nil))))
    (.cons (.asg (.nm 5) (.lst true .nil))
    (.cons (.for (.nm 6) (.rng (.cons (.loc 8) .nil)) (.cons (.ex (.meth .extend (.loc 5) (.cons (.comp true [11] (.nm 11) (.seq (.loc 7)) .nil (.tup (.cons (.loc 6) (.cons (.loc 11) .nil)))) .nil)))
    .nil))
    (.cons (.ifs (.bop false (.cons (.op .ne (.cons (.op .repr (.cons (.loc 4) .nil)) (.cons (.op .repr (.cons (.op .tupof (.cons (.loc 5) .nil)) .nil)) .nil))) (.cons (.op .ne (.cons (.op (.lstof false) (.cons (.loc 4) .nil)) (.cons (.op (.sorted false) (.cons (.loc 4) .nil)) .nil))) .nil))) (.cons (.ret (.lit (.bl false)))
    .nil) .nil)
    (.cons (.ret (.op .eq (.cons (.comp false [12, 13] (.tup (.cons (.nm 12) (.cons (.nm 13) .nil))) (.enm (.cons (.loc 4) .nil)) (.cons (.bop false (.cons (.op .ne (.cons (.call 11 (.cons (.loc 7) (.cons (.loc 13) .nil))) (.cons (.loc 12) .nil))) (.cons (.op .ne (.cons (.call 12 (.cons (.loc 7) (.cons (.loc 12) .nil))) (.cons (.loc 13) .nil))) .nil))) .nil) (.loc 12)) (.cons (.lst false .nil) .nil))))
    .nil))))))))))))
def d20 : Df := ⟨1, 14, b20⟩
def x20 : Td := ⟨["bowl", "names", "odd", "near", "every", "due", "house", "words", "size", "turn", "one", "word", "number", "role"], ["bowl"], defArgs (top 33), defBody (top 33), defScope (top 33)⟩
def b21 : Ss := (.cons (.for (.nm 1) (.rng (.cons (.op .max2 (.cons (.lit (.int 1)) (.cons (.op .min2 (.cons (.lit (.int 2)) (.cons (.op .len (.cons (.loc 0) .nil)) .nil))) .nil))) .nil)) (.cons (.asg (.nm 4) (.call 14 (.cons (.loc 0) (.cons (.loc 1) .nil))))
    (.cons (.for (.nm 5) (.rng (.cons (.lit (.int 4)) .nil)) (.cons (.ifs (.op .not (.cons (.call 20 (.cons (.loc 4) .nil)) .nil)) (.cons (.ret (.lit (.bl false)))
    .nil) .nil)
    .nil))
    .nil)))
    (.cons (.asg (.nm 2) (.tup (.cons (.lit (.str "guest")) (.cons (.lit (.str "staff")) .nil))))
    (.cons (.asg (.nm 3) (.lst false (.cons (.call 11 (.cons (.loc 2) (.cons (.tup (.cons (.lit (.int 2)) (.cons (.lit (.str "staff")) .nil))) .nil))) (.cons (.call 12 (.cons (.loc 2) (.cons (.lit (.int 4)) .nil))) (.cons (.call 13 (.cons (.lit (.int 1)) (.cons (.loc 2) .nil))) (.cons (.call 9 (.cons (.lit (.str "Guest")) .nil)) (.cons (.glo 2) (.cons (.glo 1) (.cons (.call 11 (.cons (.loc 2) (.cons (.tup (.cons (.lit (.int 12)) (.cons (.lit (.str "guest")) .nil))) .nil))) .nil)))))))))
    (.cons (.ret (.op .eq (.cons (.op .repr (.cons (.loc 3) .nil)) (.cons (.op .repr (.cons (.lst false (.cons (.lit (.int 5)) (.cons (.tup (.cons (.lit (.int 2)) (.cons (.lit (.str "guest")) .nil))) (.cons (.tup (.cons (.tup (.cons (.lit (.int 0)) (.cons (.lit (.str "guest")) .nil))) (.cons (.tup (.cons (.lit (.int 0)) (.cons (.lit (.str "staff")) .nil))) .nil))) (.cons (.lit (.bl false)) (.cons (.lit (.int 8)) (.cons (.lit (.int 6)) (.cons (.lit (.int 24)) .nil)))))))) .nil)) .nil))))
    .nil))))
def d21 : Df := ⟨1, 6, b21⟩
def x21 : Td := ⟨["script", "spot", "words", "told", "bowl", "turn"], ["script"], defArgs (top 34), defBody (top 34), defScope (top 34)⟩
def dfs : List Df := [d0, d1, d2, d3, d4, d5, d6, d7, d8, d9, d10, d11, d12, d13, d14, d15, d16, d17, d18, d19, d20, d21]
def prog (i : Nat) : Option Df := dfs[i]?
theorem ok0 : okT G d0 x0 = true := by kernel_rfl
theorem ok1 : okT G d1 x1 = true := by kernel_rfl
theorem ok2 : okT G d2 x2 = true := by kernel_rfl
theorem ok3 : okT G d3 x3 = true := by kernel_rfl
theorem ok4 : okT G d4 x4 = true := by kernel_rfl
theorem ok5 : okT G d5 x5 = true := by kernel_rfl
theorem ok6 : okT G d6 x6 = true := by kernel_rfl
theorem ok7 : okT G d7 x7 = true := by kernel_rfl
theorem ok8 : okT G d8 x8 = true := by kernel_rfl
theorem ok9 : okT G d9 x9 = true := by kernel_rfl
theorem ok10 : okT G d10 x10 = true := by kernel_rfl
theorem ok11 : okT G d11 x11 = true := by kernel_rfl
theorem ok12 : okT G d12 x12 = true := by kernel_rfl
theorem ok13 : okT G d13 x13 = true := by kernel_rfl
theorem ok14 : okT G d14 x14 = true := by kernel_rfl
theorem ok15 : okT G d15 x15 = true := by kernel_rfl
theorem ok16 : okT G d16 x16 = true := by kernel_rfl
theorem ok17 : okT G d17 x17 = true := by kernel_rfl
theorem ok18 : okT G d18 x18 = true := by kernel_rfl
theorem ok19 : okT G d19 x19 = true := by kernel_rfl
theorem ok20 : okT G d20 x20 = true := by kernel_rfl
theorem ok21 : okT G d21 x21 = true := by kernel_rfl
def dd (x : String) (i : Nat) : He.DefD := ⟨(x, none), x, x, defArgs (top i), defBody (top i), defScope (top i), [], []⟩
def fn : List He.DefD := [dd "is_whole" 11, dd "is_within" 12, dd "is_rising" 13, dd "are_words_in" 14, dd "place_in" 15, dd "role_at" 16, dd "is_role_in" 17, dd "roles_in" 18, dd "require_words" 19, dd "is_name" 20, dd "are_words" 21, dd "place" 22, dd "role_of" 23, dd "roles" 24, dd "_law_bowl" 26, dd "_law_spoon" 27, dd "_law_one" 28, dd "_law_is_name" 30, dd "_law_are_words" 31, dd "_law_name" 32, dd "_law_right" 33, dd "law" 34]
def fa : List He.Fa := [.glo "is_whole", .glo "is_within", .glo "is_rising", .glo "are_words_in", .glo "place_in", .glo "role_at", .glo "is_role_in", .glo "roles_in", .glo "require_words", .glo "is_name", .glo "are_words", .glo "place", .glo "role_of", .glo "roles", .glo "_law_bowl", .glo "_law_spoon", .glo "_law_one", .glo "_law_is_name", .glo "_law_are_words", .glo "_law_name", .glo "_law_right", .glo "law", .int "GREAT" 1000000000000000000000000000000000000000000000000000000000000, .int "MAX_WORDS" 6, .int "MAX_LETTERS" 8, .str "LETTERS" "abcdefghijklmnopqrstuvwxyz", .int "MOST_HOUSES" 13, .free "len", .free "abs", .free "min", .free "max", .free "int", .free "range", .free "enumerate", .free "zip", .free "isinstance", .free "repr", .free "sum", .free "all", .free "any", .free "sorted", .free "tuple", .free "list", .free "set", .free "dict", .free "str", .free "bool"]
abbrev R : PySem.W.OpenRow := PySem.W.OpenLaw.row PySem.Challenge.rw_strangercome_k01_whole_names_and_roles
abbrev hk : PySem.W.Hook := He.hookD 4 fa fn
def ob (s : PySem.W.SharedT) : He.AlD := He.obsDG 4 fa fn (HandSHeadRun.getT s)
theorem ob_eq (s : PySem.W.SharedT) : ob s = hk.obs s.abs := He.obsDG_eq (HandSHeadRun.getT_eq s)
def loose : List Str := (["GrantError", "InvalidOperation", "InvalidNumber", "UnknownName", "MAX_LETTERS", "MAX_WORDS", "MOST_HOUSES", "GREAT", "LETTERS", "is_whole", "is_within", "is_rising", "are_words_in", "place_in", "role_at", "is_role_in", "roles_in", "require_words", "is_name", "are_words", "place", "role_of", "roles", "_law_bowl", "_law_spoon", "_law_one", "_law_mixed", "_law_is_name", "_law_are_words", "_law_name"] : List Str) ++ (["_law_right"] : List Str)
theorem run (w : World) : HandSHeadRun.RunEq R (PySem.W.view R.prog [34]) hk ob 4000 loose w := by
  intro os
  kernel_rfl
def tds : List Td := [x0, x1, x2, x3, x4, x5, x6, x7, x8, x9, x10, x11, x12, x13, x14, x15, x16, x17, x18, x19, x20, x21]
def T (i : Nat) : Td := tds.getD i x0
def Z0 (K : PySem.W.Frag) : St0 := { K := K, cA := fun _ => 0, XR := fun _ _ _ _ _ _ => False, fb := [] }
theorem sc0 : FnScope x0.N x0.ps x0.sc := ⟨rfl, rfl, rfl, by decide +kernel, rfl, by decide +kernel, by decide +kernel⟩
theorem sc1 : FnScope x1.N x1.ps x1.sc := ⟨rfl, rfl, rfl, by decide +kernel, rfl, by decide +kernel, by decide +kernel⟩
theorem sc2 : FnScope x2.N x2.ps x2.sc := ⟨rfl, rfl, rfl, by decide +kernel, rfl, by decide +kernel, by decide +kernel⟩
theorem sc3 : FnScope x3.N x3.ps x3.sc := ⟨rfl, rfl, rfl, by decide +kernel, rfl, by decide +kernel, by decide +kernel⟩
theorem sc4 : FnScope x4.N x4.ps x4.sc := ⟨rfl, rfl, rfl, by decide +kernel, rfl, by decide +kernel, by decide +kernel⟩
theorem sc5 : FnScope x5.N x5.ps x5.sc := ⟨rfl, rfl, rfl, by decide +kernel, rfl, by decide +kernel, by decide +kernel⟩
theorem sc6 : FnScope x6.N x6.ps x6.sc := ⟨rfl, rfl, rfl, by decide +kernel, rfl, by decide +kernel, by decide +kernel⟩
theorem sc7 : FnScope x7.N x7.ps x7.sc := ⟨rfl, rfl, rfl, by decide +kernel, rfl, by decide +kernel, by decide +kernel⟩
theorem sc8 : FnScope x8.N x8.ps x8.sc := ⟨rfl, rfl, rfl, by decide +kernel, rfl, by decide +kernel, by decide +kernel⟩
theorem sc9 : FnScope x9.N x9.ps x9.sc := ⟨rfl, rfl, rfl, by decide +kernel, rfl, by decide +kernel, by decide +kernel⟩
theorem sc10 : FnScope x10.N x10.ps x10.sc := ⟨rfl, rfl, rfl, by decide +kernel, rfl, by decide +kernel, by decide +kernel⟩
theorem sc11 : FnScope x11.N x11.ps x11.sc := ⟨rfl, rfl, rfl, by decide +kernel, rfl, by decide +kernel, by decide +kernel⟩
theorem sc12 : FnScope x12.N x12.ps x12.sc := ⟨rfl, rfl, rfl, by decide +kernel, rfl, by decide +kernel, by decide +kernel⟩
theorem sc13 : FnScope x13.N x13.ps x13.sc := ⟨rfl, rfl, rfl, by decide +kernel, rfl, by decide +kernel, by decide +kernel⟩
theorem sc14 : FnScope x14.N x14.ps x14.sc := ⟨rfl, rfl, rfl, by decide +kernel, rfl, by decide +kernel, by decide +kernel⟩
theorem sc15 : FnScope x15.N x15.ps x15.sc := ⟨rfl, rfl, rfl, by decide +kernel, rfl, by decide +kernel, by decide +kernel⟩
theorem sc16 : FnScope x16.N x16.ps x16.sc := ⟨rfl, rfl, rfl, by decide +kernel, rfl, by decide +kernel, by decide +kernel⟩
theorem sc17 : FnScope x17.N x17.ps x17.sc := ⟨rfl, rfl, rfl, by decide +kernel, rfl, by decide +kernel, by decide +kernel⟩
theorem sc18 : FnScope x18.N x18.ps x18.sc := ⟨rfl, rfl, rfl, by decide +kernel, rfl, by decide +kernel, by decide +kernel⟩
theorem sc19 : FnScope x19.N x19.ps x19.sc := ⟨rfl, rfl, rfl, by decide +kernel, rfl, by decide +kernel, by decide +kernel⟩
theorem sc20 : FnScope x20.N x20.ps x20.sc := ⟨rfl, rfl, rfl, by decide +kernel, rfl, by decide +kernel, by decide +kernel⟩
theorem sc21 : FnScope x21.N x21.ps x21.sc := ⟨rfl, rfl, rfl, by decide +kernel, rfl, by decide +kernel, by decide +kernel⟩
section
variable {P : Program} {w : World} {K : PySem.W.Frag} {h : Heap} {mg : Str → Option Value} {base : Heap}
theorem blt_ok (X : K.In h) (g : h.Ns mainGlobals mg) (c : He.SaysD fa fn K) : ∀ x ∈ bltNames, mg x = none := by
  intro x hx
  unfold bltNames at hx
  simp only [List.mem_cons, List.not_mem_nil, or_false] at hx
  rcases hx with e | e | e | e | e | e | e | e | e | e | e | e | e | e | e | e | e | e | e | e
  · rw [e]; exact He.free_ok X g (c.fact 27 (f := .free "len") rfl)
  · rw [e]; exact He.free_ok X g (c.fact 28 (f := .free "abs") rfl)
  · rw [e]; exact He.free_ok X g (c.fact 29 (f := .free "min") rfl)
  · rw [e]; exact He.free_ok X g (c.fact 30 (f := .free "max") rfl)
  · rw [e]; exact He.free_ok X g (c.fact 31 (f := .free "int") rfl)
  · rw [e]; exact He.free_ok X g (c.fact 32 (f := .free "range") rfl)
  · rw [e]; exact He.free_ok X g (c.fact 33 (f := .free "enumerate") rfl)
  · rw [e]; exact He.free_ok X g (c.fact 34 (f := .free "zip") rfl)
  · rw [e]; exact He.free_ok X g (c.fact 35 (f := .free "isinstance") rfl)
  · rw [e]; exact He.free_ok X g (c.fact 36 (f := .free "repr") rfl)
  · rw [e]; exact He.free_ok X g (c.fact 37 (f := .free "sum") rfl)
  · rw [e]; exact He.free_ok X g (c.fact 38 (f := .free "all") rfl)
  · rw [e]; exact He.free_ok X g (c.fact 39 (f := .free "any") rfl)
  · rw [e]; exact He.free_ok X g (c.fact 40 (f := .free "sorted") rfl)
  · rw [e]; exact He.free_ok X g (c.fact 41 (f := .free "tuple") rfl)
  · rw [e]; exact He.free_ok X g (c.fact 42 (f := .free "list") rfl)
  · rw [e]; exact He.free_ok X g (c.fact 43 (f := .free "set") rfl)
  · rw [e]; exact He.free_ok X g (c.fact 44 (f := .free "dict") rfl)
  · rw [e]; exact He.free_ok X g (c.fact 45 (f := .free "str") rfl)
  · rw [e]; exact He.free_ok X g (c.fact 46 (f := .free "bool") rfl)
theorem wf (X : K.In h) (g : h.Ns mainGlobals mg) (c : He.SaysD fa fn K) : Wf P w K mg base G (Z0 K) prog T where
  hK := rfl
  blt := blt_ok X g c
  glo := fun i => match i with
    | 0 => .inl (by obtain ⟨t, e⟩ := He.int_ok X g (c.fact 22 (f := .int "GREAT" 1000000000000000000000000000000000000000000000000000000000000) rfl); exact ⟨_, .int 1000000000000000000000000000000000000000000000000000000000000, e, ⟨t, rfl⟩, fun _ _ _ => rfl⟩)
    | 1 => .inl (by obtain ⟨t, e⟩ := He.int_ok X g (c.fact 23 (f := .int "MAX_WORDS" 6) rfl); exact ⟨_, .int 6, e, ⟨t, rfl⟩, fun _ _ _ => rfl⟩)
    | 2 => .inl (by obtain ⟨t, e⟩ := He.int_ok X g (c.fact 24 (f := .int "MAX_LETTERS" 8) rfl); exact ⟨_, .int 8, e, ⟨t, rfl⟩, fun _ _ _ => rfl⟩)
    | 3 => .inl (by obtain ⟨t, e⟩ := He.str_ok X g (c.fact 25 (f := .str "LETTERS" "abcdefghijklmnopqrstuvwxyz") rfl); exact ⟨_, .str "abcdefghijklmnopqrstuvwxyz", e, ⟨t, rfl⟩, fun _ _ _ => rfl⟩)
    | 4 => .inl (by obtain ⟨t, e⟩ := He.int_ok X g (c.fact 26 (f := .int "MOST_HOUSES" 13) rfl); exact ⟨_, .int 13, e, ⟨t, rfl⟩, fun _ _ _ => rfl⟩)
    | _ + 5 => .inr rfl
  fns := fun i => match i with
    | 0 => .inr (by obtain ⟨fd, F⟩ := c.def_ 0 (d := dd "is_whole" 11) rfl; exact ⟨d0, rfl, ok0, sc0, by decide, _, fd, He.glo_ok X g (c.fact 0 (f := .glo "is_whole") rfl), F, FunD.bindsN F fun _ _ _ _ _ _ us hl => match us, hl with | [_], _ => rfl⟩)
    | 1 => .inr (by obtain ⟨fd, F⟩ := c.def_ 1 (d := dd "is_within" 12) rfl; exact ⟨d1, rfl, ok1, sc1, by decide, _, fd, He.glo_ok X g (c.fact 1 (f := .glo "is_within") rfl), F, FunD.bindsN F fun _ _ _ _ _ _ us hl => match us, hl with | [_, _, _], _ => rfl⟩)
    | 2 => .inr (by obtain ⟨fd, F⟩ := c.def_ 2 (d := dd "is_rising" 13) rfl; exact ⟨d2, rfl, ok2, sc2, by decide, _, fd, He.glo_ok X g (c.fact 2 (f := .glo "is_rising") rfl), F, FunD.bindsN F fun _ _ _ _ _ _ us hl => match us, hl with | [_], _ => rfl⟩)
    | 3 => .inr (by obtain ⟨fd, F⟩ := c.def_ 3 (d := dd "are_words_in" 14) rfl; exact ⟨d3, rfl, ok3, sc3, by decide, _, fd, He.glo_ok X g (c.fact 3 (f := .glo "are_words_in") rfl), F, FunD.bindsN F fun _ _ _ _ _ _ us hl => match us, hl with | [_], _ => rfl⟩)
    | 4 => .inr (by obtain ⟨fd, F⟩ := c.def_ 4 (d := dd "place_in" 15) rfl; exact ⟨d4, rfl, ok4, sc4, by decide, _, fd, He.glo_ok X g (c.fact 4 (f := .glo "place_in") rfl), F, FunD.bindsN F fun _ _ _ _ _ _ us hl => match us, hl with | [_, _], _ => rfl⟩)
    | 5 => .inr (by obtain ⟨fd, F⟩ := c.def_ 5 (d := dd "role_at" 16) rfl; exact ⟨d5, rfl, ok5, sc5, by decide, _, fd, He.glo_ok X g (c.fact 5 (f := .glo "role_at") rfl), F, FunD.bindsN F fun _ _ _ _ _ _ us hl => match us, hl with | [_, _], _ => rfl⟩)
    | 6 => .inr (by obtain ⟨fd, F⟩ := c.def_ 6 (d := dd "is_role_in" 17) rfl; exact ⟨d6, rfl, ok6, sc6, by decide, _, fd, He.glo_ok X g (c.fact 6 (f := .glo "is_role_in") rfl), F, FunD.bindsN F fun _ _ _ _ _ _ us hl => match us, hl with | [_, _, _], _ => rfl⟩)
    | 7 => .inr (by obtain ⟨fd, F⟩ := c.def_ 7 (d := dd "roles_in" 18) rfl; exact ⟨d7, rfl, ok7, sc7, by decide, _, fd, He.glo_ok X g (c.fact 7 (f := .glo "roles_in") rfl), F, FunD.bindsN F fun _ _ _ _ _ _ us hl => match us, hl with | [_, _], _ => rfl⟩)
    | 8 => .inr (by obtain ⟨fd, F⟩ := c.def_ 8 (d := dd "require_words" 19) rfl; exact ⟨d8, rfl, ok8, sc8, by decide, _, fd, He.glo_ok X g (c.fact 8 (f := .glo "require_words") rfl), F, FunD.bindsN F fun _ _ _ _ _ _ us hl => match us, hl with | [_], _ => rfl⟩)
    | 9 => .inr (by obtain ⟨fd, F⟩ := c.def_ 9 (d := dd "is_name" 20) rfl; exact ⟨d9, rfl, ok9, sc9, by decide, _, fd, He.glo_ok X g (c.fact 9 (f := .glo "is_name") rfl), F, FunD.bindsN F fun _ _ _ _ _ _ us hl => match us, hl with | [_], _ => rfl⟩)
    | 10 => .inr (by obtain ⟨fd, F⟩ := c.def_ 10 (d := dd "are_words" 21) rfl; exact ⟨d10, rfl, ok10, sc10, by decide, _, fd, He.glo_ok X g (c.fact 10 (f := .glo "are_words") rfl), F, FunD.bindsN F fun _ _ _ _ _ _ us hl => match us, hl with | [_], _ => rfl⟩)
    | 11 => .inr (by obtain ⟨fd, F⟩ := c.def_ 11 (d := dd "place" 22) rfl; exact ⟨d11, rfl, ok11, sc11, by decide, _, fd, He.glo_ok X g (c.fact 11 (f := .glo "place") rfl), F, FunD.bindsN F fun _ _ _ _ _ _ us hl => match us, hl with | [_, _], _ => rfl⟩)
    | 12 => .inr (by obtain ⟨fd, F⟩ := c.def_ 12 (d := dd "role_of" 23) rfl; exact ⟨d12, rfl, ok12, sc12, by decide, _, fd, He.glo_ok X g (c.fact 12 (f := .glo "role_of") rfl), F, FunD.bindsN F fun _ _ _ _ _ _ us hl => match us, hl with | [_, _], _ => rfl⟩)
    | 13 => .inr (by obtain ⟨fd, F⟩ := c.def_ 13 (d := dd "roles" 24) rfl; exact ⟨d13, rfl, ok13, sc13, by decide, _, fd, He.glo_ok X g (c.fact 13 (f := .glo "roles") rfl), F, FunD.bindsN F fun _ _ _ _ _ _ us hl => match us, hl with | [_, _], _ => rfl⟩)
    | 14 => .inr (by obtain ⟨fd, F⟩ := c.def_ 14 (d := dd "_law_bowl" 26) rfl; exact ⟨d14, rfl, ok14, sc14, by decide, _, fd, He.glo_ok X g (c.fact 14 (f := .glo "_law_bowl") rfl), F, FunD.bindsN F fun _ _ _ _ _ _ us hl => match us, hl with | [_, _], _ => rfl⟩)
    | 15 => .inr (by obtain ⟨fd, F⟩ := c.def_ 15 (d := dd "_law_spoon" 27) rfl; exact ⟨d15, rfl, ok15, sc15, by decide, _, fd, He.glo_ok X g (c.fact 15 (f := .glo "_law_spoon") rfl), F, FunD.bindsN F fun _ _ _ _ _ _ us hl => match us, hl with | [_, _], _ => rfl⟩)
    | 16 => .inr (by obtain ⟨fd, F⟩ := c.def_ 16 (d := dd "_law_one" 28) rfl; exact ⟨d16, rfl, ok16, sc16, by decide, _, fd, He.glo_ok X g (c.fact 16 (f := .glo "_law_one") rfl), F, FunD.bindsN F fun _ _ _ _ _ _ us hl => match us, hl with | [_, _], _ => rfl⟩)
    | 17 => .inr (by obtain ⟨fd, F⟩ := c.def_ 17 (d := dd "_law_is_name" 30) rfl; exact ⟨d17, rfl, ok17, sc17, by decide, _, fd, He.glo_ok X g (c.fact 17 (f := .glo "_law_is_name") rfl), F, FunD.bindsN F fun _ _ _ _ _ _ us hl => match us, hl with | [_], _ => rfl⟩)
    | 18 => .inr (by obtain ⟨fd, F⟩ := c.def_ 18 (d := dd "_law_are_words" 31) rfl; exact ⟨d18, rfl, ok18, sc18, by decide, _, fd, He.glo_ok X g (c.fact 18 (f := .glo "_law_are_words") rfl), F, FunD.bindsN F fun _ _ _ _ _ _ us hl => match us, hl with | [_], _ => rfl⟩)
    | 19 => .inr (by obtain ⟨fd, F⟩ := c.def_ 19 (d := dd "_law_name" 32) rfl; exact ⟨d19, rfl, ok19, sc19, by decide, _, fd, He.glo_ok X g (c.fact 19 (f := .glo "_law_name") rfl), F, FunD.bindsN F fun _ _ _ _ _ _ us hl => match us, hl with | [_], _ => rfl⟩)
    | 20 => .inr (by obtain ⟨fd, F⟩ := c.def_ 20 (d := dd "_law_right" 33) rfl; exact ⟨d20, rfl, ok20, sc20, by decide, _, fd, He.glo_ok X g (c.fact 20 (f := .glo "_law_right") rfl), F, FunD.bindsN F fun _ _ _ _ _ _ us hl => match us, hl with | [_], _ => rfl⟩)
    | 21 => .inr (by obtain ⟨fd, F⟩ := c.def_ 21 (d := dd "law" 34) rfl; exact ⟨d21, rfl, ok21, sc21, by decide, _, fd, He.glo_ok X g (c.fact 21 (f := .glo "law") rfl), F, FunD.bindsN F fun _ _ _ _ _ _ us hl => match us, hl with | [_], _ => rfl⟩)
    | _ + 22 => .inl ⟨rfl, rfl⟩
end
open PySem.W PySem.Calls in
theorem holds_of (hp : ∀ ns : List Int, ns.length ≤ 63 → ∃ h', callN prog G.gl 16 21 [scriptD ns] [] = .ok (.bl true) h') : PySem.Challenge.rw_strangercome_k01_whole_names_and_roles.Holds := by
  w_on; o_law
  refine HandSHeadRun.head_any (r := OpenLaw.row PySem.Challenge.rw_strangercome_k01_whole_names_and_roles) (q := view (OpenLaw.row PySem.Challenge.rw_strangercome_k01_whole_names_and_roles).prog [34]) (H := hk) (ob := ob) (M := 4000) (loose := loose) (d := HandSHeadRun.topDef (OpenLaw.row PySem.Challenge.rw_strangercome_k01_whole_names_and_roles).prog 34) (kwd := []) ob_eq
    (by kernel_rfl) (fun s => by kernel_rfl) run (by kernel_rfl) (by kernel_rfl) (by kernel_rfl) (by rfl) (by first | assumption | decide +kernel) (by decide +kernel) ⟨rfl, rfl, rfl, rfl, rfl, by decide +kernel⟩ ?hw ?hc
  case hw => w_witness2
  case hc =>
    refine walk_ofW (l := PySem.Challenge.rw_strangercome_k01_whole_names_and_roles) (n := 63) (k := 16) (x := "script") rfl (by decide) (by kernel_rfl) ⟨rfl, by decide, by decide⟩ ?_
    intro w mg fa0 h Y g hmg0
    obtain ⟨K, KX, c⟩ := Y
    have hmg : mg ("law" : PySem.Str) = some (.ref fa0) := by
      have e : (HandSHeadRun.topDef (OpenLaw.row PySem.Challenge.rw_strangercome_k01_whole_names_and_roles).prog 34).name = ("law" : PySem.Str) := by kernel_rfl
      rw [← e]
      exact hmg0
    have e := hmg.symm.trans (He.glo_ok KX g (c.fact 21 (f := .glo "law") rfl))
    cases e
    obtain ⟨fd, F⟩ := c.def_ 21 (d := dd "law" 34) rfl
    have b := FunD.bindsA (ps := ["script"]) F fun _ _ _ _ _ _ us hl => match us, hl with | [_], _ => rfl
    refine ⟨K, fd, spF (Z0 K) 1 (callN prog G.gl 16 21), KX, fun s v => b s [v] rfl, fun H a ns hl hS => ?_, fun base kb gb => fnG_at (f := 21) (wf KX g c) rfl ok21 sc21 F⟩
    obtain ⟨h', e⟩ := hp ns hl
    exact law_sp rfl hl hS e
end K01

end
section
set_option maxRecDepth 100000
set_option maxHeartbeats 1000000
namespace K01
open PySem Mp
abbrev C (k : Nat) : Fns := callN prog G.gl k
theorem run_of {k f : Nat} {d : Df} {ds : List D} {h : HP} {r : Rs D} (e : prog f = some d) (hl : ds.length = d.np) (p : finD (evSs (C k) G.gl d.body (startD d.n ds) h) = r) : C (k + 1) f ds h = r := by
  show callN prog G.gl (k + 1) f ds h = r
  rw [callN_succ prog G.gl k f e]
  unfold runD
  rw [if_pos hl]
  exact p
def isWhole (i : Int) : Bool := decide (-1000000000000000000000000000000000000000000000000000000000000 < i) && decide (i < 1000000000000000000000000000000000000000000000000000000000000)
theorem f0 (k : Nat) (i : Int) (h : HP) : C (k + 1) 0 [.int i] h = .ok (.bl (isWhole i)) h := by
  refine run_of (d := d0) rfl rfl ?_
  unfold isWhole
  by_cases h1 : -1000000000000000000000000000000000000000000000000000000000000 < i <;>
  simp [d0, b0, startD, evSs, evS, evE, evEs, evB, evOp, evIsa, isaD, truD, evLt, andThen, liftE, finD, G, gvals, Lt.d, h1]
def inL (c : Nat) : Bool := !(Builtin.Str.occurrences "abcdefghijklmnopqrstuvwxyz" ⟨#[c]⟩ 0 26 1).isEmpty
def isName : D → Bool
  | .str x => decide (1 ≤ x.length) && decide (x.length ≤ 8) && x.cps.toList.all inL
  | _ => false
theorem f9n (k : Nat) (d : D) (h : HP) (hd : isaD 2 h d = some false) : C (k + 1) 9 [d] h = .ok (.bl false) h := by
  refine run_of (d := d9) rfl rfl ?_
  simp [d9, b9, startD, evSs, evS, evE, evEs, evB, evT, evBT, evOp, evIsa, hd, truD, andThen, liftE, finD, G, gvals, Lt.d]
theorem boolsOf_map (g : D → Bool) : ∀ xs : List D, boolsOf (xs.flatMap fun d => [D.bl (g d)]) = some (xs.map g)
  | [] => rfl
  | x :: xs => by
    rw [List.flatMap_cons]
    show (boolsOf (xs.flatMap fun d => [D.bl (g d)])).map (g x :: ·) = _
    rw [boolsOf_map g xs]
    rfl
def inD : D → Bool
  | .str x => !(Builtin.Str.occurrences "abcdefghijklmnopqrstuvwxyz" x 0 26 1).isEmpty
  | _ => false
theorem f9s (k : Nat) (x : Str) (h : HP) : C (k + 1) 9 [.str x] h = .ok (.bl (isName (.str x))) h ∨ line < x.length := by
  by_cases hl : x.length ≤ line
  · refine .inl (run_of (d := d9) rfl rfl ?_)
    have hc : evE (C k) G.gl (.comp false [1] (.nm 1) (.seq (.loc 0)) .nil (.op .isin (.cons (.loc 1) (.cons (.glo 3) .nil)))) [some (.str x), none] h = newL false ((signsD x).flatMap fun d => [D.bl (inD d)]) h := by
      refine comp_of (iv := itemsD (.str x)) ?_ (xs := signsD x) ?_ ?_ ?_
      · simp [evI, evE, iv1, itemsD, hl]
      · simp [itemsD, hl]
      · unfold signsD
        rw [List.length_map, Array.length_toList]
        exact hl
      · intro d hd acc
        obtain ⟨c, _, rfl⟩ := List.mem_map.mp hd
        simp [turnD, setTg, wipeD, evTs, evE, evEs, evOp, evIn, G, gvals, Rs.noX, inD]
        rfl
    have g2 : G.gl 2 = .int 8 := rfl
    have hb : boolsOf ((signsD x).flatMap fun d => [D.bl (inD d)]) = some ((signsD x).map inD) := boolsOf_map inD _
    have s2 : evS (C k) G.gl (.ret (.op .all (.cons (.comp false [1] (.nm 1) (.seq (.loc 0)) .nil (.op .isin (.cons (.loc 1) (.cons (.glo 3) .nil)))) .nil))) [some (.str x), none] h = .ok (.rt (.bl ((signsD x).map inD |>.all id))) h := by
      rw [evS, evE, evEs, hc]
      simp [newL, evEs, evOp, onL, deref, evAll, hb, liftE]
    by_cases h1 : 1 ≤ x.length
    · by_cases h2 : x.length ≤ 8
      · have i1 : (1 : Int) ≤ (x.length : Int) := by omega
        have i2 : (x.length : Int) ≤ 8 := by omega
        have s1 : evS (C k) G.gl (.ifs (.bop false (.cons (.op .not (.cons (.op (.isa 2) (.cons (.loc 0) .nil)) .nil)) (.cons (.op .not (.cons (.chain .le .le (.lit (.int 1)) (.op .len (.cons (.loc 0) .nil)) (.glo 2)) .nil)) .nil))) (.cons (.ret (.lit (.bl false))) .nil) .nil) [some (.str x), none] h = .ok (.nx [some (.str x), none]) h := by
          simp [evSs, evS, evE, evEs, evB, evT, evBT, evOp, evIsa, isaD, truD, liftE, g2, Lt.d, evLen, evCmp, hl, i1, i2]
        show finD (evSs (C k) G.gl b9 [some (.str x), none] h) = _
        unfold b9
        rw [evSs, s1]
        simp only [andThen, evSs, s2, finD, isName, h1, h2, decide_true, Bool.and_self, Bool.true_and]
        have e : ((signsD x).map inD).all id = x.cps.toList.all inL := by
          unfold signsD
          rw [List.map_map, List.all_map]
          rfl
        rw [e]
      · have i1 : (1 : Int) ≤ (x.length : Int) := by omega
        have i2 : ¬ (x.length : Int) ≤ 8 := by omega
        simp [isName, d9, b9, startD, evSs, evS, evE, evEs, evB, evT, evBT, evOp, evIsa, isaD, truD, andThen, liftE, finD, g2, Lt.d, evLen, evCmp, hl, h1, h2, i1, i2]
    · have i1 : ¬ (1 : Int) ≤ (x.length : Int) := by omega
      simp [isName, d9, b9, startD, evSs, evS, evE, evEs, evB, evT, evBT, evOp, evIsa, isaD, truD, andThen, liftE, finD, g2, Lt.d, evLen, evCmp, hl, h1, i1]
  · exact .inr (by omega)
theorem f17n (k : Nat) (d : D) (h : HP) (hd : isaD 2 h d = some false) : C (k + 1) 17 [d] h = .ok (.bl false) h := by
  refine run_of (d := d17) rfl rfl ?_
  simp [d17, b17, startD, evSs, evS, evE, evEs, evB, evOp, evIsa, hd, truD, andThen, liftE, finD, Lt.d]
theorem dataL_filter (p : D → Bool) : ∀ xs : List D, dataL xs = true → dataL (xs.filter p) = true
  | [], _ => rfl
  | x :: xs, q => by
    have q : (D.data x && dataL xs) = true := q
    rw [Bool.and_eq_true] at q
    have r := dataL_filter p xs q.2
    rw [List.filter_cons]
    split
    · show (D.data x && dataL (xs.filter p)) = true
      rw [q.1, r]
      rfl
    · exact r
theorem depL_signs (p : D → Bool) (x : Str) : depL ((signsD x).filter p) = 0 := by
  have : ∀ ys : List D, (∀ d ∈ ys, D.dep d = 0) → depL ys = 0 := by
    intro ys
    induction ys with
    | nil => intro _; rfl
    | cons y ys ih =>
      intro q
      show max (D.dep y) (depL ys) = 0
      rw [q y List.mem_cons_self, ih fun d hd => q d (List.mem_cons_of_mem _ hd)]
      rfl
  refine this _ fun d hd => ?_
  obtain ⟨c, _, rfl⟩ := List.mem_map.mp (List.mem_filter.mp hd).1
  rfl
theorem f17s (k : Nat) (x : Str) (h : HP) (hl : x.length ≤ line) (hs : dataL (signsD x) = true) : C (k + 1) 17 [.str x] h = .ok (.bl (isName (.str x))) h := by
  refine run_of (d := d17) rfl rfl ?_
  have hc : evE (C k) G.gl (.comp false [1] (.nm 1) (.seq (.loc 0)) (.cons (.op .notin (.cons (.loc 1) (.cons (.lit (.str "abcdefghijklmnopqrstuvwxyz")) .nil))) .nil) (.loc 1)) [some (.str x), none] h = newL false ((signsD x).flatMap fun d => if inD d then [] else [d]) h := by
    refine comp_of (iv := itemsD (.str x)) ?_ (xs := signsD x) ?_ ?_ ?_
    · simp [evI, evE, iv1, itemsD, hl]
    · simp [itemsD, hl]
    · unfold signsD
      rw [List.length_map, Array.length_toList]
      exact hl
    · intro d hd acc
      obtain ⟨c, _, rfl⟩ := List.mem_map.mp hd
      have e : evOp .notin [.str ⟨#[c]⟩, .str "abcdefghijklmnopqrstuvwxyz"] h = .ok (.bl (!inD (.str ⟨#[c]⟩))) h := rfl
      cases q : inD (.str ⟨#[c]⟩) <;> rw [q] at e <;> simp [turnD, setTg, wipeD, evTs, evT, evE, evEs, e, q, Rs.noX, Lt.d, truD]
  have hf : ((signsD x).flatMap fun d => if inD d then [] else [d]) = (signsD x).filter fun d => !inD d := by
    induction signsD x with
    | nil => rfl
    | cons y ys ih =>
      rw [List.flatMap_cons, ih, List.filter_cons]
      cases inD y <;> rfl
  rw [hf] at hc
  have ok1 : (D.lst ((signsD x).filter fun d => !inD d)).ok = true := by
    unfold D.ok
    rw [Bool.and_eq_true]
    refine ⟨dataL_filter _ _ hs, decide_eq_true ?_⟩
    show depL _ + 1 ≤ 60
    rw [depL_signs]
    omega
  have e2 : evOp .eq [.lst ((signsD x).filter fun d => !inD d), .lst []] h = .ok (.bl ((signsD x).all inD)) h := by
    simp only [evOp]
    have e3 : isDat (D.lst ((signsD x).filter fun d => !inD d)) (D.lst []) = true := by
      unfold isDat
      rw [ok1]
      rfl
    have e4 : (D.lst ((signsD x).filter fun d => !inD d)).eqv (.lst []) = (signsD x).all inD := by
      clear hs hc hf ok1 e3
      induction signsD x with
      | nil => rfl
      | cons y ys ih =>
        rw [List.filter_cons, List.all_cons]
        cases inD y with
        | false => rfl
        | true => exact ih
    have d1 : ∀ xs, deref h (D.lst xs) = .lst xs := fun _ => rfl
    simp [evEq, d1, e3, e4]
  have al : (signsD x).all inD = x.cps.toList.all inL := by
    unfold signsD
    rw [List.all_map]
    rfl
  rw [al] at e2
  by_cases h1 : 1 ≤ x.length
  · have i1 : (1 : Int) ≤ (x.length : Int) := by omega
    by_cases h2 : x.length ≤ 8
    · have i2 : (x.length : Int) ≤ 8 := by omega
      have s1 : evE (C k) G.gl (.op .eq (.cons (.comp false [1] (.nm 1) (.seq (.loc 0)) (.cons (.op .notin (.cons (.loc 1) (.cons (.lit (.str "abcdefghijklmnopqrstuvwxyz")) .nil))) .nil) (.loc 1)) (.cons (.lst false .nil) .nil))) [some (.str x), none] h = .ok (.bl (x.cps.toList.all inL)) h := by
        rw [evE, evEs, hc]
        simp only [newL, bnd_ok, evEs, evE]
        exact e2
      show finD (evSs (C k) G.gl b17 [some (.str x), none] h) = _
      unfold b17
      generalize (E.op .eq (.cons (.comp false [1] (.nm 1) (.seq (.loc 0)) (.cons (.op .notin (.cons (.loc 1) (.cons (.lit (.str "abcdefghijklmnopqrstuvwxyz")) .nil))) .nil) (.loc 1)) (.cons (.lst false .nil) .nil))) = e0 at s1 ⊢
      simp [isName, s1, evSs, evS, evB, evE, evEs, evOp, evIsa, isaD, truD, evLen, evCmp, andThen, liftE, finD, Lt.d, hl, h1, h2, i1, i2]
    · have i2 : ¬ (x.length : Int) ≤ 8 := by omega
      simp [isName, d17, b17, startD, evSs, evS, evE, evEs, evB, evOp, evIsa, isaD, truD, andThen, liftE, finD, Lt.d, evLen, evCmp, hl, h1, h2, i1, i2]
  · have i1 : ¬ (1 : Int) ≤ (x.length : Int) := by omega
    simp [isName, d17, b17, startD, evSs, evS, evE, evEs, evB, evOp, evIsa, isaD, truD, andThen, liftE, finD, Lt.d, evLen, evCmp, hl, h1, i1]
end K01

end
section
set_option maxRecDepth 100000
set_option maxHeartbeats 1000000
namespace K01
open PySem Mp
/-- a value that is asked whether it is a name -/
def Tst (h : HP) (d : D) : Prop := isaD 2 h d = some false ∨ ∃ x, d = .str x ∧ x.length ≤ line ∧ dataL (signsD x) = true
theorem f9 (k : Nat) {h : HP} {d : D} (t : Tst h d) : C (k + 1) 9 [d] h = .ok (.bl (isName d)) h := by
  rcases t with t | ⟨x, rfl, hl, _⟩
  · have e : isName d = false := by
      cases d <;> first | rfl | exact absurd (show some true = some false from t) (by decide)
    rw [e]
    exact f9n k d h t
  · rcases f9s k x h with e | e
    · exact e
    · omega
theorem f17 (k : Nat) {h : HP} {d : D} (t : Tst h d) : C (k + 1) 17 [d] h = .ok (.bl (isName d)) h := by
  rcases t with t | ⟨x, rfl, hl, hs⟩
  · have e : isName d = false := by
      cases d <;> first | rfl | exact absurd (show some true = some false from t) (by decide)
    rw [e]
    exact f17n k d h t
  · exact f17s k x h hl hs
theorem cut1 (xs : List D) : cutD xs (some 1) none = xs.drop 1 := by
  unfold cutD
  have e1 : HT.sIx xs.length 0 (some 1) = min 1 xs.length := HT.sIx_nat xs.length 0 1
  have e2 : HT.sIx xs.length xs.length none = xs.length := rfl
  rw [e1, e2]
  cases xs with
  | nil => rfl
  | cons x xs =>
    have e : min 1 (x :: xs).length = 1 := by rw [List.length_cons]; omega
    rw [e]
    exact List.take_of_length_le (by simp)
def ltD : D → Bool
  | .tup [.str a, .str b] => ltStr a b
  | _ => false
def rising (xs : List D) : Bool := (zipD xs (xs.drop 1)).all ltD
theorem mem_zipD : ∀ {as bs : List D} {d : D}, d ∈ zipD as bs → ∃ a b, a ∈ as ∧ b ∈ bs ∧ d = .tup [a, b]
  | [], _, d, m => by cases m
  | _ :: _, [], d, m => by cases m
  | a :: as, b :: bs, d, m => by
    rcases List.mem_cons.mp m with e | m
    · exact ⟨a, b, List.mem_cons_self, List.mem_cons_self, e⟩
    · obtain ⟨x, y, h1, h2, e⟩ := mem_zipD m
      exact ⟨x, y, List.mem_cons_of_mem _ h1, List.mem_cons_of_mem _ h2, e⟩
theorem len_zipD : ∀ (as bs : List D), (zipD as bs).length ≤ as.length
  | [], _ => Nat.le_refl _
  | _ :: _, [] => Nat.zero_le _
  | a :: as, b :: bs => Nat.succ_le_succ (len_zipD as bs)
theorem f2 (k : Nat) {h : HP} {xs : List D} (hs : ∀ d ∈ xs, ∃ x, d = .str x) (hl : xs.length ≤ line) : C (k + 1) 2 [.tup xs] h = .ok (.bl (rising xs)) h := by
  refine run_of (d := d2) rfl rfl ?_
  have hc : evE (C k) G.gl (.comp false [1, 2] (.tup (.cons (.nm 1) (.cons (.nm 2) .nil))) (.zip (.cons (.loc 0) (.cons (.sl (.loc 0) (.cons (.lit (.int 1)) .nil) .nil) .nil))) .nil (.op .lt (.cons (.loc 1) (.cons (.loc 2) .nil)))) [some (.tup xs), none, none] h = newL false ((zipD xs (xs.drop 1)).flatMap fun d => [.bl (ltD d)]) h := by
    refine comp_of (iv := zipI (.tup xs) (.tup (xs.drop 1))) ?_ (xs := zipD xs (xs.drop 1)) ?_ (Nat.le_trans (len_zipD _ _) hl) ?_
    · have e : evSl (.tup xs) (some 1) none h = .ok (.tup (xs.drop 1)) h := by
        rw [← cut1]
        rfl
      simp [evI, evEs, evE, evO, Lt.d, e, iv2, itemsD, seqOf]
    · simp [zipI, itemsD, seqOf]
    · intro d hd acc
      obtain ⟨a, b, h1, h2, rfl⟩ := mem_zipD hd
      obtain ⟨x, rfl⟩ := hs a h1
      obtain ⟨y, rfl⟩ := hs b (List.mem_of_mem_drop h2)
      simp [turnD, setTg, setTgs, wipeD, evTs, evE, evEs, evOp, evLt, Rs.noX, ltD]
  have hb := boolsOf_map ltD (zipD xs (xs.drop 1))
  show finD (evSs (C k) G.gl b2 [some (.tup xs), none, none] h) = _
  unfold b2
  rw [evSs, evS, evE, evEs, hc]
  unfold rising
  generalize zipD xs (xs.drop 1) = zs at hb ⊢
  simp [newL, evEs, evOp, onL, deref, evAll, hb, liftE, andThen, finD]
def areWords : D → Bool
  | .tup xs => decide (1 ≤ xs.length) && decide (xs.length ≤ 6) && xs.all isName && rising xs
  | _ => false
theorem f3n (k : Nat) (d : D) (h : HP) (hd : isaD 3 h d = some false) : C (k + 1) 3 [d] h = .ok (.bl false) h := by
  refine run_of (d := d3) rfl rfl ?_
  simp [d3, b3, startD, evSs, evS, evE, evEs, evB, evT, evBT, evOp, evIsa, hd, truD, andThen, liftE, finD, Lt.d]
theorem name_str {d : D} (h : isName d = true) : ∃ x, d = .str x := by
  cases d <;> first | exact ⟨_, rfl⟩ | exact Bool.noConfusion (show false = true from h)
theorem f3t (k : Nat) {h : HP} {xs : List D} (ht : ∀ d ∈ xs, Tst h d) (hl : xs.length ≤ line) : C (k + 2) 3 [.tup xs] h = .ok (.bl (areWords (.tup xs))) h := by
  refine run_of (d := d3) rfl rfl ?_
  have hc : evE (C (k + 1)) G.gl (.comp false [1] (.nm 1) (.seq (.loc 0)) .nil (.call 9 (.cons (.loc 1) .nil))) [some (.tup xs), none] h = newL false (xs.flatMap fun d => [.bl (isName d)]) h := by
    refine comp_of (iv := itemsD (.tup xs)) ?_ (xs := xs) ?_ hl ?_
    · simp [evI, evE, iv1, itemsD, seqOf]
    · simp [itemsD, seqOf]
    · intro d hd acc
      have e := f9 k (ht d hd)
      simp [turnD, setTg, wipeD, evTs, evE, evEs, e, Rs.noX]
  have hb := boolsOf_map isName xs
  have g1 : G.gl 1 = .int 6 := rfl
  have sA : evE (C (k + 1)) G.gl (.op .all (.cons (.comp false [1] (.nm 1) (.seq (.loc 0)) .nil (.call 9 (.cons (.loc 1) .nil))) .nil)) [some (.tup xs), none] h = .ok (.bl (xs.all isName)) h := by
    rw [evE, evEs, hc]
    simp [newL, evEs, evOp, onL, deref, evAll, hb]
  have sT0 : evT (C (k + 1)) G.gl (.op .all (.cons (.comp false [1] (.nm 1) (.seq (.loc 0)) .nil (.call 9 (.cons (.loc 1) .nil))) .nil)) [some (.tup xs), none] h = .ok (xs.all isName) h := by
    rw [evT, evEs, hc]
    · simp [newL, evEs, evOp, onL, deref, evAll, hb, truD]
    · intro e z
      cases z
  show finD (evSs (C (k + 1)) G.gl b3 [some (.tup xs), none] h) = _
  unfold b3
  generalize (E.op .all (.cons (.comp false [1] (.nm 1) (.seq (.loc 0)) .nil (.call 9 (.cons (.loc 1) .nil))) .nil)) = e0 at sT0 ⊢
  have sT := sT0
  by_cases h1 : 1 ≤ xs.length
  · have i1 : (1 : Int) ≤ (xs.length : Int) := by omega
    by_cases h2 : xs.length ≤ 6
    · have i2 : (xs.length : Int) ≤ 6 := by omega
      cases h3 : xs.all isName with
      | true =>
        have f := f2 k (h := h) (xs := xs) (fun d hd => name_str (List.all_eq_true.mp h3 d hd)) hl
        simp [areWords, evSs, evS, evE, evEs, evB, evT, evBT, evOp, evIsa, isaD, truD, andThen, liftE, finD, Lt.d, g1, evLen, evCmp, sT, h1, h2, h3, i1, i2, f]
      | false =>
        simp [areWords, evSs, evS, evE, evEs, evB, evT, evBT, evOp, evIsa, isaD, truD, andThen, liftE, finD, Lt.d, g1, evLen, evCmp, sT, h1, h2, h3, i1, i2]
    · have i2 : ¬ (xs.length : Int) ≤ 6 := by omega
      simp [areWords, evSs, evS, evE, evEs, evB, evT, evBT, evOp, evIsa, isaD, truD, andThen, liftE, finD, Lt.d, g1, evLen, evCmp, h1, h2, i1, i2]
  · have i1 : ¬ (1 : Int) ≤ (xs.length : Int) := by omega
    simp [areWords, evSs, evS, evE, evEs, evB, evT, evBT, evOp, evIsa, isaD, truD, andThen, liftE, finD, Lt.d, g1, evLen, evCmp, h1, i1]
end K01

end
section
set_option maxRecDepth 100000
set_option maxHeartbeats 1000000
namespace K01
open PySem Mp
theorem f10 (k : Nat) (d : D) (h : HP) {r : D} (e : C (k + 1) 3 [d] h = .ok r h) : C (k + 2) 10 [d] h = .ok r h := by
  refine run_of (d := d10) rfl rfl ?_
  simp [d10, b10, startD, evSs, evS, evE, evEs, e, andThen, liftE, finD]
theorem ltS_iff (a b : Str) : ltStr a b = true ↔ a.cps.toList < b.cps.toList := by
  unfold ltStr
  exact decide_eq_true_iff
theorem uniqs_id : ∀ (ys acc : List Str), (acc ++ ys).Nodup → ys.foldl addU acc = acc ++ ys
  | [], acc, _ => by simp
  | y :: ys, acc, n => by
    have hn : y ∉ acc := fun m => by
      have := (List.nodup_append.mp n).2.2 y m y List.mem_cons_self
      exact this rfl
    have e : addU acc y = acc ++ [y] := if_neg hn
    rw [List.foldl_cons, e, uniqs_id ys (acc ++ [y]) (by simpa using n)]
    simp
theorem uniqs_nodup : ∀ (ys acc : List Str), acc.Nodup → (ys.foldl addU acc).Nodup
  | [], acc, n => n
  | y :: ys, acc, n => uniqs_nodup ys _ (addU_nodup y n)
theorem lt_trans' {a b c : Str} (h1 : ltStr a b = true) (h2 : ltStr b c = true) : ltStr a c = true := by
  rw [ltS_iff] at *
  exact List.lt_trans h1 h2
theorem rising_iff : ∀ ys : List Str, rising (ys.map .str) = true ↔ ys.Pairwise (fun a b => ltStr a b = true)
  | [] => ⟨fun _ => List.Pairwise.nil, fun _ => rfl⟩
  | [y] => ⟨fun _ => List.pairwise_singleton _ _, fun _ => rfl⟩
  | y :: z :: ys => by
    have ih := rising_iff (z :: ys)
    have e : rising ((y :: z :: ys).map .str) = (ltStr y z && rising ((z :: ys).map .str)) := rfl
    rw [e, Bool.and_eq_true, ih]
    refine Iff.trans ?_ List.pairwise_cons.symm
    constructor
    · rintro ⟨h1, h2⟩
      refine ⟨fun a ha => ?_, h2⟩
      rcases List.mem_cons.mp ha with e | m
      · rw [e]; exact h1
      · exact lt_trans' h1 ((List.pairwise_cons.mp h2).1 a m)
    · rintro ⟨h1, h2⟩
      exact ⟨h1 z List.mem_cons_self, h2⟩
theorem str_ext {a b : Str} (h : a.cps.toList = b.cps.toList) : a = b := by
  cases a; cases b
  exact congrArg Str.mk (Array.ext' h)
theorem le_of_lt' {a b : Str} (h : ltStr a b = true) : PySem.W.dataLe false PyData.str a b = true := by
  rw [PySem.W.dataLe_str (fun x => x)]
  exact decide_eq_true (Std.le_of_lt ((ltS_iff a b).mp h))
theorem lt_of_le' {a b : Str} (h : PySem.W.dataLe false PyData.str a b = true) (ne : a ≠ b) : ltStr a b = true := by
  rw [PySem.W.dataLe_str (fun x => x)] at h
  rw [ltS_iff]
  have h := of_decide_eq_true h
  refine Std.lt_of_le_of_ne h fun e => ne (str_ext e)
/-- a list of texts is the sorted list of what it holds exactly if it rises -/
theorem sort_iff (ys : List Str) : ys = sortK PyData.str (uniqs ys) ↔ rising (ys.map .str) = true := by
  rw [rising_iff]
  constructor
  · intro e
    have pw : (sortK PyData.str (uniqs ys)).Pairwise fun a b => PySem.W.dataLe false PyData.str a b = true := List.pairwise_mergeSort (fun a b c h1 h2 => by
      rw [PySem.W.dataLe_str (fun x => x)] at h1 h2 ⊢
      exact decide_eq_true (List.le_trans (of_decide_eq_true h1) (of_decide_eq_true h2))) (fun a b => by
      rw [PySem.W.dataLe_str (fun x => x), Bool.or_eq_true]
      exact (List.le_total a.cps.toList b.cps.toList).imp decide_eq_true decide_eq_true) _
    have nd : (sortK PyData.str (uniqs ys)).Nodup := (List.mergeSort_perm _ _).nodup_iff.mpr (uniqs_nodup ys [] List.nodup_nil)
    rw [← e] at pw nd
    exact (pw.and nd).imp fun h => lt_of_le' h.1 h.2
  · intro p
    have nd : ys.Nodup := p.imp fun {a b} h e => by
      rw [e, ltS_iff] at h
      exact List.lt_irrefl _ h
    have e : uniqs ys = ys := by
      have := uniqs_id ys [] (by simpa using nd)
      simpa [uniqs] using this
    rw [e]
    exact (List.mergeSort_of_pairwise (p.imp le_of_lt')).symm
theorem eqv_strs : ∀ (ys zs : List Str), eqvL (ys.map .str) (zs.map .str) = decide (ys = zs)
  | [], [] => rfl
  | [], _ :: _ => rfl
  | _ :: _, [] => rfl
  | y :: ys, z :: zs => by
    show ((y == z) && eqvL (ys.map .str) (zs.map .str)) = _
    rw [eqv_strs ys zs]
    by_cases h : y = z
    · subst h
      simp
    · simp [h]
theorem strsOf_map : ∀ ys : List Str, strsOf (ys.map .str) = some ys
  | [] => rfl
  | y :: ys => by
    show (strsOf (ys.map .str)).map (y :: ·) = _
    rw [strsOf_map ys]
    rfl
theorem strs_list : ∀ {xs : List D}, (∀ d ∈ xs, ∃ x, d = .str x) → ∃ ys : List Str, xs = ys.map .str
  | [], _ => ⟨[], rfl⟩
  | d :: xs, h => by
    obtain ⟨x, e⟩ := h d List.mem_cons_self
    obtain ⟨ys, e2⟩ := strs_list fun d hd => h d (List.mem_cons_of_mem _ hd)
    exact ⟨x :: ys, by rw [e, e2]; rfl⟩
end K01

end
section
set_option maxRecDepth 100000
set_option maxHeartbeats 1000000
namespace K01
open PySem Mp
theorem depL_filter (p : D → Bool) : ∀ xs : List D, depL (xs.filter p) ≤ depL xs
  | [] => Nat.le_refl _
  | x :: xs => by
    have r := depL_filter p xs
    rw [List.filter_cons]
    split
    · show max (D.dep x) (depL (xs.filter p)) ≤ max (D.dep x) (depL xs)
      omega
    · show depL (xs.filter p) ≤ max (D.dep x) (depL xs)
      omega
theorem ok_filter {xs : List D} (p : D → Bool) (h : (D.lst xs).ok = true) : (D.lst (xs.filter p)).ok = true := by
  unfold D.ok at h ⊢
  rw [Bool.and_eq_true, decide_eq_true_eq] at h ⊢
  refine ⟨dataL_filter p xs h.1, ?_⟩
  have h2 : depL xs + 1 ≤ 60 := h.2
  have := depL_filter p xs
  show depL (xs.filter p) + 1 ≤ 60
  omega
theorem f18n (k : Nat) (d : D) (h : HP) (hd : isaD 3 h d = some false) : C (k + 1) 18 [d] h = .ok (.bl false) h := by
  refine run_of (d := d18) rfl rfl ?_
  simp [d18, b18, startD, evSs, evS, evE, evEs, evB, evT, evBT, evOp, evIsa, hd, truD, andThen, liftE, finD, Lt.d]
theorem filt_eqv (p : D → Bool) : ∀ xs : List D, (D.lst (xs.filter fun d => !p d)).eqv (.lst []) = xs.all p
  | [] => rfl
  | y :: ys => by
    rw [List.filter_cons, List.all_cons]
    cases q : p y with
    | false => rfl
    | true => exact filt_eqv p ys
theorem ne_filt (p : D → Bool) {xs : List D} {h : HP} (hok : (D.lst xs).ok = true) : evOp .ne [.lst (xs.filter fun d => !p d), .lst []] h = .ok (.bl (!xs.all p)) h := by
  have e3 : isDat (D.lst (xs.filter fun d => !p d)) (D.lst []) = true := by
    unfold isDat
    rw [ok_filter _ hok]
    rfl
  have d1 : ∀ xs, deref h (D.lst xs) = .lst xs := fun _ => rfl
  simp [evOp, evEq, d1, e3, filt_eqv p xs]
theorem flat_filter (p : D → Bool) : ∀ xs : List D, (xs.flatMap fun d => if p d then [] else [d]) = xs.filter fun d => !p d
  | [] => rfl
  | y :: ys => by
    rw [List.flatMap_cons, flat_filter p ys, List.filter_cons]
    cases p y <;> rfl
theorem mem_fold {z : Str} : ∀ (ys acc : List Str), z ∈ ys.foldl addU acc → z ∈ acc ∨ z ∈ ys
  | [], acc, m => .inl m
  | y :: ys, acc, m => by
    rcases mem_fold ys _ m with h | h
    · unfold addU at h
      split at h
      · exact .inl h
      · rcases List.mem_append.mp h with h | h
        · exact .inl h
        · rw [List.mem_singleton.mp h]
          exact .inr List.mem_cons_self
    · exact .inr (List.mem_cons_of_mem _ h)
theorem mem_uniqs {z : Str} {ys : List Str} (m : z ∈ uniqs ys) : z ∈ ys := (mem_fold ys [] m).resolve_left (by simp)
theorem dataL_strs : ∀ {ys : List Str}, dataL (ys.map .str) = true ↔ ∀ y ∈ ys, PyData.strOk y = true
  | [] => ⟨fun _ _ m => (nomatch m), fun _ => rfl⟩
  | y :: ys => by
    show (PyData.strOk y && dataL (ys.map .str)) = true ↔ _
    rw [Bool.and_eq_true, dataL_strs]
    simp
theorem depL_strs : ∀ ys : List Str, depL (ys.map .str) = 0
  | [] => rfl
  | y :: ys => by
    show max 0 (depL (ys.map .str)) = 0
    rw [depL_strs ys]
    rfl
theorem ok_strs {ys : List Str} (h : ∀ y ∈ ys, PyData.strOk y = true) : (D.lst (ys.map .str)).ok = true := by
  unfold D.ok
  rw [Bool.and_eq_true, decide_eq_true_eq]
  refine ⟨dataL_strs.mpr h, ?_⟩
  show depL (ys.map .str) + 1 ≤ 60
  rw [depL_strs]
  omega
theorem ok_sub {ys zs : List Str} (h : ∀ z ∈ zs, z ∈ ys) (o : (D.lst (ys.map .str)).ok = true) : (D.lst (zs.map .str)).ok = true := by
  unfold D.ok at o
  rw [Bool.and_eq_true] at o
  have a : dataL (ys.map .str) = true := o.1
  exact ok_strs fun z hz => dataL_strs.mp a z (h z hz)
theorem f18t (k : Nat) {h : HP} {xs : List D} (ht : ∀ d ∈ xs, Tst h d) (hok : (D.lst xs).ok = true) (hl : xs.length ≤ line) : C (k + 2) 18 [.tup xs] h = .ok (.bl (areWords (.tup xs))) h := by
  refine run_of (d := d18) rfl rfl ?_
  have hc : evE (C (k + 1)) G.gl (.comp false [1] (.nm 1) (.seq (.loc 0)) (.cons (.op .not (.cons (.call 17 (.cons (.loc 1) .nil)) .nil)) .nil) (.loc 1)) [some (.tup xs), none] h = newL false (xs.flatMap fun d => if isName d then [] else [d]) h := by
    refine comp_of (iv := itemsD (.tup xs)) ?_ (xs := xs) ?_ hl ?_
    · simp [evI, evE, iv1, itemsD, seqOf]
    · simp [itemsD, seqOf]
    · intro d hd acc
      have e := f17 k (ht d hd)
      cases q : isName d <;> rw [q] at e <;> simp [turnD, setTg, wipeD, evTs, evT, evE, evEs, e, q, Rs.noX, truD]
  rw [flat_filter] at hc
  have hn := ne_filt isName (h := h) hok
  have sT : evT (C (k + 1)) G.gl (.op .ne (.cons (.comp false [1] (.nm 1) (.seq (.loc 0)) (.cons (.op .not (.cons (.call 17 (.cons (.loc 1) .nil)) .nil)) .nil) (.loc 1)) (.cons (.lst false .nil) .nil))) [some (.tup xs), none] h = .ok (!xs.all isName) h := by
    rw [evT, evEs, hc]
    · simp [newL, evEs, evE, hn, truD]
    · intro e z
      cases z
  show finD (evSs (C (k + 1)) G.gl b18 [some (.tup xs), none] h) = _
  unfold b18
  generalize (E.op .ne (.cons (.comp false [1] (.nm 1) (.seq (.loc 0)) (.cons (.op .not (.cons (.call 17 (.cons (.loc 1) .nil)) .nil)) .nil) (.loc 1)) (.cons (.lst false .nil) .nil))) = e0 at sT ⊢
  by_cases h1 : 1 ≤ xs.length
  · have i1 : (1 : Int) ≤ (xs.length : Int) := by omega
    by_cases h2 : xs.length ≤ 6
    · have i2 : (xs.length : Int) ≤ 6 := by omega
      cases h3 : xs.all isName with
      | true =>
        obtain ⟨ys, rfl⟩ := strs_list fun d hd => name_str (List.all_eq_true.mp h3 d hd)
        have e1 : evOp (.lstof false) [.tup (ys.map .str)] h = .ok (.lst (ys.map .str)) h := rfl
        have e2 : evOp (.sortset false) [.tup (ys.map .str)] h = .ok (.lst ((sortK PyData.str (uniqs ys)).map .str)) h := by
          have l : (ys.map D.str).length < 4095 := by omega
          simp only [evOp, onQ, seqOf, evSortset]
          rw [if_pos l, strsOf_map]
          rfl
        have okz : (D.lst ((sortK PyData.str (uniqs ys)).map .str)).ok = true := ok_sub (fun z hz => mem_uniqs ((List.mergeSort_perm _ _).mem_iff.mp hz)) hok
        have e3 : evOp .eq [.lst (ys.map .str), .lst ((sortK PyData.str (uniqs ys)).map .str)] h = .ok (.bl (rising (ys.map .str))) h := by
          have d1 : ∀ xs, deref h (D.lst xs) = .lst xs := fun _ => rfl
          have e4 : isDat (D.lst (ys.map .str)) (D.lst ((sortK PyData.str (uniqs ys)).map .str)) = true := by
            unfold isDat
            rw [hok, okz]
            rfl
          have e5 : (D.lst (ys.map .str)).eqv (.lst ((sortK PyData.str (uniqs ys)).map .str)) = rising (ys.map .str) := by
            show eqvL _ _ = _
            rw [eqv_strs, Bool.eq_iff_iff, decide_eq_true_iff]
            exact sort_iff ys
          simp [evOp, evEq, d1, e4, e5]
        have s2 : evS (C (k + 1)) G.gl (.ret (.op .eq (.cons (.op (.lstof false) (.cons (.loc 0) .nil)) (.cons (.op (.sortset false) (.cons (.loc 0) .nil)) .nil)))) [some (.tup (ys.map .str)), none] h = .ok (.rt (.bl (rising (ys.map .str)))) h := by
          simp only [evS, evE, evEs, List.getElem?_cons_zero, bnd_ok, e1, e2, e3, liftE]
        generalize (S.ret (.op .eq (.cons (.op (.lstof false) (.cons (.loc 0) .nil)) (.cons (.op (.sortset false) (.cons (.loc 0) .nil)) .nil)))) = r0 at s2 ⊢
        have h1' : 1 ≤ ys.length := by simpa using h1
        have h2' : ys.length ≤ 6 := by simpa using h2
        have i1' : (1 : Int) ≤ (ys.length : Int) := by omega
        have i2' : (ys.length : Int) ≤ 6 := by omega
        simp [areWords, evSs, evS, evE, evEs, evB, evT, evBT, evOp, evIsa, isaD, truD, andThen, liftE, finD, Lt.d, evLen, evCmp, sT, s2, h1', h2', h3, i1', i2']
      | false =>
        simp [areWords, evSs, evS, evE, evEs, evB, evT, evBT, evOp, evIsa, isaD, truD, andThen, liftE, finD, Lt.d, evLen, evCmp, sT, h1, h2, h3, i1, i2]
    · have i2 : ¬ (xs.length : Int) ≤ 6 := by omega
      simp [areWords, evSs, evS, evE, evEs, evB, evT, evBT, evOp, evIsa, isaD, truD, andThen, liftE, finD, Lt.d, evLen, evCmp, h1, h2, i1, i2]
  · have i1 : ¬ (1 : Int) ≤ (xs.length : Int) := by omega
    simp [areWords, evSs, evS, evE, evEs, evB, evT, evBT, evOp, evIsa, isaD, truD, andThen, liftE, finD, Lt.d, evLen, evCmp, h1, i1]
end K01

end
section
set_option maxRecDepth 100000
set_option maxHeartbeats 1000000
namespace K01
open PySem Mp
/-- the bowl at n: three ints, the counter at most c -/
def Bw (n : Nat) (h : HP) (c : Int) : Prop := ∃ a b e : Int, h[n]? = some (.lst [.int a, .int b, .int e]) ∧ 0 ≤ a ∧ 0 ≤ b ∧ b < 2 ^ 80 ∧ 0 ≤ e ∧ e ≤ c
theorem Bw.mono {n : Nat} {h : HP} {c c' : Int} (b : Bw n h c) (l : c ≤ c') : Bw n h c' := by
  obtain ⟨x, y, z, h1, h2, h3, h4, h5, h6⟩ := b
  exact ⟨x, y, z, h1, h2, h3, h4, h5, by omega⟩
theorem Bw.lt {n : Nat} {h : HP} {c : Int} (b : Bw n h c) : n < h.length := by
  obtain ⟨x, y, z, h1, _⟩ := b
  exact (List.getElem?_eq_some_iff.mp h1).1
theorem Bw.app {n : Nat} {h : HP} {c : Int} (b : Bw n h c) (o : List BO) : Bw n (h ++ o) c := by
  have l := b.lt
  obtain ⟨x, y, z, h1, h2⟩ := b
  exact ⟨x, y, z, by rw [List.getElem?_append_left l]; exact h1, h2⟩
theorem Bw.set {n m : Nat} {h : HP} {c : Int} (b : Bw n h c) (ne : n ≠ m) (o : BO) : Bw n (h.set m o) c := by
  obtain ⟨x, y, z, h1, h2⟩ := b
  exact ⟨x, y, z, by rw [List.getElem?_set_ne (Ne.symm ne)]; exact h1, h2⟩
theorem at0 (a b c : D) : L2.atI [a, b, c] 0 = some a := rfl
theorem at1 (a b c : D) : L2.atI [a, b, c] 1 = some b := rfl
theorem at2 (a b c : D) : L2.atI [a, b, c] 2 = some c := rfl
theorem ix0 : L2.ixN 3 0 = some 0 := rfl
theorem ix2 : L2.ixN 3 2 = some 2 := rfl
theorem f15 (k n : Nat) {h : HP} {c many : Int} (bw : Bw n h c) (hc : c < 2 ^ 40) (hm : 1 ≤ many) (hm2 : many < 2 ^ 20) :
    ∃ r h', C (k + 1) 15 [.box n, .int many] h = .ok (.int r) h' ∧ 0 ≤ r ∧ r < many ∧ Bw n h' (c + 1) := by
  have hn := bw.lt
  obtain ⟨a, b, e, hb, a0, b0, b1, e0, e1⟩ := bw
  have hlog : many.natAbs.log2 < 9000 := log_le (n := 20) (by omega) (by decide)
  have hpos : 0 < many := by omega
  by_cases ha : 0 < a
  · refine ⟨a % many, h.set n (.lst [.int (a / many), .int b, .int e]), run_of (d := d15) rfl rfl ?_, Int.emod_nonneg _ (by omega), Int.emod_lt_of_pos _ hpos, a / many, b, e, by rw [List.getElem?_set_self hn], Int.ediv_nonneg a0 (by omega), b0, b1, e0, by omega⟩
    simp [d15, b15, startD, evSs, evS, evE, evEs, evT, evOp, evIx, seqOf, hb, at0, int2, evCmp, Lt.d, truD, ha, liftE, andThen, setTg, setD2, ix0, finD, hpos, hlog]
  · have key : ∃ r : Int, 0 ≤ r ∧ r < many ∧ finD (evSs (C k) G.gl b15 [some (.box n), some (.int many), none, none, none] h) = .ok (.int r) (h.set n (.lst [.int a, .int b, .int (e + 1)])) := by
      generalize hone : (b + 20964919 * (e + 1)) % 1152921504606846577 = one
      have o0 : 0 ≤ one := by rw [← hone]; exact Int.emod_nonneg _ (by decide)
      have o1 : one < 1152921504606846577 := by rw [← hone]; exact Int.emod_lt_of_pos _ (by decide)
      generalize hq : (one * one + 71) % 1152921504606846697 = q
      have q0 : 0 ≤ q := by rw [← hq]; exact Int.emod_nonneg _ (by decide)
      have q1 : q < 1152921504606846697 := by rw [← hq]; exact Int.emod_lt_of_pos _ (by decide)
      have m1 : (Builtin.Int.intBits 20964919 : Int) + (Builtin.Int.intBits (e + 1) : Int) ≤ 134217728 := by
        have x1 := bits_le (i := 20964919) (n := 64) (by decide)
        have x2 := bits_le (i := e + 1) (n := 64) (by omega)
        omega
      have m2 : (Builtin.Int.intBits one : Int) + (Builtin.Int.intBits one : Int) ≤ 134217728 := by
        have x1 := bits_le (i := one) (n := 64) (by omega)
        omega
      have m3 : (Builtin.Int.intBits q : Int) + (Builtin.Int.intBits one : Int) ≤ 134217728 := by
        have x1 := bits_le (i := one) (n := 64) (by omega)
        have x2 := bits_le (i := q) (n := 64) (by omega)
        omega
      have m4 : (Builtin.Int.intBits 104711 : Int) + (Builtin.Int.intBits (e + 1) : Int) ≤ 134217728 := by
        have x1 := bits_le (i := 104711) (n := 64) (by decide)
        have x2 := bits_le (i := e + 1) (n := 64) (by omega)
        omega
      have l1 : (1152921504606846577 : Int).natAbs.log2 < 9000 := log_le (n := 64) (by decide) (by decide)
      have l2 : (2048 : Int).natAbs.log2 < 9000 := log_le (n := 64) (by decide) (by decide)
      have l3 : Nat.log2 2048 < 9000 := l2
      refine ⟨(q * one + 104711 * (e + 1)) % 1152921504606846869 / 2048 % many, Int.emod_nonneg _ (by omega), Int.emod_lt_of_pos _ hpos, ?_⟩
      have ha' : ¬ 0 < a := ha
      have hs : ∀ x, (h.set n x)[n]? = some x := fun x => List.getElem?_set_self hn
      clear hn
      simp [hs, b15, evSs, evS, evE, evEs, evT, evOp, evIx, seqOf, hb, at0, at1, at2, int2, evCmp, evAdd, evMul, Lt.d, truD, ha', liftE, andThen, setTg, setD2, ix2, finD, hpos, m1, m2, m3, m4, hone, hq, l2, l3]
    obtain ⟨r, r0, r1, e2⟩ := key
    exact ⟨r, _, run_of (d := d15) rfl rfl e2, r0, r1, a, b, e + 1, by rw [List.getElem?_set_self hn], a0, b0, b1, by omega, by omega⟩
theorem alpha_at : ∀ i : Fin 26, L2.atI ("abcdefghijklmnopqrstuvwxyz" : Str).cps.toList ((i.val : Nat) : Int) = some (97 + i.val) := by decide +kernel
/-- a letter is drawn -/
theorem f16 (k n : Nat) {h : HP} {c : Int} (bw : Bw n h c) (hc : c < 2 ^ 40) :
    ∃ s h', C (k + 2) 16 [.box n, .str "abcdefghijklmnopqrstuvwxyz"] h = .ok (.str ⟨#[s]⟩) h' ∧ 97 ≤ s ∧ s ≤ 122 ∧ Bw n h' (c + 1) := by
  obtain ⟨r, h', e, r0, r1, b⟩ := f15 k n (many := 26) bw hc (by decide) (by decide)
  obtain ⟨i, rfl⟩ := Int.eq_ofNat_of_zero_le r0
  have hi : i < 26 := by omega
  refine ⟨97 + i, h', run_of (d := d16) rfl rfl ?_, by omega, by omega, b⟩
  have l1 : evLen [.str "abcdefghijklmnopqrstuvwxyz"] h = .ok (.int 26) h := rfl
  have l2 : evIx [.str "abcdefghijklmnopqrstuvwxyz", .int (i : Int)] h' = .ok (.str ⟨#[97 + i]⟩) h' := by
    have a := alpha_at ⟨i, hi⟩
    have l3 : ("abcdefghijklmnopqrstuvwxyz" : Str).length ≤ line := by decide +kernel
    simp only at a
    simp only [evIx]
    rw [if_pos l3, a]
  have e' : callN prog G.gl (k + 1) 15 [.box n, .int 26] h = .ok (.int i) h' := e
  generalize hA : ("abcdefghijklmnopqrstuvwxyz" : Str) = A at *
  simp [d16, b16, startD, evSs, evS, evE, evEs, evOp, l1, e', l2, liftE, andThen, finD]
/-- a drawn name -/
def Low (x : Str) : Prop := 1 ≤ x.length ∧ x.length ≤ 8 ∧ ∀ c ∈ x.cps.toList, 97 ≤ c ∧ c ≤ 122
theorem f19 (k n : Nat) {h : HP} {c : Int} (bw : Bw n h c) (hc : c + 9 < 2 ^ 40) : ∃ x h', C (k + 3) 19 [.box n] h = .ok (.str x) h' ∧ Low x ∧ Bw n h' (c + 9) := by
  obtain ⟨r, h1, e1, r0, r1, b1⟩ := f15 (k + 1) n (many := 8) bw (by omega) (by decide) (by decide)
  have e1' : callN prog G.gl (k + 2) 15 [.box n, .int 8] h = .ok (.int r) h1 := e1
  obtain ⟨i, rfl⟩ := Int.eq_ofNat_of_zero_le r0
  have hi : i < 8 := by omega
  have hI : evI (C (k + 2)) G.gl (.rng (.cons (.op (.add false) (.cons (.lit (.int 1)) (.cons (.call 15 (.cons (.loc 0) (.cons (.lit (.int 8)) .nil))) .nil))) .nil)) [some (.box n), none] h = .ok (fun _ => some (rngD 0 (i + 1))) h1 := by
    have q1 : (-(2 ^ 62) : Int) ≤ 1 + (i : Int) ∧ 1 + (i : Int) ≤ line := by unfold line; omega
    have q2 : (1 + (i : Int)).toNat = i + 1 := by omega
    have es : evEs (C (k + 2)) G.gl (.cons (.op (.add false) (.cons (.lit (.int 1)) (.cons (.call 15 (.cons (.loc 0) (.cons (.lit (.int 8)) .nil))) .nil))) .nil) [some (.box n), none] h = .ok [.int (1 + i)] h1 := by
      simp [evE, evEs, evOp, evAdd, Lt.d, e1']
    rw [evI, es, bnd_ok]
    simp only [evRng]
    rw [if_pos q1, q2]
  obtain ⟨acc, h2, e2, cs, ea, lc, hcs, b2⟩ := walkL_inv (step := turnD (C (k + 2)) G.gl [1] (.nm 1) .nil (.call 16 (.cons (.loc 0) (.cons (.lit (.str "abcdefghijklmnopqrstuvwxyz")) .nil))) [some (.box n), none]) (iv := fun _ => some (rngD 0 (i + 1))) (xs := rngD 0 (i + 1))
    (fun j acc hh => ∃ cs : List Nat, acc = cs.map (fun s => D.str ⟨#[s]⟩) ∧ cs.length = j ∧ (∀ s ∈ cs, 97 ≤ s ∧ s ≤ 122) ∧ Bw n hh (c + 1 + j)) (fun _ _ _ _ => rfl)
    (fun j d acc hh hd ⟨cs, ea, lc, hcs, b⟩ => by
      have hj : j < i + 1 := by
        have := (List.getElem?_eq_some_iff.mp hd).1
        rwa [len_rngD] at this
      obtain ⟨s, h', e, s1, s2, b'⟩ := f16 k n b (by omega)
      have e' : callN prog G.gl (k + 2) 16 [.box n, .str "abcdefghijklmnopqrstuvwxyz"] hh = .ok (.str ⟨#[s]⟩) h' := e
      refine ⟨acc ++ [.str ⟨#[s]⟩], h', ?_, cs ++ [s], by rw [ea]; simp, by simp [lc], ?_, b'.mono (by push_cast; omega)⟩
      · generalize hA : ("abcdefghijklmnopqrstuvwxyz" : Str) = A at *
        simp [turnD, setTg, wipeD, evTs, evE, evEs, Lt.d, e', Rs.noX]
      · intro t ht
        rcases List.mem_append.mp ht with z | z
        · exact hcs t z
        · rw [List.mem_singleton.mp z]
          exact ⟨s1, s2⟩)
    (i + 1) walkFuel 0 [] h1 (by rw [len_rngD]; rfl) (Nat.zero_le _) (by unfold walkFuel; omega) ⟨[], rfl, rfl, (fun _ z => nomatch z), by simpa using b1⟩
  rw [len_rngD] at lc b2
  refine ⟨PySem.Txt.join Str.empty (cs.map fun s => (⟨#[s]⟩ : Str)), h2, run_of (d := d19) rfl rfl ?_, ?_, b2.mono (by push_cast; omega)⟩
  · have hcomp : evE (C (k + 2)) G.gl (.comp false [1] (.nm 1) (.rng (.cons (.op (.add false) (.cons (.lit (.int 1)) (.cons (.call 15 (.cons (.loc 0) (.cons (.lit (.int 8)) .nil))) .nil))) .nil)) .nil (.call 16 (.cons (.loc 0) (.cons (.lit (.str "abcdefghijklmnopqrstuvwxyz")) .nil)))) [some (.box n), none] h = .ok (.lst acc) h2 := by
      rw [evE, hI, bnd_ok]
      show ((walkL (turnD (C (k + 2)) G.gl [1] (.nm 1) .nil (.call 16 (.cons (.loc 0) (.cons (.lit (.str "abcdefghijklmnopqrstuvwxyz")) .nil))) [some (.box n), none]) _ walkFuel 0 [] h1).bnd fun acc h => newL false acc h) = _
      rw [e2]
      rfl
    have ej : evJoin [.str Str.empty, .lst acc] h2 = .ok (.str (PySem.Txt.join Str.empty (cs.map fun s => (⟨#[s]⟩ : Str)))) h2 := by
      have em : acc = (cs.map fun s => (⟨#[s]⟩ : Str)).map D.str := by rw [ea, List.map_map]; rfl
      have es := strsOf_map (cs.map fun s => (⟨#[s]⟩ : Str))
      rw [← em] at es
      unfold evJoin
      simp only [seqOf, es]
      rw [if_pos ?_]
      have sm : (((cs.map fun s => (⟨#[s]⟩ : Str))).map (·.length)).sum = cs.length := by
        rw [List.map_map]
        clear es em ea e2 hcs b2 lc
        induction cs with
        | nil => rfl
        | cons c cs ih =>
          rw [List.map_cons, List.sum_cons, ih]
          show 1 + cs.length = cs.length + 1
          omega
      rw [sm, List.length_map, lc]
      show i + 1 + (i + 1) * 0 ≤ 16777216
      omega
    show finD (evSs (C (k + 2)) G.gl b19 [some (.box n), none] h) = _
    unfold b19
    generalize (E.comp false [1] (.nm 1) (.rng (.cons (.op (.add false) (.cons (.lit (.int 1)) (.cons (.call 15 (.cons (.loc 0) (.cons (.lit (.int 8)) .nil))) .nil))) .nil)) .nil (.call 16 (.cons (.loc 0) (.cons (.lit (.str "abcdefghijklmnopqrstuvwxyz")) .nil)))) = e0 at hcomp ⊢
    have e3 : ("" : Str) = Str.empty := rfl
    simp [evSs, evS, evE, evEs, evOp, Lt.d, hcomp, e3, ej, recvOk, recvT, mtId, liftE, andThen, finD]
  · have jl := join_signs cs
    refine ⟨?_, ?_, ?_⟩
    · rw [len_cps, jl, lc]; omega
    · rw [len_cps, jl, lc]; omega
    · rw [jl]; exact hcs
end K01

end
section
set_option maxRecDepth 100000
set_option maxHeartbeats 1000000
namespace K01
open PySem Mp
theorem inL_ok : ∀ i : Fin 26, inL (97 + i.val) = true := by decide +kernel
theorem low_name {x : Str} (h : Low x) : isName (.str x) = true := by
  obtain ⟨h1, h2, h3⟩ := h
  show (decide (1 ≤ x.length) && decide (x.length ≤ 8) && x.cps.toList.all inL) = true
  rw [decide_eq_true h1, decide_eq_true h2, Bool.true_and, Bool.true_and, List.all_eq_true]
  intro c hc
  obtain ⟨l1, l2⟩ := h3 c hc
  have := inL_ok ⟨c - 97, by omega⟩
  have e : 97 + (c - 97) = c := by omega
  rwa [e] at this
theorem low_ok {x : Str} (h : Low x) : PyData.strOk x = true := strOk_of fun c hc => by
  have := h.2.2 c hc
  omega
theorem tst_str {h : HP} {x : Str} (l : x.length ≤ line) (o : PyData.strOk x = true) : Tst h (.str x) := .inr ⟨x, rfl, l, data_signs o⟩
theorem low_tst {h : HP} {x : Str} (l : Low x) : Tst h (.str x) := tst_str (Nat.le_trans l.2.1 (by decide)) (low_ok l)
/-- words that are right -/
structure GW (ws : List Str) : Prop where
  l1 : 1 ≤ ws.length
  l6 : ws.length ≤ 6
  low : ∀ w ∈ ws, Low w
  up : rising (ws.map .str) = true
theorem GW.words {ws : List Str} (g : GW ws) : areWords (.tup (ws.map .str)) = true := by
  show (decide (1 ≤ (ws.map D.str).length) && decide ((ws.map D.str).length ≤ 6) && (ws.map D.str).all isName && rising (ws.map .str)) = true
  rw [List.length_map, decide_eq_true g.l1, decide_eq_true g.l6, g.up]
  simp only [Bool.true_and, Bool.and_true, List.all_map, List.all_eq_true]
  exact fun w hw => low_name (g.low w hw)
theorem GW.nodup {ws : List Str} (g : GW ws) : ws.Nodup := ((rising_iff ws).mp g.up).imp fun {a b} h e => by
  rw [e, ltS_iff] at h
  exact List.lt_irrefl _ h
theorem GW.tst {ws : List Str} (g : GW ws) {h : HP} : ∀ d ∈ ws.map D.str, Tst h d := fun d hd => by
  obtain ⟨w, hw, rfl⟩ := List.mem_map.mp hd
  exact low_tst (g.low w hw)
theorem GW.ok {ws : List Str} (g : GW ws) : (D.lst (ws.map .str)).ok = true := ok_strs fun w hw => low_ok (g.low w hw)
theorem f8 (k : Nat) {h : HP} {ws : List Str} (g : GW ws) : C (k + 3) 8 [.tup (ws.map .str)] h = .ok .non h := by
  have e := f3t k (h := h) g.tst (by rw [List.length_map]; exact Nat.le_trans g.l6 (by decide))
  rw [g.words] at e
  have e' : callN prog G.gl (k + 2) 3 [.tup (ws.map .str)] h = .ok (.bl true) h := e
  refine run_of (d := d8) rfl rfl ?_
  simp [d8, b8, startD, evSs, evS, evT, evE, evEs, e', truD, liftE, andThen, finD]
theorem f1t (k : Nat) {h : HP} {v lo hi : Int} (hw : isWhole v = true) (h1 : lo ≤ v) (h2 : v ≤ hi) : C (k + 2) 1 [.int v, .int lo, .int hi] h = .ok (.bl true) h := by
  have e := f0 k v h
  rw [hw] at e
  have e' : callN prog G.gl (k + 1) 0 [.int v] h = .ok (.bl true) h := e
  refine run_of (d := d1) rfl rfl ?_
  simp [d1, b1, startD, evSs, evS, evE, evEs, evB, evOp, evCmp, e', truD, liftE, andThen, finD, h1, h2]
theorem whole_small {v : Int} (h1 : -1000 ≤ v) (h2 : v ≤ 1000) : isWhole v = true := by
  unfold isWhole
  rw [Bool.and_eq_true]
  exact ⟨decide_eq_true (by omega), decide_eq_true (by omega)⟩
/-- the role with a place -/
def wAt (ws : List Str) (n : Nat) : Str := ws.getD (n % ws.length) Str.empty
def roleD (ws : List Str) (n : Nat) : D := .tup [.int ((n / ws.length : Nat) : Int), .str (wAt ws n)]
theorem wAt_mem {ws : List Str} (g : GW ws) (n : Nat) : wAt ws n ∈ ws := by
  have h : n % ws.length < ws.length := Nat.mod_lt _ g.l1
  unfold wAt
  rw [List.getD_eq_getElem?_getD, List.getElem?_eq_getElem h]
  exact List.getElem_mem h
theorem atI_ok {xs : List D} {n : Nat} {d : D} (h : xs[n]? = some d) : L2.atI xs (n : Int) = some d := L2.atI_nat h
theorem f5 (k : Nat) {h : HP} {ws : List Str} (g : GW ws) (n : Nat) : C (k + 1) 5 [.tup (ws.map .str), .int n] h = .ok (roleD ws n) h := by
  have hl := g.l1
  have hlt : n % ws.length < ws.length := Nat.mod_lt _ g.l1
  have c1 : (0 : Int) < (ws.length : Int) ∧ (ws.length : Int).natAbs.log2 < 9000 := ⟨by omega, log_le (n := 20) (by have := g.l6; omega) (by decide)⟩
  have c2 : (0 : Int) < (ws.length : Int) := by omega
  have e1 : ((n : Int) % (ws.length : Int)) = ((n % ws.length : Nat) : Int) := by push_cast; rfl
  have e2 : ((n : Int) / (ws.length : Int)) = ((n / ws.length : Nat) : Int) := by push_cast; rfl
  have e3 : L2.atI (ws.map D.str) ((n % ws.length : Nat) : Int) = some (.str (wAt ws n)) := atI_ok (by
    rw [List.getElem?_map, List.getElem?_eq_getElem hlt]
    unfold wAt
    rw [List.getD_eq_getElem?_getD, List.getElem?_eq_getElem hlt]
    rfl)
  have i1 : evOp .fdiv [.int n, .int ws.length] h = .ok (.int ((n / ws.length : Nat) : Int)) h := by
    simp only [evOp, int2]
    rw [if_pos c1, e2]
  have i2 : evOp .mod [.int n, .int ws.length] h = .ok (.int ((n % ws.length : Nat) : Int)) h := by
    simp only [evOp, int2]
    rw [if_pos c2, e1]
  have i3 : evOp .len [.tup (ws.map .str)] h = .ok (.int ws.length) h := by
    simp only [evOp, evLen, List.length_map]
  have i4 : evOp .ix [.tup (ws.map .str), .int ((n % ws.length : Nat) : Int)] h = .ok (.str (wAt ws n)) h := by
    simp only [evOp, evIx, seqOf, e3]
  refine run_of (d := d5) rfl rfl ?_
  simp only [d5, b5, startD, evSs, evS, evE, evEs, List.map, List.length, List.replicate, List.cons_append, List.nil_append, List.append_nil, List.getElem?_cons_zero, List.getElem?_cons_succ, Nat.sub_self, bnd_ok, i1, i2, i3, i4, liftE, andThen, finD]
  rfl
theorem findEq_idx : ∀ (ws : List Str) (i : Nat) (hi : i < ws.length), ws.Nodup → findEq (.str ws[i]) (ws.map .str) = some i
  | [], i, hi, _ => absurd hi (Nat.not_lt_zero _)
  | w :: ws, 0, _, _ => by
    show (if (w == w) = true then some 0 else _) = _
    simp
  | w :: ws, i + 1, hi, nd => by
    have nd := List.nodup_cons.mp nd
    have hi' : i < ws.length := Nat.lt_of_succ_lt_succ hi
    have ne : (w == ws[i]) = false := by
      rw [beq_eq_false_iff_ne]
      exact fun e => nd.1 (e ▸ List.getElem_mem _)
    show (if (w == ws[i]) = true then some 0 else (findEq (.str ws[i]) (ws.map .str)).map (· + 1)) = _
    rw [ne, findEq_idx ws i hi' nd.2]
    rfl
theorem str_ok1 {x : Str} (h : PyData.strOk x = true) : (D.str x).ok = true := by
  unfold D.ok
  rw [Bool.and_eq_true]
  exact ⟨h, rfl⟩
theorem f4 (k : Nat) {h : HP} {ws : List Str} (g : GW ws) (n : Nat) (hn : n < 1000) : C (k + 1) 4 [.tup (ws.map .str), roleD ws n] h = .ok (.int n) h := by
  have hlt : n % ws.length < ws.length := Nat.mod_lt _ g.l1
  have hl6 := g.l6
  have eW : wAt ws n = ws[n % ws.length] := by
    unfold wAt
    rw [List.getD_eq_getElem?_getD, List.getElem?_eq_getElem hlt]
    rfl
  have i3 : evOp .len [.tup (ws.map .str)] h = .ok (.int ws.length) h := by
    simp only [evOp, evLen, List.length_map]
  have r0 : evOp .ix [roleD ws n, .int 0] h = .ok (.int ((n / ws.length : Nat) : Int)) h := rfl
  have r1 : evOp .ix [roleD ws n, .int 1] h = .ok (.str (wAt ws n)) h := rfl
  have dl : n / ws.length ≤ n := Nat.div_le_self _ _
  have m1 : evOp .mul [.int ((n / ws.length : Nat) : Int), .int ws.length] h = .ok (.int (((n / ws.length : Nat) : Int) * ws.length)) h := by
    simp only [evOp, evMul]
    rw [if_pos]
    generalize n / ws.length = dv at dl ⊢
    have x1 := bits_le (i := (dv : Int)) (n := 64) (by omega)
    have x2 := bits_le (i := (ws.length : Int)) (n := 64) (by omega)
    omega
  have ix : evOp .index [.tup (ws.map .str), .str (wAt ws n)] h = .ok (.int ((n % ws.length : Nat) : Int)) h := by
    simp only [evOp, evIndex, seqOf]
    rw [str_ok1 (low_ok (g.low _ (wAt_mem g n))), g.ok, eW, findEq_idx ws _ hlt g.nodup]
    rfl
  have ro : recvOk .index (.tup (ws.map .str)) h = true := rfl
  have ad : evOp (.add false) [.int (((n / ws.length : Nat) : Int) * ws.length), .int ((n % ws.length : Nat) : Int)] h = .ok (.int n) h := by
    have e : ((n / ws.length : Nat) : Int) * ws.length + ((n % ws.length : Nat) : Int) = n := by
      have := Nat.div_add_mod n ws.length
      rw [Nat.mul_comm] at this
      rw [← Int.natCast_mul, ← Int.natCast_add, this]
    simp only [evOp, evAdd, e]
  refine run_of (d := d4) rfl rfl ?_
  generalize hR : roleD ws n = R at *
  simp only [d4, b4, startD, evSs, evS, evE, evEs, Lt.d, List.map, List.length, List.replicate, List.cons_append, List.nil_append, List.append_nil, List.getElem?_cons_zero, List.getElem?_cons_succ, Nat.sub_self, bnd_ok, r0, r1, i3, m1, ix, ro, if_true, ad, liftE, andThen, finD]
theorem anyEq_mem {x : Str} {ws : List Str} (h : x ∈ ws) : anyEq (.str x) (ws.map .str) = true := by
  unfold anyEq
  rw [List.any_map, List.any_eq_true]
  exact ⟨x, h, by show (x == x) = true; simp⟩
theorem f6 (k : Nat) {h : HP} {ws : List Str} (g : GW ws) (n : Nat) (hn : n < 13 * ws.length) : C (k + 3) 6 [.int 13, .tup (ws.map .str), roleD ws n] h = .ok (.bl true) h := by
  have hl6 := g.l6
  have dlt : n / ws.length < 13 := (Nat.div_lt_iff_lt_mul g.l1).mpr hn
  have e1 : callN prog G.gl (k + 2) 1 [.int ((n / ws.length : Nat) : Int), .int 0, .int 12] h = .ok (.bl true) h := by
    generalize n / ws.length = dv at dlt
    exact f1t k (whole_small (by omega) (by omega)) (by omega) (by omega)
  have i1 : evOp (.isa 3) [roleD ws n] h = .ok (.bl true) h := rfl
  have i2 : evOp .len [roleD ws n] h = .ok (.int 2) h := rfl
  have i3 : evOp .ne [.int 2, .int 2] h = .ok (.bl false) h := ne_self (d := .int 2) rfl h
  have r0 : evOp .ix [roleD ws n, .int 0] h = .ok (.int ((n / ws.length : Nat) : Int)) h := rfl
  have r1 : evOp .ix [roleD ws n, .int 1] h = .ok (.str (wAt ws n)) h := rfl
  have s1 : evOp .sub [.int 13, .int 1] h = .ok (.int 12) h := rfl
  have i4 : evOp (.isa 2) [.str (wAt ws n)] h = .ok (.bl true) h := rfl
  have i5 : evOp .isin [.str (wAt ws n), .tup (ws.map .str)] h = .ok (.bl true) h := by
    have a := anyEq_mem (wAt_mem g n)
    have o : isDat (.str (wAt ws n)) (.lst (ws.map .str)) = true := by
      unfold isDat
      rw [str_ok1 (low_ok (g.low _ (wAt_mem g n))), g.ok]
      rfl
    simp only [evOp, evIn, seqOf]
    rw [if_pos o, a]
    rfl
  refine run_of (d := d6) rfl rfl ?_
  have lt : ∀ (v : Lt) (env : Mp.Env), evE (C (k + 2)) G.gl (.lit v) env h = .ok v.d h := fun v env => e_lit v
  have body : evSs (C (k + 2)) G.gl b6 [some (.int 13), some (.tup (ws.map .str)), some (roleD ws n)] h = .ok (.rt (.bl true)) h := by
    unfold b6
    refine ss_next (s_ifF (t_bop (bt_next (t_notT (t_op (by decide) (es_one (e_loc rfl)) i1 rfl)) (bt_next (t_op (by decide) (es_cons (e_op (es_one (e_loc rfl)) i2) (es_one (lt _ _))) i3 rfl) (bt_next (t_notT (t_call (es_cons (e_op (es_cons (e_loc rfl) (es_one (lt _ _))) r0) (es_cons (lt _ _) (es_one (e_op (es_cons (e_loc rfl) (es_one (lt _ _))) s1)))) e1 rfl)) bt_nil))))) ?_
    exact ss_out (e_bop (b_next (e_op (es_one (e_op (es_cons (e_loc rfl) (es_one (lt _ _))) r1)) i4) rfl (b_one (e_op (es_cons (e_op (es_cons (e_loc rfl) (es_one (lt _ _))) r1) (es_one (e_loc rfl))) i5))))
  show finD (evSs (C (k + 2)) G.gl b6 _ h) = _
  erw [body]
  rfl
theorem f11 (k : Nat) {h : HP} {ws : List Str} (g : GW ws) (n : Nat) (hn : n < 13 * ws.length) : C (k + 4) 11 [.tup (ws.map .str), roleD ws n] h = .ok (.int n) h := by
  have hl6 := g.l6
  have e1 : callN prog G.gl (k + 3) 8 [.tup (ws.map .str)] h = .ok .non h := f8 k g
  have e2 : callN prog G.gl (k + 3) 6 [.int 13, .tup (ws.map .str), roleD ws n] h = .ok (.bl true) h := f6 k g n hn
  have e3 : callN prog G.gl (k + 3) 4 [.tup (ws.map .str), roleD ws n] h = .ok (.int n) h := f4 (k + 2) g n (by omega)
  have g4 : G.gl 4 = .int 13 := rfl
  refine run_of (d := d11) rfl rfl ?_
  have gl : ∀ (env : Mp.Env), evE (C (k + 3)) G.gl (.glo 4) env h = .ok (.int 13) h := fun env => e_glo 4
  have body : evSs (C (k + 3)) G.gl b11 [some (.tup (ws.map .str)), some (roleD ws n)] h = .ok (.rt (.int n)) h := by
    unfold b11
    refine ss_next (s_ex (e_call (es_one (e_loc rfl)) e1)) (ss_next (s_ifF (t_notT (t_call (es_cons (gl _) (es_cons (e_loc rfl) (es_one (e_loc rfl)))) e2 rfl))) ?_)
    exact ss_out (e_call (es_cons (e_loc rfl) (es_one (e_loc rfl))) e3)
  show finD (evSs (C (k + 3)) G.gl b11 _ h) = _
  erw [body]
  rfl
theorem f12 (k : Nat) {h : HP} {ws : List Str} (g : GW ws) (n : Nat) (hn : n < 13 * ws.length) : C (k + 4) 12 [.tup (ws.map .str), .int n] h = .ok (roleD ws n) h := by
  have hl6 := g.l6
  have e1 : callN prog G.gl (k + 3) 8 [.tup (ws.map .str)] h = .ok .non h := f8 k g
  have e2 : callN prog G.gl (k + 3) 1 [.int n, .int 0, .int (13 * ws.length - 1)] h = .ok (.bl true) h := f1t (k + 1) (whole_small (by omega) (by omega)) (by omega) (by omega)
  have e3 : callN prog G.gl (k + 3) 5 [.tup (ws.map .str), .int n] h = .ok (roleD ws n) h := f5 (k + 2) g n
  have g4 : G.gl 4 = .int 13 := rfl
  have i3 : evOp .len [.tup (ws.map .str)] h = .ok (.int ws.length) h := by
    simp only [evOp, evLen, List.length_map]
  have m1 : evOp .mul [.int 13, .int ws.length] h = .ok (.int (13 * ws.length)) h := by
    simp only [evOp, evMul]
    rw [if_pos]
    have x1 := bits_le (i := 13) (n := 64) (by decide)
    have x2 := bits_le (i := (ws.length : Int)) (n := 64) (by omega)
    omega
  have s1 : evOp .sub [.int (13 * ws.length), .int 1] h = .ok (.int (13 * ws.length - 1)) h := rfl
  refine run_of (d := d12) rfl rfl ?_
  have gl : ∀ (env : Mp.Env), evE (C (k + 3)) G.gl (.glo 4) env h = .ok (.int 13) h := fun env => e_glo 4
  have lt : ∀ (v : Lt) (env : Mp.Env), evE (C (k + 3)) G.gl (.lit v) env h = .ok v.d h := fun v env => e_lit v
  have body : evSs (C (k + 3)) G.gl b12 [some (.tup (ws.map .str)), some (.int n)] h = .ok (.rt (roleD ws n)) h := by
    unfold b12
    refine ss_next (s_ex (e_call (es_one (e_loc rfl)) e1)) (ss_next (s_ifF (t_notT (t_call (es_cons (e_loc rfl) (es_cons (lt _ _) (es_one (e_op (es_cons (e_op (es_cons (gl _) (es_one (e_op (es_one (e_loc rfl)) i3))) m1) (es_one (lt _ _))) s1)))) e2 rfl))) ?_)
    exact ss_out (e_call (es_cons (e_loc rfl) (es_one (e_loc rfl))) e3)
  show finD (evSs (C (k + 3)) G.gl b12 _ h) = _
  erw [body]
  rfl
/-- all roles -/
def rolesD (ws : List Str) (size : Nat) : List D := (List.range (size * ws.length)).map (roleD ws)
theorem f7 (k : Nat) {h : HP} {ws : List Str} (g : GW ws) (size : Nat) (hs : size ≤ 13) : C (k + 2) 7 [.int size, .tup (ws.map .str)] h = .ok (.lst (rolesD ws size)) h := by
  have hl6 := g.l6
  have hm : size * ws.length ≤ 78 := Nat.mul_le_mul hs hl6
  have i3 : evOp .len [.tup (ws.map .str)] h = .ok (.int ws.length) h := by
    simp only [evOp, evLen, List.length_map]
  have m1 : evOp .mul [.int size, .int ws.length] h = .ok (.int ((size * ws.length : Nat) : Int)) h := by
    simp only [evOp, evMul]
    rw [if_pos]
    · push_cast; rfl
    have x1 := bits_le (i := (size : Int)) (n := 64) (by omega)
    have x2 := bits_le (i := (ws.length : Int)) (n := 64) (by omega)
    omega
  have hc : evE (C (k + 1)) G.gl (.comp false [2] (.nm 2) (.rng (.cons (.op .mul (.cons (.loc 0) (.cons (.op .len (.cons (.loc 1) .nil)) .nil))) .nil)) .nil (.call 5 (.cons (.loc 1) (.cons (.loc 2) .nil)))) [some (.int size), some (.tup (ws.map .str)), none] h = newL false ((rngD 0 (size * ws.length)).flatMap fun d => [match d with | .int i => roleD ws i.toNat | _ => .non]) h := by
    refine comp_of (iv := fun _ => some (rngD 0 (size * ws.length))) ?_ (xs := rngD 0 (size * ws.length)) rfl ?_ ?_
    · have q1 : (-(2 ^ 62) : Int) ≤ ((size * ws.length : Nat) : Int) ∧ ((size * ws.length : Nat) : Int) ≤ line := by unfold line; omega
      rw [evI]
      simp only [evEs, evE, List.getElem?_cons_zero, List.getElem?_cons_succ, bnd_ok, i3, m1, evRng]
      rw [if_pos q1, Int.toNat_natCast]
    · rw [len_rngD]
      unfold line
      omega
    · intro d hd acc
      obtain ⟨i, hi, rfl⟩ := mem_rngD hd
      have e : callN prog G.gl (k + 1) 5 [.tup (ws.map .str), .int ((0 : Int) + i)] h = .ok (roleD ws i) h := by
        rw [Int.zero_add]
        exact f5 k g i
      have e2 : ((0 : Int) + (i : Int)).toNat = i := by omega
      simp only [turnD, setTg, wipeD, evTs, evE, evEs, List.set, List.getElem?_cons_zero, List.getElem?_cons_succ, bnd_ok, e, Rs.noX, e2]
  have hf : ((rngD 0 (size * ws.length)).flatMap fun d => [match d with | .int i => roleD ws i.toNat | _ => .non]) = rolesD ws size := by
    rw [rngD_map, List.flatMap_map]
    unfold rolesD
    generalize List.range (size * ws.length) = ns
    induction ns with
    | nil => rfl
    | cons n ns ih =>
      rw [List.flatMap_cons, List.map_cons, ih]
      show [roleD ws ((0 : Int) + (n : Int)).toNat] ++ _ = _
      have e2 : ((0 : Int) + (n : Int)).toNat = n := by omega
      rw [e2]
      rfl
  rw [hf] at hc
  refine run_of (d := d7) rfl rfl ?_
  show finD (evSs (C (k + 1)) G.gl b7 [some (.int size), some (.tup (ws.map .str)), none] h) = _
  unfold b7
  rw [evSs, evS, hc]
  rfl
theorem f13 (k : Nat) {h : HP} {ws : List Str} (g : GW ws) (size : Nat) (h1 : 1 ≤ size) (hs : size ≤ 13) : C (k + 4) 13 [.int size, .tup (ws.map .str)] h = .ok (.tup (rolesD ws size)) h := by
  have e1 : callN prog G.gl (k + 3) 8 [.tup (ws.map .str)] h = .ok .non h := f8 k g
  have e2 : callN prog G.gl (k + 3) 1 [.int size, .int 1, .int 13] h = .ok (.bl true) h := f1t (k + 1) (whole_small (by omega) (by omega)) (by omega) (by omega)
  have e3 : callN prog G.gl (k + 3) 7 [.int size, .tup (ws.map .str)] h = .ok (.lst (rolesD ws size)) h := f7 (k + 1) g size hs
  have g4 : G.gl 4 = .int 13 := rfl
  have t1 : evOp .tupof [.lst (rolesD ws size)] h = .ok (.tup (rolesD ws size)) h := rfl
  refine run_of (d := d13) rfl rfl ?_
  have gl : ∀ (env : Mp.Env), evE (C (k + 3)) G.gl (.glo 4) env h = .ok (.int 13) h := fun env => e_glo 4
  have lt : ∀ (v : Lt) (env : Mp.Env), evE (C (k + 3)) G.gl (.lit v) env h = .ok v.d h := fun v env => e_lit v
  have body : evSs (C (k + 3)) G.gl b13 [some (.int size), some (.tup (ws.map .str))] h = .ok (.rt (.tup (rolesD ws size))) h := by
    unfold b13
    refine ss_next (s_ifF (t_notT (t_call (es_cons (e_loc rfl) (es_cons (lt _ _) (es_one (gl _)))) e2 rfl))) (ss_next (s_ex (e_call (es_one (e_loc rfl)) e1)) ?_)
    exact ss_out (e_op (es_one (e_call (es_cons (e_loc rfl) (es_one (e_loc rfl))) e3)) t1)
  show finD (evSs (C (k + 3)) G.gl b13 _ h) = _
  erw [body]
  rfl
end K01

end
section
set_option maxRecDepth 100000
set_option maxHeartbeats 1000000
namespace K01
open PySem Mp
theorem rising_sort (ys : List Str) : rising ((sortK PyData.str (uniqs ys)).map .str) = true := by
  rw [rising_iff]
  have pw : (sortK PyData.str (uniqs ys)).Pairwise fun a b => PySem.W.dataLe false PyData.str a b = true := List.pairwise_mergeSort (fun a b c h1 h2 => by
    rw [PySem.W.dataLe_str (fun x => x)] at h1 h2 ⊢
    exact decide_eq_true (List.le_trans (of_decide_eq_true h1) (of_decide_eq_true h2))) (fun a b => by
    rw [PySem.W.dataLe_str (fun x => x), Bool.or_eq_true]
    exact (List.le_total a.cps.toList b.cps.toList).imp decide_eq_true decide_eq_true) _
  have nd : (sortK PyData.str (uniqs ys)).Nodup := (List.mergeSort_perm _ _).nodup_iff.mpr (uniqs_nodup ys [] List.nodup_nil)
  exact (pw.and nd).imp fun h => lt_of_le' h.1 h.2
theorem len_fold : ∀ (ys acc : List Str), (ys.foldl addU acc).length ≤ acc.length + ys.length ∧ acc.length ≤ (ys.foldl addU acc).length
  | [], acc => ⟨Nat.le_refl _, Nat.le_refl _⟩
  | y :: ys, acc => by
    have ih := len_fold ys (addU acc y)
    have l : (addU acc y).length ≤ acc.length + 1 ∧ acc.length ≤ (addU acc y).length := by
      unfold addU
      split
      · exact ⟨Nat.le_succ _, Nat.le_refl _⟩
      · rw [List.length_append]
        exact ⟨Nat.le_refl _, Nat.le_add_right _ _⟩
    rw [List.foldl_cons, List.length_cons]
    omega
theorem mem_sort {z : Str} {ys : List Str} (m : z ∈ sortK PyData.str (uniqs ys)) : z ∈ ys := mem_uniqs ((List.mergeSort_perm _ _).mem_iff.mp m)
theorem len_sort (ys : List Str) : (sortK PyData.str (uniqs ys)).length = (uniqs ys).length := (List.mergeSort_perm _ _).length_eq
theorem gw_sort {ys : List Str} (h1 : 1 ≤ ys.length) (h6 : ys.length ≤ 6) (hl : ∀ y ∈ ys, Low y) : GW (sortK PyData.str (uniqs ys)) where
  l1 := by
    rw [len_sort]
    cases ys with
    | nil => exact absurd h1 (by decide)
    | cons y ys =>
      have := (len_fold ys (addU [] y)).2
      show 1 ≤ (ys.foldl addU (addU [] y)).length
      have e : (addU ([] : List Str) y).length = 1 := rfl
      omega
  l6 := by
    rw [len_sort]
    have := (len_fold ys []).1
    show (ys.foldl addU []).length ≤ 6
    simp at this
    omega
  low := fun w hw => hl w (mem_sort hw)
  up := rising_sort ys
theorem sortset_ok {ys : List Str} (l : ys.length < 4095) (h : HP) : evOp (.sortset false) [.lst (ys.map .str)] h = .ok (.lst ((sortK PyData.str (uniqs ys)).map .str)) h := by
  simp only [evOp, onQ, seqOf, evSortset]
  rw [if_pos (by rw [List.length_map]; exact l), strsOf_map]
  rfl
/-- a value that is asked whether it is words -/
def WT (h : HP) (d : D) : Prop := isaD 3 h d = some false ∨ ∃ xs, d = .tup xs ∧ (∀ e ∈ xs, Tst h e) ∧ (D.lst xs).ok = true ∧ xs.length ≤ line
theorem notup {h : HP} {d : D} (t : isaD 3 h d = some false) : areWords d = false := by
  cases d <;> first | rfl | exact absurd (show some true = some false from t) (by decide)
theorem f10w (k : Nat) {h : HP} {d : D} (t : WT h d) : C (k + 3) 10 [d] h = .ok (.bl (areWords d)) h := by
  rcases t with t | ⟨xs, rfl, h1, h2, h3⟩
  · rw [notup t]
    exact f10 (k + 1) d h (f3n (k + 1) d h t)
  · exact f10 (k + 1) _ h (f3t k h1 h3)
theorem f18w (k : Nat) {h : HP} {d : D} (t : WT h d) : C (k + 2) 18 [d] h = .ok (.bl (areWords d)) h := by
  rcases t with t | ⟨xs, rfl, h1, h2, h3⟩
  · rw [notup t]
    exact f18n (k + 1) d h t
  · exact f18t k h1 h2 h3
theorem wt_strs {h : HP} {ys : List Str} (l : ys.length ≤ 20) (o : ∀ y ∈ ys, y.length ≤ line ∧ PyData.strOk y = true) : WT h (.tup (ys.map .str)) :=
  .inr ⟨_, rfl, fun e he => by
    obtain ⟨y, hy, rfl⟩ := List.mem_map.mp he
    exact tst_str (o y hy).1 (o y hy).2, ok_strs fun y hy => (o y hy).2, by rw [List.length_map]; unfold line; omega⟩
theorem low_lo {x : Str} (l : Low x) : x.length ≤ line ∧ PyData.strOk x = true := ⟨Nat.le_trans l.2.1 (by decide), low_ok l⟩
section
variable {cf : Fns} {gl : Nat → D} {env : Mp.Env} {h h1 h2 : HP}
theorem comp_call {i j f : Nat} {s : D} {xs : List D} {g : D → D} (e1 : env[i]? = some (some s)) (e2 : itemsD s h = some xs) (hj : j < env.length) (hl : xs.length ≤ line) (hf : ∀ d ∈ xs, cf f [d] h = .ok (g d) h) :
    evE cf gl (.comp false [j] (.nm j) (.seq (.loc i)) .nil (.call f (.cons (.loc j) .nil))) env h = .ok (.lst (xs.map g)) h := by
  have q := comp_of (cf := cf) (gl := gl) (b := false) (own := [j]) (t := .nm j) (it := .seq (.loc i)) (ifs := .nil) (elt := .call f (.cons (.loc j) .nil)) (env := env) (h := h) (iv := itemsD s) (xs := xs) (g := fun d => [g d]) (by
    rw [evI, evE, e1]
    simp only [bnd_ok, iv1, e2, Option.isSome_some, if_true]) e2 hl (fun d hd acc => by
    have e3 : ((env.set j none).set j (some d))[j]? = some (some d) := List.getElem?_set_self (by rw [List.length_set]; exact hj)
    simp only [turnD, setTg, wipeD, evTs, evE, evEs, e3, bnd_ok, hf d hd, Rs.noX])
  rw [q]
  show Rs.ok (D.lst _) h = _
  rw [List.map_eq_flatMap]
theorem e_meth {o : Op} {a : E} {es : Es} {x : D} {ds : List D} {r : Rs D} (p : evE cf gl a env h = .ok x h1) (q : recvOk o x h1 = true) (p2 : evEs cf gl es env h1 = .ok ds h2) (q2 : evOp o (x :: ds) h2 = r) : evE cf gl (.meth o a es) env h = r := by
  rw [evE, p, bnd_ok, if_pos q, p2]
  exact q2
theorem t_or2 {a b : E} (p : evT cf gl a env h = .ok false h1) (q : evT cf gl b env h1 = .ok false h2) : evT cf gl (.bop false (.cons a (.cons b .nil))) env h = .ok false h2 := by
  rw [evT, evBT, p, bnd_ok, if_pos rfl, evBT, q, bnd_ok, if_pos rfl, evBT]
end
theorem ro_bools (g : D → Bool) {xs : List D} : RO 1 (1 * xs.length) (.lst (xs.map fun d => .bl (g d))) := by
  have r := ro_lst (k := 0) (m := 0) (ds := xs.map fun d => .bl (g d)) (fun d hd => by
    obtain ⟨e, _, rfl⟩ := List.mem_map.mp hd
    exact ro_bl _)
  rwa [List.length_map] at r
/-- two reckonings of one list are the same -/
theorem if_same {cf : Fns} {gl : Nat → D} {env : Mp.Env} {h : HP} {i f f' : Nat} {xs : List D} {g : D → Bool} (e1 : env[i]? = some (some (.lst xs))) (hj : 10 < env.length) (hl : xs.length ≤ 1000) (hf : ∀ d ∈ xs, cf f [d] h = .ok (.bl (g d)) h) (hf' : ∀ d ∈ xs, cf f' [d] h = .ok (.bl (g d)) h) {a : Ss} :
    evS cf gl (.ifs (.op .ne (.cons (.op .repr (.cons (.comp false [10] (.nm 10) (.seq (.loc i)) .nil (.call f (.cons (.loc 10) .nil))) .nil)) (.cons (.op .repr (.cons (.comp false [10] (.nm 10) (.seq (.loc i)) .nil (.call f' (.cons (.loc 10) .nil))) .nil)) .nil))) a .nil) env h = .ok (.nx env) h := by
  have hl' : xs.length ≤ line := Nat.le_trans hl (by decide)
  have rp := (ro_bools g (xs := xs)).repr (by decide) (by omega) h
  exact s_ifF (t_op (by decide) (es_cons (e_op (es_one (comp_call e1 rfl hj hl' hf)) rp) (es_one (e_op (es_one (comp_call e1 rfl hj hl' hf')) rp))) (ne_strs _ h) rfl)
def dueD (ws : List Str) (i : Nat) : List D := (List.range i).flatMap fun a => ws.map fun w => .tup [.int (a : Nat), .str w]
theorem due_succ (ws : List Str) (i : Nat) : dueD ws (i + 1) = dueD ws i ++ ws.map fun w => .tup [.int (i : Nat), .str w] := by
  unfold dueD
  rw [List.range_succ, List.flatMap_append]
  simp
theorem due_roles {ws : List Str} (g : GW ws) : ∀ i : Nat, dueD ws i = rolesD ws i
  | 0 => by
    unfold rolesD
    rw [Nat.zero_mul]
    rfl
  | i + 1 => by
    rw [due_succ, due_roles g i]
    unfold rolesD
    have e : (i + 1) * ws.length = i * ws.length + ws.length := Nat.succ_mul _ _
    rw [e, List.range_add, List.map_append, List.map_map]
    congr 1
    refine List.ext_getElem (by simp) fun j h1 h2 => ?_
    have hj : j < ws.length := by simpa using h1
    have e1 : (i * ws.length + j) / ws.length = i := by
      rw [Nat.add_comm, Nat.add_mul_div_right _ _ g.l1, Nat.div_eq_of_lt hj, Nat.zero_add]
    have e2 : (i * ws.length + j) % ws.length = j := by
      rw [Nat.add_comm, Nat.add_mul_mod_self_right, Nat.mod_eq_of_lt hj]
    simp only [List.getElem_map, List.getElem_range, Function.comp]
    unfold roleD wAt
    rw [e1, e2, List.getD_eq_getElem?_getD, List.getElem?_eq_getElem hj]
    rfl
theorem ro_role {ws : List Str} (g : GW ws) {n : Nat} (hn : n / ws.length ≤ 1000) : RO 1 22 (roleD ws n) := by
  have l := g.low _ (wAt_mem g n)
  refine (ro_tup (k := 0) (m := 10) (ds := [.int ((n / ws.length : Nat) : Int), .str (wAt ws n)]) fun d hd => ?_).mono (Nat.le_refl _) (show (10 + 1) * 2 ≤ 22 by decide)
  rcases List.mem_cons.mp hd with e | hd
  · rw [e]; exact ro_nat hn
  · rw [List.mem_singleton.mp hd]
    exact (ro_str (low_ok l)).mono (Nat.le_refl _) (by have := l.2.1; omega)
theorem ro_roles {ws : List Str} (g : GW ws) {s : Nat} (hs : s ≤ 13) : ∀ d ∈ rolesD ws s, RO 1 22 d := fun d hd => by
  obtain ⟨n, hn, rfl⟩ := List.mem_map.mp hd
  have hn := List.mem_range.mp hn
  have : n / ws.length < s := (Nat.div_lt_iff_lt_mul g.l1).mpr hn
  exact ro_role g (by omega)
theorem len_roles {ws : List Str} (g : GW ws) {s : Nat} (hs : s ≤ 13) : (rolesD ws s).length ≤ 78 := by
  unfold rolesD
  rw [List.length_map, List.length_range]
  exact Nat.mul_le_mul hs g.l6
theorem roles_up {ws : List Str} (g : GW ws) (s : Nat) : (rolesD ws s).Pairwise fun a b => PySem.W.dataLe false D.py a b = true := by
  unfold rolesD
  rw [List.pairwise_map]
  refine List.pairwise_lt_range.imp fun {i j} hij => ?_
  rw [PySem.W.dataLe_eq]
  show (!PySem.W.dataLt (roleD ws j).py (roleD ws i).py) = true
  have e : PySem.W.dataLt (roleD ws j).py (roleD ws i).py = false := by
    show PySem.W.dataLt (.tuple [.int ((j / ws.length : Nat) : Int), .str (wAt ws j)]) (.tuple [.int ((i / ws.length : Nat) : Int), .str (wAt ws i)]) = false
    rw [PySem.W.dataLt_pair (by simp [PySem.W.alike]) (by simp [PySem.W.alike]), PySem.W.dataLt_int, PySem.W.dataLt_str]
    simp only [PyData.eqv, beq_iff_eq]
    have dl : i / ws.length ≤ j / ws.length := Nat.div_le_div_right (Nat.le_of_lt hij)
    by_cases q : ((j / ws.length : Nat) : Int) = ((i / ws.length : Nat) : Int)
    · rw [if_pos q]
      by_cases q2 : wAt ws j = wAt ws i
      · rw [if_pos q2]
      · rw [if_neg q2, decide_eq_false_iff_not]
        intro lt
        have eq : j / ws.length = i / ws.length := by omega
        have ml : i % ws.length < j % ws.length := by
          have a := Nat.div_add_mod i ws.length
          have b := Nat.div_add_mod j ws.length
          rw [eq] at b
          omega
        have hj : j % ws.length < ws.length := Nat.mod_lt _ g.l1
        have hi : i % ws.length < ws.length := Nat.mod_lt _ g.l1
        have pw := (rising_iff ws).mp g.up
        have := List.pairwise_iff_getElem.mp pw (i % ws.length) (j % ws.length) hi hj ml
        rw [ltS_iff] at this
        unfold wAt at lt
        rw [List.getD_eq_getElem?_getD, List.getElem?_eq_getElem hj, List.getD_eq_getElem?_getD, List.getElem?_eq_getElem hi] at lt
        exact List.lt_asymm this lt
    · rw [if_neg q, decide_eq_false_iff_not]
      omega
  rw [e]
  rfl
theorem sorted_roles {ws : List Str} (g : GW ws) {s : Nat} (hs : s ≤ 13) (h : HP) : evOp (.sorted false) [.tup (rolesD ws s)] h = .ok (.lst (rolesD ws s)) h := by
  have e : sortD (rolesD ws s) = rolesD ws s := List.mergeSort_of_pairwise (roles_up g s)
  have c : sortable (rolesD ws s) = true := by
    unfold sortable
    have o := (ro_lst (ro_roles g hs)).ok (by decide)
    rw [o]
    simp only [Bool.true_and, Bool.and_eq_true, Bool.or_eq_true, List.all_eq_true]
    refine ⟨fun a ha b hb => ?_, .inl fun a ha => ?_⟩
    · obtain ⟨i, _, rfl⟩ := List.mem_map.mp ha
      obtain ⟨j, _, rfl⟩ := List.mem_map.mp hb
      show PySem.W.alike (.tuple [.int _, .str _]) (.tuple [.int _, .str _]) = true
      simp [PySem.W.alike, PySem.W.alikeAll]
    · obtain ⟨i, _, rfl⟩ := List.mem_map.mp ha
      rfl
  simp only [evOp, onQ, seqOf, evSorted]
  rw [if_pos c, e]
  rfl
theorem cut_to (xs : List D) (i : Nat) : cutD xs none (some (i : Int)) = xs.take i := by
  unfold cutD
  have e1 : HT.sIx xs.length 0 none = 0 := rfl
  have e2 : HT.sIx xs.length xs.length (some (i : Int)) = min i xs.length := HT.sIx_nat _ _ _
  rw [e1, e2, List.drop_zero, Nat.sub_zero]
  by_cases q : i ≤ xs.length
  · rw [Nat.min_eq_left q]
  · rw [Nat.min_eq_right (by omega), List.take_of_length_le (by omega), List.take_of_length_le (by omega)]
theorem mem_cutD {xs : List D} {lo hi : Option Int} {d : D} (h : d ∈ cutD xs lo hi) : d ∈ xs := List.mem_of_mem_drop (List.mem_of_mem_take h)
theorem cutS_ok {x : Str} {lo hi : Option Int} (h : PyData.strOk x = true) : PyData.strOk (L2.cutS x lo hi) = true ∧ (L2.cutS x lo hi).length ≤ x.length := by
  constructor
  · refine strOk_of fun c hc => strOk_lt h c ?_
    unfold L2.cutS at hc
    simp only [List.toList_toArray] at hc
    exact List.mem_of_mem_drop (List.mem_of_mem_take hc)
  · rw [len_cps, len_cps]
    unfold L2.cutS
    simp only [List.toList_toArray]
    rw [List.length_take, List.length_drop]
    omega
theorem up_at : ∀ i : Fin 26, Unicode.upperOf (97 + i.val) = [65 + i.val] := by decide +kernel
theorem upper_ok {x : Str} (h : Low x) : PyData.strOk (PySem.Txt.upper x) = true ∧ (PySem.Txt.upper x).length = x.length := by
  have e : (PySem.Txt.upper x).cps.toList = x.cps.toList.map fun c => c - 32 := by
    show (placed x fun _ c => Unicode.upperOf c).toList = _
    unfold placed
    have key : ∀ l : List Nat, (∀ c ∈ l, 97 ≤ c ∧ c ≤ 122) → (l.map fun c => Unicode.upperOf c).flatten = l.map fun c => c - 32 := by
      intro l
      induction l with
      | nil => intro _; rfl
      | cons c l ih =>
        intro hl
        rw [List.map_cons, List.flatten_cons, ih fun d hd => hl d (List.mem_cons_of_mem _ hd), List.map_cons]
        obtain ⟨a, b⟩ := hl c List.mem_cons_self
        have := up_at ⟨c - 97, by omega⟩
        have e : 97 + (c - 97) = c := by omega
        simp only at this
        rw [e] at this
        rw [this]
        show (65 + (c - 97)) :: _ = (c - 32) :: _
        congr 1
        omega
    rw [← key _ h.2.2]
    have e2 : (x.cps.mapIdx fun _ c => (Unicode.upperOf c).toArray) = x.cps.map fun c => (Unicode.upperOf c).toArray := by
      apply Array.ext
      · simp
      · intro i h1 h2
        simp
    rw [e2]
    simp [Array.toList_flatten]
    rfl
  constructor
  · refine strOk_of fun c hc => ?_
    rw [e] at hc
    obtain ⟨d, hd, rfl⟩ := List.mem_map.mp hc
    have := h.2.2 d hd
    omega
  · rw [len_cps, len_cps, e, List.length_map]
end K01

end
section
set_option maxRecDepth 100000
set_option maxHeartbeats 1000000
namespace K01
open PySem Mp
theorem len_app (x y : Str) : (x ++ y).length = x.length + y.length := by
  rw [len_cps, len_cps, len_cps, cps_append, List.length_append]
theorem add_str {x y : Str} {b : Bool} (l : x.length + y.length ≤ line) (h : HP) : evOp (.add b) [.str x, .str y] h = .ok (.str (x ++ y)) h := by
  simp only [evOp, evAdd]
  rw [if_pos l]
theorem add_tup {xs ys : List D} {b : Bool} (l : xs.length + ys.length ≤ line) (h : HP) : evOp (.add b) [.tup xs, .tup ys] h = .ok (.tup (xs ++ ys)) h := by
  simp only [evOp, evAdd]
  rw [if_pos l]
theorem add_lst {xs ys : List D} (l : xs.length + ys.length ≤ line) (h : HP) : evOp (.add false) [.lst xs, .lst ys] h = .ok (.lst (xs ++ ys)) h := by
  simp only [evOp, evAdd, deref]
  rw [if_pos l]
  rfl
/-- six names are drawn -/
theorem names_drawn (k n : Nat) {h : HP} {c : Int} (bw : Bw n h c) (hc : c + 100 < 2 ^ 40) {env : Mp.Env} (he : env = some (.box n) :: List.replicate 13 none) :
    ∃ (ns : List Str) (h1 : HP), evE (C (k + 3)) G.gl (.comp false [9] (.nm 9) (.rng (.cons (.lit (.int 6)) .nil)) .nil (.call 19 (.cons (.loc 0) .nil))) env h = .ok (.lst (ns.map .str)) h1 ∧ ns.length = 6 ∧ (∀ x ∈ ns, Low x) ∧ Bw n h1 (c + 54) := by
  subst he
  have key : ∃ acc h1, evE (C (k + 3)) G.gl (.comp false [9] (.nm 9) (.rng (.cons (.lit (.int 6)) .nil)) .nil (.call 19 (.cons (.loc 0) .nil))) (some (.box n) :: List.replicate 13 none) h = .ok (.lst acc) h1 ∧ ∃ ns : List Str, acc = ns.map .str ∧ ns.length = 6 ∧ (∀ x ∈ ns, Low x) ∧ Bw n h1 (c + 54) := by
    have hI : evI (C (k + 3)) G.gl (.rng (.cons (.lit (.int 6)) .nil)) (some (.box n) :: List.replicate 13 none) h = .ok (fun _ => some (rngD 0 6)) h := by
      have q : (-(2 ^ 62) : Int) ≤ 6 ∧ (6 : Int) ≤ line := by unfold line; omega
      simp only [evI, evEs, evE, bnd_ok, Lt.d, evRng]
      rw [if_pos q]
      rfl
    obtain ⟨acc, h', e2, p⟩ := walkL_inv (step := turnD (C (k + 3)) G.gl [9] (.nm 9) .nil (.call 19 (.cons (.loc 0) .nil)) (some (.box n) :: List.replicate 13 none)) (iv := fun _ => some (rngD 0 6)) (xs := rngD 0 6)
      (fun j acc hh => ∃ ns : List Str, acc = ns.map D.str ∧ ns.length = j ∧ (∀ x ∈ ns, Low x) ∧ Bw n hh (c + 9 * j)) (fun _ _ _ _ => rfl)
      (fun j d acc hh hd ⟨ns, ea, ln, hns, b⟩ => by
        have hj : j < 6 := (List.getElem?_eq_some_iff.mp hd).1
        obtain ⟨x, h', e, lx, b'⟩ := f19 k n b (by omega)
        have e' : callN prog G.gl (k + 3) 19 [.box n] hh = .ok (.str x) h' := e
        refine ⟨acc ++ [.str x], h', ?_, ns ++ [x], by rw [ea]; simp, by simp [ln], ?_, b'.mono (by push_cast; omega)⟩
        · simp [turnD, setTg, wipeD, evTs, evE, evEs, e', Rs.noX]
        · intro t ht
          rcases List.mem_append.mp ht with z | z
          · exact hns t z
          · rw [List.mem_singleton.mp z]
            exact lx) 6 walkFuel 0 [] h rfl (Nat.zero_le _) (by unfold walkFuel; omega) ⟨[], rfl, rfl, (fun _ z => nomatch z), by simpa using bw⟩
    obtain ⟨ns, ea, ln, hns, b⟩ := p
    refine ⟨acc, h', ?_, ns, ea, ln, hns, b⟩
    rw [evE, hI, bnd_ok]
    show ((walkL (turnD (C (k + 3)) G.gl [9] (.nm 9) .nil (.call 19 (.cons (.loc 0) .nil)) (some (.box n) :: List.replicate 13 none)) _ walkFuel 0 [] h).bnd fun acc h => newL false acc h) = _
    rw [e2]
    rfl
  obtain ⟨acc, h1, e, ns, rfl, q⟩ := key
  exact ⟨ns, h1, e, q⟩
theorem rev_op (xs : List D) (h : HP) : evOp .rev [.tup xs] h = .ok (.tup xs.reverse) h := rfl
theorem f20 (k n : Nat) {h : HP} {c : Int} (bw : Bw n h c) (hc : c + 100 < 2 ^ 40) : ∃ h', C (k + 5) 20 [.box n] h = .ok (.bl true) h' ∧ Bw n h' (c + 60) := by
  obtain ⟨ns, h1, eN, lN, lowN, b1⟩ := names_drawn (k + 1) n bw hc rfl
  obtain ⟨r1, h2, e1, r10, r11, b2⟩ := f15 (k + 3) n (many := 6) b1 (by omega) (by decide) (by decide)
  obtain ⟨i1, rfl⟩ := Int.eq_ofNat_of_zero_le r10
  obtain ⟨r2, h3, e2, r20, r21, b3⟩ := f15 (k + 3) n (many := 13) b2 (by omega) (by decide) (by decide)
  obtain ⟨i2, rfl⟩ := Int.eq_ofNat_of_zero_le r20
  -- the words
  have lowT : ∀ y ∈ ns.take (i1 + 1), Low y := fun y hy => lowN y (List.mem_of_mem_take hy)
  have lT : (ns.take (i1 + 1)).length = i1 + 1 := by rw [List.length_take]; omega
  generalize hT : ns.take (i1 + 1) = T at *
  have g : GW (sortK PyData.str (uniqs T)) := gw_sort (by omega) (by omega) lowT
  generalize hW : sortK PyData.str (uniqs T) = W at *
  have hsize : 1 ≤ i2 + 1 ∧ i2 + 1 ≤ 13 := by omega
  generalize hS : i2 + 1 = S at *
  obtain ⟨h4, hB⟩ : ∃ h4, h4 = h3 := ⟨_, rfl⟩
  have ex1 : ∃ n0 n1 n2 n3 n4 n5, ns = [n0, n1, n2, n3, n4, n5] := by
    match ns, lN with
    | [a, b, c, d, e, f], _ => exact ⟨a, b, c, d, e, f, rfl⟩
  obtain ⟨n0, n1, n2, n3, n4, n5, rfl⟩ := ex1
  have L0 : Low n0 := lowN _ (by simp)
  have L1 : Low n1 := lowN _ (by simp)
  have L2' : Low n2 := lowN _ (by simp)
  have L3 : Low n3 := lowN _ (by simp)
  -- values near names
  obtain ⟨odd, eO, lO, tO⟩ : ∃ odd, evE (C (k + 4)) G.gl (.op (.add false) (.cons (.loc 1) (.cons (.lst false (.cons (.op (.add false) (.cons (.op .ix (.cons (.loc 1) (.cons (.lit (.int 0)) .nil))) (.cons (.lit (.str "A")) .nil))) (.cons (.lit (.str "")) (.cons (.op (.add false) (.cons (.sl (.op .ix (.cons (.loc 1) (.cons (.lit (.int 1)) .nil))) .nil (.cons (.op .neg (.cons (.lit (.int 1)) .nil)) .nil)) (.cons (.lit (.str "-")) .nil))) (.cons (.lit .non) (.cons (.lit (.int 0)) (.cons (.tup (.cons (.lit (.str "a")) .nil)) (.cons (.op (.add false) (.cons (.op .ix (.cons (.loc 1) (.cons (.lit (.int 2)) .nil))) (.cons (.lit (.str "abcdefgh")) .nil))) (.cons (.lit (.str "a b")) (.cons (.meth .upper (.op .ix (.cons (.loc 1) (.cons (.lit (.int 3)) .nil))) .nil) .nil)))))))))) .nil)))
      [some (.box n), some (.lst ([n0, n1, n2, n3, n4, n5].map .str)), none, none, none, none, none, some (.tup (W.map .str)), some (.int S), none, none, none, none, none] h3 = .ok (.lst odd) h3 ∧ odd.length ≤ 1000 ∧ ∀ hp : HP, ∀ d ∈ odd, Tst hp d := by
    have x0 : evOp .ix [.lst ([n0, n1, n2, n3, n4, n5].map .str), .int 0] h3 = .ok (.str n0) h3 := rfl
    have x1 : evOp .ix [.lst ([n0, n1, n2, n3, n4, n5].map .str), .int 1] h3 = .ok (.str n1) h3 := rfl
    have x2 : evOp .ix [.lst ([n0, n1, n2, n3, n4, n5].map .str), .int 2] h3 = .ok (.str n2) h3 := rfl
    have x3 : evOp .ix [.lst ([n0, n1, n2, n3, n4, n5].map .str), .int 3] h3 = .ok (.str n3) h3 := rfl
    have a0 := add_str (b := false) (x := n0) (y := "A") (by have := L0.2.1; show _ + 1 ≤ line; unfold line; omega) h3
    have cut := cutS_ok (x := n1) (lo := none) (hi := some (-1)) (low_ok L1)
    have a1 := add_str (b := false) (x := L2.cutS n1 none (some (-1))) (y := "-") (by have := L1.2.1; have := cut.2; show _ + 1 ≤ line; unfold line; omega) h3
    have a2 := add_str (b := false) (x := n2) (y := "abcdefgh") (by have := L2'.2.1; show _ + 8 ≤ line; unfold line; omega) h3
    have c1 : evSl (.str n1) none (some (-1)) h3 = .ok (.str (L2.cutS n1 none (some (-1)))) h3 := by
      unfold evSl deref
      dsimp only
      rw [if_pos (low_lo L1).1]
    have ng : evOp .neg [.int 1] h3 = .ok (.int (-1)) h3 := rfl
    have ro : recvOk .upper (.str n3) h3 = true := rfl
    have up : evOp .upper [.str n3] h3 = .ok (.str (PySem.Txt.upper n3)) h3 := by
      simp only [evOp, evUpper]
      rw [if_pos (by have := L3.2.1; omega)]
    have uo := upper_ok L3
    refine ⟨[n0, n1, n2, n3, n4, n5].map .str ++ [.str (n0 ++ "A"), .str "", .str (L2.cutS n1 none (some (-1)) ++ "-"), .non, .int 0, .tup [.str "a"], .str (n2 ++ "abcdefgh"), .str "a b", .str (PySem.Txt.upper n3)], ?_, (by show (15 : Nat) ≤ 1000; decide), ?_⟩
    · refine e_op (es_cons (e_loc rfl) (es_one (e_lstF (ds := [.str (n0 ++ "A"), .str "", .str (L2.cutS n1 none (some (-1)) ++ "-"), .non, .int 0, .tup [.str "a"], .str (n2 ++ "abcdefgh"), .str "a b", .str (PySem.Txt.upper n3)]) ?_))) (add_lst (by show 6 + 9 ≤ line; decide) h3)
      have lt : ∀ (v : Lt) (env : Mp.Env), evE (C (k + 4)) G.gl (.lit v) env h3 = .ok v.d h3 := fun v env => by rw [evE]
      refine es_cons (e_op (es_cons (e_op (es_cons (e_loc rfl) (es_one (lt _ _))) x0) (es_one (lt _ _))) a0) (es_cons (lt _ _) (es_cons ?_ (es_cons (lt _ _) (es_cons (lt _ _) (es_cons (e_tup (es_one (lt _ _))) (es_cons (e_op (es_cons (e_op (es_cons (e_loc rfl) (es_one (lt _ _))) x2) (es_one (lt _ _))) a2) (es_cons (lt _ _) (es_one (e_meth (e_op (es_cons (e_loc rfl) (es_one (lt _ _))) x3) ro es_nil up)))))))))
      refine e_op (es_cons (d := .str (L2.cutS n1 none (some (-1)))) (h1 := h3) ?_ (es_one (lt _ _))) a1
      have ei : ∀ env : Mp.Env, env[1]? = some (some (.lst ([n0, n1, n2, n3, n4, n5].map .str))) → evE (C (k + 4)) G.gl (.op .ix (.cons (.loc 1) (.cons (.lit (.int 1)) .nil))) env h3 = .ok (.str n1) h3 := fun env e => e_op (es_cons (e_loc e) (es_one (lt _ _))) x1
      have en : ∀ env : Mp.Env, evE (C (k + 4)) G.gl (.op .neg (.cons (.lit (.int 1)) .nil)) env h3 = .ok (.int (-1)) h3 := fun env => e_op (es_one (lt _ _)) ng
      rw [evE, ei _ rfl, bnd_ok, evO, bnd_ok, evO, en, bnd_ok, bnd_ok]
      exact c1
    · intro hp d hd
      rcases List.mem_append.mp hd with hd | hd
      · obtain ⟨x, hx, rfl⟩ := List.mem_map.mp hd
        exact low_tst (lowN x hx)
      · have u1 := uo.2
        have l3 := L3.2.1
        simp only [List.mem_cons, List.not_mem_nil, or_false] at hd
        rcases hd with rfl | rfl | rfl | rfl | rfl | rfl | rfl | rfl | rfl
        · exact tst_str (by rw [len_app]; have := L0.2.1; show _ + 1 ≤ line; unfold line; omega) (strOk_append (low_ok L0) (by decide +kernel))
        · exact tst_str (by decide +kernel) (by decide +kernel)
        · exact tst_str (by rw [len_app]; have := L1.2.1; have := cut.2; show _ + 1 ≤ line; unfold line; omega) (strOk_append cut.1 (by decide +kernel))
        · exact .inl rfl
        · exact .inl rfl
        · exact .inl rfl
        · exact tst_str (by rw [len_app]; have := L2'.2.1; show _ + 8 ≤ line; unfold line; omega) (strOk_append (low_ok L2') (by decide +kernel))
        · exact tst_str (by decide +kernel) (by decide +kernel)
        · exact tst_str (by unfold line; omega) uo.1
  generalize hN : ([n0, n1, n2, n3, n4, n5].map D.str) = NS at *
  -- values near words
  obtain ⟨nr, eR, lR, tR⟩ : ∃ nr, evE (C (k + 4)) G.gl (.lst false (.cons (.loc 7) (.cons (.op .rev (.cons (.loc 7) .nil)) (.cons (.op (.lstof false) (.cons (.loc 7) .nil)) (.cons (.op (.add false) (.cons (.loc 7) (.cons (.sl (.loc 7) (.cons (.op .neg (.cons (.lit (.int 1)) .nil)) .nil) .nil) .nil))) (.cons (.op (.add false) (.cons (.loc 7) (.cons (.tup (.cons (.lit (.str "A")) .nil)) .nil))) (.cons (.tup .nil) (.cons (.op (.add false) (.cons (.op .tupof (.cons (.op (.sortset false) (.cons (.loc 1) .nil)) .nil)) (.cons (.tup (.cons (.lit (.str "zzzzzzzz")) .nil)) .nil))) (.cons (.lit .non) (.cons (.lit (.str "a")) (.cons (.tup (.cons (.loc 7) .nil)) .nil)))))))))))
      [some (.box n), some (.lst NS), some (.lst odd), none, none, none, none, some (.tup (W.map .str)), some (.int S), none, none, none, none, none] h3 = .ok (.lst nr) h3 ∧ nr.length = 10 ∧ ∀ hp : HP, ∀ d ∈ nr, WT hp d := by
    have lt : ∀ (v : Lt) (env : Mp.Env), evE (C (k + 4)) G.gl (.lit v) env h3 = .ok v.d h3 := fun v env => by rw [evE]
    have lW := g.l6
    have ct : ∃ W2 : List Str, cutD (W.map .str) (some (-1)) none = W2.map .str ∧ W2.length ≤ 6 ∧ ∀ x ∈ W2, Low x := by
      refine ⟨(W.drop (HT.sIx W.length 0 (some (-1)))).take (W.length - HT.sIx W.length 0 (some (-1))), ?_, ?_, fun x hx => g.low x (List.mem_of_mem_drop (List.mem_of_mem_take hx))⟩
      · unfold cutD
        rw [List.length_map, List.map_take, List.map_drop]
        rfl
      · rw [List.length_take, List.length_drop]
        omega
    obtain ⟨W2, eW2, lW2, lowW2⟩ := ct
    have ss := sortset_ok (ys := [n0, n1, n2, n3, n4, n5]) (by show 6 < 4095; decide) h3
    rw [hN] at ss
    have lowS : ∀ y ∈ sortK PyData.str (uniqs [n0, n1, n2, n3, n4, n5]), Low y := fun y hy => lowN y (mem_sort hy)
    have lS : (sortK PyData.str (uniqs [n0, n1, n2, n3, n4, n5])).length ≤ 6 := by
      rw [len_sort]
      have := (len_fold [n0, n1, n2, n3, n4, n5] []).1
      simpa [uniqs] using this
    generalize sortK PyData.str (uniqs [n0, n1, n2, n3, n4, n5]) = SS at *
    have o1 : evOp .tupof [.lst (SS.map .str)] h3 = .ok (.tup (SS.map .str)) h3 := rfl
    have o2 : evOp (.lstof false) [.tup (W.map .str)] h3 = .ok (.lst (W.map .str)) h3 := rfl
    have o3 : evOp .neg [.int 1] h3 = .ok (.int (-1)) h3 := rfl
    have o4 : evSl (.tup (W.map .str)) (some (-1)) none h3 = .ok (.tup (W2.map .str)) h3 := by
      rw [← eW2]
      rfl
    have p1 := add_tup (b := false) (xs := W.map D.str) (ys := W2.map D.str) (by rw [List.length_map, List.length_map]; unfold line; omega) h3
    have p2 := add_tup (b := false) (xs := W.map D.str) (ys := [.str "A"]) (by rw [List.length_map]; show _ + 1 ≤ line; unfold line; omega) h3
    have p3 := add_tup (b := false) (xs := SS.map D.str) (ys := [.str "zzzzzzzz"]) (by rw [List.length_map]; show _ + 1 ≤ line; unfold line; omega) h3
    refine ⟨[.tup (W.map .str), .tup (W.map D.str).reverse, .lst (W.map .str), .tup (W.map .str ++ W2.map .str), .tup (W.map .str ++ [.str "A"]), .tup [], .tup (SS.map .str ++ [.str "zzzzzzzz"]), .non, .str "a", .tup [.tup (W.map .str)]], ?_, rfl, ?_⟩
    · refine e_lstF (es_cons (e_loc rfl) (es_cons (e_op (es_one (e_loc rfl)) (rev_op _ _)) (es_cons (e_op (es_one (e_loc rfl)) o2) (es_cons (e_op (es_cons (e_loc rfl) (es_one (d := .tup (W2.map .str)) ?_)) p1) (es_cons (e_op (es_cons (e_loc rfl) (es_one (e_tup (es_one (lt _ _))))) p2)
        (es_cons (e_tup es_nil) (es_cons (e_op (es_cons (e_op (es_one (e_op (es_one (e_loc rfl)) ss)) o1) (es_one (e_tup (es_one (lt _ _))))) p3) (es_cons (lt _ _) (es_cons (lt _ _) (es_one (e_tup (es_one (e_loc rfl)))))))))))))
      have en : ∀ env : Mp.Env, evE (C (k + 4)) G.gl (.op .neg (.cons (.lit (.int 1)) .nil)) env h3 = .ok (.int (-1)) h3 := fun env => e_op (es_one (lt _ _)) o3
      have el : ∀ env : Mp.Env, env[7]? = some (some (.tup (W.map D.str))) → evE (C (k + 4)) G.gl (.loc 7) env h3 = .ok (.tup (W.map .str)) h3 := fun env e => e_loc e
      rw [evE, el _ rfl, bnd_ok, evO, en, bnd_ok, bnd_ok, evO, bnd_ok]
      exact o4
    · intro hp d hd
      simp only [List.mem_cons, List.not_mem_nil, or_false] at hd
      rcases hd with rfl | rfl | rfl | rfl | rfl | rfl | rfl | rfl | rfl | rfl
      · exact wt_strs (by omega) fun y hy => low_lo (g.low y hy)
      · rw [← List.map_reverse]
        exact wt_strs (by rw [List.length_reverse]; omega) fun y hy => low_lo (g.low y (List.mem_reverse.mp hy))
      · exact .inl rfl
      · rw [← List.map_append]
        exact wt_strs (by rw [List.length_append]; omega) fun y hy => (List.mem_append.mp hy).elim (fun z => low_lo (g.low y z)) fun z => low_lo (lowW2 y z)
      · have e : (W.map D.str ++ [.str "A"]) = (W ++ (["A"] : List Str)).map D.str := by rw [List.map_append]; rfl
        rw [e]
        exact wt_strs (by rw [List.length_append]; show _ + 1 ≤ 20; omega) fun y hy => (List.mem_append.mp hy).elim (fun z => low_lo (g.low y z)) fun z => by rw [List.mem_singleton.mp z]; exact ⟨by decide +kernel, by decide +kernel⟩
      · exact wt_strs (ys := []) (by decide) fun y hy => nomatch hy
      · have e : (SS.map D.str ++ [.str "zzzzzzzz"]) = (SS ++ (["zzzzzzzz"] : List Str)).map D.str := by rw [List.map_append]; rfl
        rw [e]
        exact wt_strs (by rw [List.length_append]; show _ + 1 ≤ 20; omega) fun y hy => (List.mem_append.mp hy).elim (fun z => low_lo (lowS y z)) fun z => by rw [List.mem_singleton.mp z]; exact ⟨by decide +kernel, by decide +kernel⟩
      · exact .inl rfl
      · exact .inl rfl
      · refine .inr ⟨_, rfl, fun e he => ?_, ?_, (by show 1 ≤ line; decide)⟩
        · rw [List.mem_singleton.mp he]
          exact .inl rfl
        · have o : (D.lst (W.map .str)).ok = true := g.ok
          have o1 : dataL (W.map .str) = true := ok_data o
          unfold D.ok
          rw [Bool.and_eq_true]
          refine ⟨?_, decide_eq_true ?_⟩
          · show (dataL (W.map .str) && true) = true
            rw [o1]
            rfl
          · show max (depL (W.map .str) + 1) 0 + 1 ≤ 60
            rw [depL_strs]
            decide
  -- one more draw
  obtain ⟨r3, h5, e3, r30, r31, b4⟩ := f15 (k + 3) n (many := 2) b3 (by omega) (by decide) (by decide)
  obtain ⟨i3, rfl⟩ := Int.eq_ofNat_of_zero_le r30
  obtain ⟨nr2, eR2, lR2, tR2⟩ : ∃ nr2, evE (C (k + 4)) G.gl (.op (.add false) (.cons (.loc 3) (.cons (.lst false (.cons (.op .tupof (.cons (.op (.sortset false) (.cons (.sl (.lst false (.cons (.lit (.str "a")) (.cons (.lit (.str "b")) (.cons (.lit (.str "c")) (.cons (.lit (.str "d")) (.cons (.lit (.str "e")) (.cons (.lit (.str "f")) (.cons (.lit (.str "g")) .nil)))))))) .nil (.cons (.op (.add false) (.cons (.lit (.int 6)) (.cons (.call 15 (.cons (.loc 0) (.cons (.lit (.int 2)) .nil))) .nil))) .nil)) .nil)) .nil)) (.cons (.tup (.cons (.lit .non) .nil)) .nil))) .nil)))
      [some (.box n), some (.lst NS), some (.lst odd), some (.lst nr), none, none, none, some (.tup (W.map .str)), some (.int S), none, none, none, none, none] h3 = .ok (.lst nr2) h5 ∧ nr2.length ≤ 1000 ∧ ∀ hp : HP, ∀ d ∈ nr2, WT hp d := by
    have lt : ∀ (v : Lt) (env : Mp.Env) (hp : HP), evE (C (k + 4)) G.gl (.lit v) env hp = .ok v.d hp := fun v env hp => by rw [evE]
    let LS : List Str := ["a", "b", "c", "d", "e", "f", "g"]
    have c1 : cutD (LS.map D.str) none (some (6 + (i3 : Int))) = (LS.take (6 + i3)).map .str := by
      have e : (6 + (i3 : Int)) = ((6 + i3 : Nat) : Int) := by push_cast; rfl
      rw [e, cut_to, List.map_take]
    have lowL : ∀ x ∈ LS, Low x := by
      have q : ∀ x ∈ LS, 1 ≤ x.length ∧ x.length ≤ 8 ∧ x.cps.toList.all (fun c => decide (97 ≤ c ∧ c ≤ 122)) = true := by decide +kernel
      intro x hx
      obtain ⟨a, b, d⟩ := q x hx
      exact ⟨a, b, fun c hc => of_decide_eq_true (List.all_eq_true.mp d c hc)⟩
    have ss := sortset_ok (ys := LS.take (6 + i3)) (by rw [List.length_take]; show min _ 7 < 4095; omega) h5
    have lowS : ∀ y ∈ sortK PyData.str (uniqs (LS.take (6 + i3))), Low y := fun y hy => lowL y (List.mem_of_mem_take (mem_sort hy))
    have lS : (sortK PyData.str (uniqs (LS.take (6 + i3)))).length ≤ 7 := by
      rw [len_sort]
      have := (len_fold (LS.take (6 + i3)) []).1
      rw [List.length_take] at this
      have l7 : LS.length = 7 := rfl
      rw [l7] at this
      show ((LS.take (6 + i3)).foldl addU []).length ≤ 7
      simp only [List.length_nil] at this
      omega
    generalize sortK PyData.str (uniqs (LS.take (6 + i3))) = SS at *
    have o1 : evOp .tupof [.lst (SS.map .str)] h5 = .ok (.tup (SS.map .str)) h5 := rfl
    have o4 : evSl (.lst (LS.map .str)) none (some (6 + (i3 : Int))) h5 = .ok (.lst ((LS.take (6 + i3)).map .str)) h5 := by
      rw [← c1]
      rfl
    have e3' : callN prog G.gl (k + 4) 15 [.box n, .int 2] h3 = .ok (.int i3) h5 := e3
    have a6 : evOp (.add false) [.int 6, .int i3] h5 = .ok (.int (6 + i3)) h5 := rfl
    refine ⟨nr ++ [.tup (SS.map .str), .tup [.non]], ?_, (by rw [List.length_append, lR]; show 12 ≤ 1000; decide), ?_⟩
    · refine e_op (es_cons (e_loc rfl) (es_one (e_lstF (es_cons (e_op (es_one (e_op (es_one (d := .lst ((LS.take (6 + i3)).map .str)) (h1 := h5) ?_) ss)) o1) (es_one (e_tup (es_one (lt _ _ _)))))))) (add_lst (by rw [lR]; show 10 + 2 ≤ line; decide) h5)
      have el : ∀ env : Mp.Env, evE (C (k + 4)) G.gl (.lst false (.cons (.lit (.str "a")) (.cons (.lit (.str "b")) (.cons (.lit (.str "c")) (.cons (.lit (.str "d")) (.cons (.lit (.str "e")) (.cons (.lit (.str "f")) (.cons (.lit (.str "g")) .nil)))))))) env h3 = .ok (.lst (LS.map .str)) h3 := fun env =>
        e_lstF (es_cons (lt _ _ _) (es_cons (lt _ _ _) (es_cons (lt _ _ _) (es_cons (lt _ _ _) (es_cons (lt _ _ _) (es_cons (lt _ _ _) (es_one (lt _ _ _))))))))
      have en : ∀ env : Mp.Env, env[0]? = some (some (.box n)) → evE (C (k + 4)) G.gl (.op (.add false) (.cons (.lit (.int 6)) (.cons (.call 15 (.cons (.loc 0) (.cons (.lit (.int 2)) .nil))) .nil))) env h3 = .ok (.int (6 + i3)) h5 := fun env e =>
        e_op (es_cons (lt _ _ _) (es_one (e_call (es_cons (e_loc e) (es_one (lt _ _ _))) e3'))) a6
      rw [evE, el, bnd_ok, evO, bnd_ok, evO, en _ rfl, bnd_ok, bnd_ok]
      exact o4
    · intro hp d hd
      rcases List.mem_append.mp hd with hd | hd
      · exact tR hp d hd
      · simp only [List.mem_cons, List.not_mem_nil, or_false] at hd
        rcases hd with rfl | rfl
        · exact wt_strs (by omega) fun y hy => low_lo (lowS y hy)
        · exact .inr ⟨_, rfl, fun e he => by rw [List.mem_singleton.mp he]; exact .inl rfl, by decide, by decide⟩
  -- all roles
  have eV : callN prog G.gl (k + 4) 13 [.int S, .tup (W.map .str)] h5 = .ok (.tup (rolesD W S)) h5 := f13 k g S hsize.1 hsize.2
  have m0 : n < h5.length := b4.lt
  let E9 : Option D → Mp.Env := fun x => [some (.box n), some (.lst NS), some (.lst odd), some (.lst nr2), some (.tup (rolesD W S)), some (.box h5.length), x, some (.tup (W.map .str)), some (.int S), none, none, none, none, none]
  obtain ⟨env9, h6, e9, ⟨x9, rfl⟩, hd9, b9⟩ : ∃ e' h', evS (C (k + 4)) G.gl (.for (.nm 6) (.rng (.cons (.loc 8) .nil)) (.cons (.ex (.meth .extend (.loc 5) (.cons (.comp true [11] (.nm 11) (.seq (.loc 7)) .nil (.tup (.cons (.loc 6) (.cons (.loc 11) .nil)))) .nil))) .nil)) (E9 none) (h5 ++ [.lst []]) = .ok (.nx e') h' ∧ (∃ x, e' = E9 x) ∧ h'[h5.length]? = some (.lst (dueD W S)) ∧ Bw n h' (c + 57) := by
    have hI : evI (C (k + 4)) G.gl (.rng (.cons (.loc 8) .nil)) (E9 none) (h5 ++ [.lst []]) = .ok (fun _ => some (rngD 0 S)) (h5 ++ [.lst []]) := by
      have q : (-(2 ^ 62) : Int) ≤ (S : Int) ∧ (S : Int) ≤ line := by unfold line; omega
      have es : evEs (C (k + 4)) G.gl (.cons (.loc 8) .nil) (E9 none) (h5 ++ [.lst []]) = .ok [.int S] (h5 ++ [.lst []]) := es_one (e_loc rfl)
      rw [evI, es, bnd_ok]
      simp only [evRng]
      rw [if_pos q, Int.toNat_natCast]
    have z := s_for (cf := C (k + 4)) (gl := G.gl) (t := .nm 6) (it := .rng (.cons (.loc 8) .nil)) (body := .cons (.ex (.meth .extend (.loc 5) (.cons (.comp true [11] (.nm 11) (.seq (.loc 7)) .nil (.tup (.cons (.loc 6) (.cons (.loc 11) .nil)))) .nil))) .nil) (env := E9 none) (iv := fun _ => some (rngD 0 S)) (xs := rngD 0 S)
      (fun i e h' => (∃ x, e = E9 x) ∧ h'[h5.length]? = some (.lst (dueD W i)) ∧ Bw n h' (c + 57)) hI (fun _ _ _ _ => rfl) (by rw [len_rngD]; unfold line; omega)
      ⟨⟨none, rfl⟩, by rw [List.getElem?_append_right (Nat.le_refl _), Nat.sub_self]; rfl, (b4.app _).mono (by omega)⟩ (fun i d e h' hd p => by
        obtain ⟨⟨x, rfl⟩, hdue, bb⟩ := p
        have hi : i < S := by
          have := (List.getElem?_eq_some_iff.mp hd).1
          rwa [len_rngD] at this
        have ed : d = .int (i : Nat) := by
          rw [get_rngD S 0 i hi, Int.zero_add] at hd
          exact (Option.some.inj hd).symm
        subst ed
        have hm : h5.length < h'.length := (List.getElem?_eq_some_iff.mp hdue).1
        let items : List D := W.map fun w => .tup [.int (i : Nat), .str w]
        have hc : evE (C (k + 4)) G.gl (.comp true [11] (.nm 11) (.seq (.loc 7)) .nil (.tup (.cons (.loc 6) (.cons (.loc 11) .nil)))) (E9 (some (.int (i : Nat)))) h' = .ok (.box h'.length) (h' ++ [BO.lst items]) := by
          have q := comp_of (cf := C (k + 4)) (gl := G.gl) (b := true) (own := [11]) (t := .nm 11) (it := .seq (.loc 7)) (ifs := .nil) (elt := .tup (.cons (.loc 6) (.cons (.loc 11) .nil))) (env := E9 (some (.int (i : Nat)))) (h := h') (iv := itemsD (.tup (W.map .str))) (xs := W.map .str) (g := fun d => [.tup [.int (i : Nat), d]]) (by
            have el : evE (C (k + 4)) G.gl (.loc 7) (E9 (some (.int (i : Nat)))) h' = .ok (.tup (W.map .str)) h' := e_loc rfl
            rw [evI, el, bnd_ok]
            rfl) rfl (by rw [List.length_map]; have := g.l6; unfold line; omega) (fun d hd acc => by
              simp [turnD, setTg, wipeD, evTs, evE, evEs, Rs.noX, E9])
          rw [q]
          show Rs.ok (D.box h'.length) (h' ++ [BO.lst _]) = _
          have e : ((W.map D.str).flatMap fun d => [D.tup [.int (i : Nat), d]]) = items := by
            show _ = W.map fun w => D.tup [.int (i : Nat), .str w]
            generalize W = ws
            induction ws with
            | nil => rfl
            | cons w ws ih => rw [List.map_cons, List.flatMap_cons, ih, List.map_cons]; rfl
          rw [e]
        refine ⟨E9 (some (.int (i : Nat))), E9 (some (.int (i : Nat))), (h' ++ [BO.lst items]).set h5.length (.lst (dueD W i ++ items)), rfl, ?_, ⟨_, rfl⟩, ?_, ?_⟩
        · refine ss_next (s_ex (d := .non) (e_meth (x := .box h5.length) (e_loc rfl) ?_ (es_one hc) ?_)) (by rw [evSs])
          · simp [recvOk, recvT, mtId, hdue]
          · have ge : (h' ++ [BO.lst items])[h5.length]? = some (.lst (dueD W i)) := by rw [List.getElem?_append_left hm]; exact hdue
            have gk : (h' ++ [BO.lst items])[h'.length]? = some (.lst items) := by rw [List.getElem?_append_right (Nat.le_refl _), Nat.sub_self]; rfl
            have ll : (dueD W i).length + items.length ≤ line := by
              rw [due_roles g]
              have := len_roles g (s := i) (by omega)
              have l6 := g.l6
              show _ + (W.map _).length ≤ line
              rw [List.length_map]
              unfold line
              omega
            simp only [evOp, onB, ge, evExtend, gk]
            rw [if_pos ll]
        · rw [List.getElem?_set_self (by rw [List.length_append]; omega), due_succ]
        · exact (bb.app _).set (by omega) _)
    rw [len_rngD] at z
    exact z
  rw [due_roles g] at hd9
  -- the end
  have hro := ro_roles g (s := S) hsize.2
  have hlen := len_roles g (s := S) hsize.2
  have okT : (D.tup (rolesD W S)).ok = true := (ro_tup hro).ok (by decide)
  have okL : (D.lst (rolesD W S)).ok = true := (ro_lst hro).ok (by decide)
  have rpT := (ro_tup hro).repr (by decide) (by omega) h6
  refine ⟨h6, run_of (d := d20) rfl rfl ?_, b9.mono (by omega)⟩
  have body : evSs (C (k + 4)) G.gl b20 (some (.box n) :: List.replicate 13 none) h = .ok (.rt (.bl true)) h6 := by
    unfold b20
    refine ss_next (s_asg eN rfl) ?_
    have lt : ∀ (v : Lt) (env : Mp.Env) (hp : HP), evE (C (k + 4)) G.gl (.lit v) env hp = .ok v.d hp := fun v env hp => by rw [evE]
    have e1' : callN prog G.gl (k + 4) 15 [.box n, .int 6] h1 = .ok (.int i1) h2 := e1
    have e2' : callN prog G.gl (k + 4) 15 [.box n, .int 13] h2 = .ok (.int i2) h3 := e2
    have a1 : evOp (.add false) [.int 1, .int i1] h2 = .ok (.int (1 + i1)) h2 := rfl
    have a2 : evOp (.add false) [.int 1, .int i2] h3 = .ok (.int S) h3 := by
      have e : (1 : Int) + i2 = S := by rw [← hS]; push_cast; omega
      show Rs.ok (D.int (1 + i2)) h3 = _
      rw [e]
    have qs : evOp (.sortset false) [.lst (T.map .str)] h2 = .ok (.lst (W.map .str)) h2 := by
      rw [← hW]
      exact sortset_ok (by omega) h2
    have qt : evOp .tupof [.lst (W.map .str)] h2 = .ok (.tup (W.map .str)) h2 := rfl
    refine ss_next (s_asg (d := .tup [.tup (W.map .str), .int S]) (h1 := h3) (e_tup (es_cons (d := .tup (W.map .str)) (h1 := h2) (e_op (es_one (e_op (es_one (d := .lst (T.map .str)) (h1 := h2) ?_) qs)) qt) (es_one (e_op (es_cons (lt _ _ _) (es_one (e_call (es_cons (e_loc rfl) (es_one (lt _ _ _))) e2'))) a2)))) rfl) ?_
    · have el : ∀ env : Mp.Env, env[1]? = some (some (.lst NS)) → evE (C (k + 4)) G.gl (.loc 1) env h1 = .ok (.lst NS) h1 := fun env e => e_loc e
      have en : ∀ env : Mp.Env, env[0]? = some (some (.box n)) → evE (C (k + 4)) G.gl (.op (.add false) (.cons (.lit (.int 1)) (.cons (.call 15 (.cons (.loc 0) (.cons (.lit (.int 6)) .nil))) .nil))) env h1 = .ok (.int (1 + i1)) h2 := fun env e =>
        e_op (es_cons (lt _ _ _) (es_one (e_call (es_cons (e_loc e) (es_one (lt _ _ _))) e1'))) a1
      rw [evE, el _ rfl, bnd_ok, evO, bnd_ok, evO, en _ rfl, bnd_ok, bnd_ok]
      show Rs.ok (D.lst (cutD NS none (some (1 + (i1 : Int))))) h2 = _
      have e : (1 + (i1 : Int)) = ((i1 + 1 : Nat) : Int) := by push_cast; omega
      rw [e, cut_to, ← hN, ← List.map_take, hT]
    refine ss_next (s_asg eO rfl) ?_
    refine ss_next (if_same (f := 9) (f' := 17) (i := 2) (xs := odd) (g := isName) rfl (by simp) lO (fun d hd => f9 (k + 3) (tO h3 d hd)) (fun d hd => f17 (k + 3) (tO h3 d hd))) ?_
    refine ss_next (s_asg eR rfl) ?_
    refine ss_next (s_asg eR2 rfl) ?_
    refine ss_next (if_same (f := 10) (f' := 18) (i := 3) (xs := nr2) (g := areWords) rfl (by simp) lR2 (fun d hd => f10w (k + 1) (tR2 h5 d hd)) (fun d hd => f18w (k + 2) (tR2 h5 d hd))) ?_
    refine ss_next (s_asg (e_call (es_cons (e_loc rfl) (es_one (e_loc rfl))) eV) rfl) ?_
    have eb : ∀ env : Mp.Env, evE (C (k + 4)) G.gl (.lst true .nil) env h5 = .ok (.box h5.length) (h5 ++ [.lst []]) := fun env => by
      rw [evE, evEs, bnd_ok]
      rfl
    refine ss_next (s_asg (eb _) rfl) ?_
    refine ss_next e9 ?_
    refine ss_next (s_ifF (t_or2 (t_op (by decide) (es_cons (e_op (es_one (e_loc rfl)) rpT) (es_one (e_op (es_one (e_op (es_one (e_loc rfl)) ?_)) rpT))) (ne_strs _ h6) rfl) (t_op (by decide) (es_cons (e_op (es_one (e_loc rfl)) (show evOp (.lstof false) [.tup (rolesD W S)] h6 = .ok (.lst (rolesD W S)) h6 from rfl)) (es_one (e_op (es_one (e_loc rfl)) (sorted_roles g hsize.2 h6)))) (ne_self okL h6) rfl))) ?_
    · simp only [evOp, evTupof, deref, hd9]
    have hc : ∀ env : Mp.Env, env[4]? = some (some (.tup (rolesD W S))) → env[7]? = some (some (.tup (W.map .str))) → env.length = 14 → evE (C (k + 4)) G.gl (.comp false [12, 13] (.tup (.cons (.nm 12) (.cons (.nm 13) .nil))) (.enm (.cons (.loc 4) .nil)) (.cons (.bop false (.cons (.op .ne (.cons (.call 11 (.cons (.loc 7) (.cons (.loc 13) .nil))) (.cons (.loc 12) .nil))) (.cons (.op .ne (.cons (.call 12 (.cons (.loc 7) (.cons (.loc 12) .nil))) (.cons (.loc 13) .nil))) .nil))) .nil) (.loc 12)) env h6 = .ok (.lst []) h6 := fun env q4 q7 ql => by
      have q := comp_of (cf := C (k + 4)) (gl := G.gl) (b := false) (own := [12, 13]) (t := .tup (.cons (.nm 12) (.cons (.nm 13) .nil))) (it := .enm (.cons (.loc 4) .nil)) (ifs := .cons (.bop false (.cons (.op .ne (.cons (.call 11 (.cons (.loc 7) (.cons (.loc 13) .nil))) (.cons (.loc 12) .nil))) (.cons (.op .ne (.cons (.call 12 (.cons (.loc 7) (.cons (.loc 12) .nil))) (.cons (.loc 13) .nil))) .nil))) .nil) (elt := .loc 12) (env := env) (h := h6) (iv := enumI (.tup (rolesD W S))) (xs := enumD 0 (rolesD W S)) (g := fun _ => [])
        (by
          have es : evEs (C (k + 4)) G.gl (.cons (.loc 4) .nil) env h6 = .ok [.tup (rolesD W S)] h6 := es_one (e_loc q4)
          rw [evI, es, bnd_ok]
          rfl) rfl (by rw [len_enumD]; unfold line; omega) (fun d hd acc => by
          obtain ⟨j, hj, ej⟩ := List.mem_iff_getElem.mp hd
          have hjl : j < (rolesD W S).length := by rwa [len_enumD] at hj
          have e := get_enumD (rolesD W S) 0 j
          rw [List.getElem?_eq_getElem hj, ej] at e
          have hjr : j < S * W.length := by
            unfold rolesD at hjl
            rwa [List.length_map, List.length_range] at hjl
          have er : (rolesD W S)[j]? = some (roleD W j) := by
            unfold rolesD
            rw [List.getElem?_map, List.getElem?_range hjr]
            rfl
          rw [er, Option.map_some, Nat.zero_add] at e
          have ed : d = .tup [.int (j : Nat), roleD W j] := Option.some.inj e
          subst ed
          have hj13 : j < 13 * W.length := Nat.lt_of_lt_of_le hjr (Nat.mul_le_mul_right _ hsize.2)
          have p1 : callN prog G.gl (k + 4) 11 [.tup (W.map .str), roleD W j] h6 = .ok (.int j) h6 := f11 k g j hj13
          have p2 : callN prog G.gl (k + 4) 12 [.tup (W.map .str), .int j] h6 = .ok (roleD W j) h6 := f12 k g j hj13
          have okR : (roleD W j).ok = true := (hro _ (List.mem_of_getElem? er)).ok (by decide)
          have n1 := ne_self (d := .int (j : Nat)) rfl h6
          have n2 := ne_self okR h6
          generalize hR : roleD W j = R at *
          have s1 : setTg (.tup (.cons (.nm 12) (.cons (.nm 13) .nil))) (.tup [.int (j : Nat), R]) (wipeD env [12, 13]) = some (((wipeD env [12, 13]).set 12 (some (.int (j : Nat)))).set 13 (some R)) := by simp [setTg, setTgs]
          generalize hE : ((wipeD env [12, 13]).set 12 (some (.int (j : Nat)))).set 13 (some R) = E2 at *
          have g7 : E2[7]? = some (some (.tup (W.map .str))) := by
            rw [← hE]
            simp only [wipeD]
            rw [List.getElem?_set_ne (by decide), List.getElem?_set_ne (by decide), List.getElem?_set_ne (by decide), List.getElem?_set_ne (by decide)]
            exact q7
          have g12 : E2[12]? = some (some (.int (j : Nat))) := by
            rw [← hE, List.getElem?_set_ne (by decide), List.getElem?_set_self (by simp [wipeD, ql])]
          have g13 : E2[13]? = some (some R) := by
            rw [← hE, List.getElem?_set_self (by simp [wipeD, ql])]
          have tt : evT (C (k + 4)) G.gl (.bop false (.cons (.op .ne (.cons (.call 11 (.cons (.loc 7) (.cons (.loc 13) .nil))) (.cons (.loc 12) .nil))) (.cons (.op .ne (.cons (.call 12 (.cons (.loc 7) (.cons (.loc 12) .nil))) (.cons (.loc 13) .nil))) .nil))) E2 h6 = .ok false h6 :=
            t_or2 (t_op (by decide) (es_cons (e_call (es_cons (e_loc g7) (es_one (e_loc g13))) p1) (es_one (e_loc g12))) n1 rfl) (t_op (by decide) (es_cons (e_call (es_cons (e_loc g7) (es_one (e_loc g12))) p2) (es_one (e_loc g13))) n2 rfl)
          unfold turnD
          rw [s1]
          dsimp only
          rw [evTs, tt]
          simp [Rs.noX])
      rw [q]
      have z : ((enumD 0 (rolesD W S)).flatMap fun _ => ([] : List D)) = [] := by simp
      rw [z]
      rfl
    refine ss_out (e_op (es_cons (hc _ rfl rfl rfl) (es_one (e_lstF es_nil))) ?_)
    exact eq_self' (d := .lst []) rfl h6
  show finD (evSs (C (k + 4)) G.gl b20 (some (.box n) :: List.replicate 13 none) h) = _
  rw [body]
  rfl
end K01

end
section
set_option maxRecDepth 100000
set_option maxHeartbeats 1000000
namespace K01
open PySem Mp
theorem ite_T {cf : Fns} {gl : Nat → D} {env : Mp.Env} {h h1 : HP} {c a b : E} {r : Rs D} (p : evT cf gl c env h = .ok true h1) (q : evE cf gl a env h1 = r) : evE cf gl (.ite c a b) env h = r := by
  rw [evE, p]
  exact q
theorem ite_F {cf : Fns} {gl : Nat → D} {env : Mp.Env} {h h1 : HP} {c a b : E} {r : Rs D} (p : evT cf gl c env h = .ok false h1) (q : evE cf gl b env h1 = r) : evE cf gl (.ite c a b) env h = r := by
  rw [evE, p]
  exact q
theorem f14 (k : Nat) {h : HP} {ns : List Int} {spot : Nat} (hs : spot < ns.length ∨ (ns = [] ∧ spot = 0)) (h1 : spot ≤ 1) : ∃ h', C (k + 1) 14 [scriptD ns, .int spot] h = .ok (.box h.length) h' ∧ Bw h.length h' 0 := by
  have lt : ∀ (v : Lt) (env : Mp.Env), evE (C k) G.gl (.lit v) env h = .ok v.d h := fun v env => e_lit v
  obtain ⟨cell, eC⟩ : ∃ cell : Int, evE (C k) G.gl (.ite (.op .lt (.cons (.loc 1) (.cons (.op .len (.cons (.loc 0) .nil)) .nil))) (.op .ix (.cons (.loc 0) (.cons (.loc 1) .nil))) (.op (.add false) (.cons (.op (.add false) (.cons (.op .mul (.cons (.lit (.int 127)) (.cons (.loc 1) .nil))) (.cons (.op .mul (.cons (.lit (.int 3)) (.cons (.op .sum (.cons (.sl (.loc 0) .nil (.cons (.lit (.int 2)) .nil)) .nil)) .nil))) .nil))) (.cons (.lit (.int 11)) .nil)))) [some (scriptD ns), some (.int spot), none, none] h = .ok (.int cell) h := by
    have len : evOp .len [scriptD ns] h = .ok (.int ns.length) h := by
      simp only [evOp, evLen, scriptD, List.length_map]
    have lo : evOp .lt [.int spot, .int ns.length] h = .ok (.bl (decide ((spot : Int) < ns.length))) h := rfl
    rcases hs with hs | ⟨rfl, rfl⟩
    · refine ⟨ns[spot], ite_T (t_op (by decide) (es_cons (e_loc rfl) (es_one (e_op (es_one (e_loc rfl)) len))) lo (by simp [truD]; omega)) (e_op (es_cons (e_loc rfl) (es_one (e_loc rfl))) ?_)⟩
      have e : L2.atI (ns.map D.int) (spot : Int) = some (.int ns[spot]) := atI_ok (by rw [List.getElem?_map, List.getElem?_eq_getElem hs]; rfl)
      simp only [evOp, evIx, scriptD, seqOf, e]
    · refine ⟨11, ite_F (t_op (by decide) (es_cons (e_loc rfl) (es_one (e_op (es_one (e_loc rfl)) len))) lo rfl) ?_⟩
      have m1 : evOp .mul [.int 127, .int ((0 : Nat) : Int)] h = .ok (.int 0) h := by
        simp only [evOp, evMul]
        rw [if_pos (by decide)]
        rfl
      have m2 : evOp .mul [.int 3, .int 0] h = .ok (.int 0) h := by
        simp only [evOp, evMul]
        rw [if_pos (by decide)]
        rfl
      have sl : ∀ env : Mp.Env, env[0]? = some (some (scriptD [])) → evE (C k) G.gl (.sl (.loc 0) .nil (.cons (.lit (.int 2)) .nil)) env h = .ok (.lst []) h := fun env e => by
        have el : evE (C k) G.gl (.loc 0) env h = .ok (scriptD []) h := e_loc e
        rw [evE, el, bnd_ok, evO, bnd_ok, evO, lt, bnd_ok]
        rfl
      exact e_op (es_cons (e_op (es_cons (e_op (es_cons (lt _ _) (es_one (e_loc rfl))) m1) (es_one (e_op (es_cons (lt _ _) (es_one (e_op (es_one (sl _ rfl)) (show evOp .sum [.lst []] h = .ok (.int 0) h from rfl)))) m2))) (show evOp (.add false) [.int 0, .int 0] h = .ok (.int 0) h from rfl)) (es_one (lt _ _))) rfl
  -- the great one
  have p1 : evOp .pow [.int 10, .int 59] h = .ok (.int (10 ^ 59)) h := by
    simp only [evOp, int2]
    rw [if_pos (by decide)]
    rfl
  have p2 : evOp .pow [.int (10 ^ 59), .int 2] h = .ok (.int (10 ^ 118)) h := by
    simp only [evOp, int2]
    rw [if_pos (by decide)]
    rfl
  have p3 : evOp .pow [.int 10, .int 16] h = .ok (.int (10 ^ 16)) h := by
    simp only [evOp, int2]
    rw [if_pos (by decide)]
    rfl
  have ab : evOp .abs [.int cell] h = .ok (.int (if cell < 0 then -cell else cell)) h := rfl
  generalize habs : (if cell < 0 then -cell else cell) = ac at ab
  have md : evOp .mod [.int ac, .int (10 ^ 118)] h = .ok (.int (ac % 10 ^ 118)) h := by
    simp only [evOp, int2]
    rw [if_pos (by decide)]
  generalize hgr : ac % 10 ^ 118 = gr at md
  have ti : ∀ i : Int, evOp .toint [.int i] h = .ok (.int i) h := fun i => rfl
  have tb : ∀ b : Bool, evOp .toint [.bl b] h = .ok (.int (if b then 1 else 0)) h := fun b => rfl
  have s1 : evOp .sub [.int gr, .int (10 ^ 16)] h = .ok (.int (gr - 10 ^ 16)) h := rfl
  have mx : evOp .max2 [.int 0, .int (gr - 10 ^ 16)] h = .ok (.int (if gr - 10 ^ 16 > 0 then gr - 10 ^ 16 else 0)) h := rfl
  have mm : evOp .mod [.int gr, .int 2305843009213693723] h = .ok (.int (gr % 2305843009213693723)) h := by
    simp only [evOp, int2]
    rw [if_pos (by decide)]
  have q0 : 0 ≤ gr % 2305843009213693723 := Int.emod_nonneg _ (by decide)
  have q1 : gr % 2305843009213693723 < 2305843009213693723 := Int.emod_lt_of_pos _ (by decide)
  generalize gr % 2305843009213693723 = q at mm q0 q1
  have m1 : evOp .mul [.int q, .int 47] h = .ok (.int (q * 47)) h := by
    simp only [evOp, evMul]
    rw [if_pos]
    have x1 := bits_le (i := q) (n := 64) (by omega)
    have x2 := bits_le (i := 47) (n := 64) (by decide)
    omega
  have m2 : evOp .mul [.int 5381, .int spot] h = .ok (.int (5381 * spot)) h := by
    simp only [evOp, evMul]
    rw [if_pos]
    have x1 := bits_le (i := (spot : Int)) (n := 64) (by omega)
    have x2 := bits_le (i := 5381) (n := 64) (by decide)
    omega
  have lo : evOp .lt [.int cell, .int 0] h = .ok (.bl (decide (cell < 0))) h := rfl
  have ad : ∀ i j : Int, evOp (.add false) [.int i, .int j] h = .ok (.int (i + j)) h := fun i j => rfl
  refine ⟨h ++ [.lst [.int (if gr - 10 ^ 16 > 0 then gr - 10 ^ 16 else 0), .int (q * 47 + 5381 * spot + (if decide (cell < 0) then 1 else 0) + 6), .int 0]], run_of (d := d14) rfl rfl ?_, ?_⟩
  · have body : evSs (C k) G.gl b14 [some (scriptD ns), some (.int spot), none, none] h = .ok (.rt (.box h.length)) (h ++ [.lst [.int (if gr - 10 ^ 16 > 0 then gr - 10 ^ 16 else 0), .int (q * 47 + 5381 * spot + (if decide (cell < 0) then 1 else 0) + 6), .int 0]]) := by
      unfold b14
      refine ss_next (s_asg eC rfl) (ss_next (s_asg (e_op (es_cons (e_op (es_one (e_op (es_one (e_loc rfl)) ab)) (ti _)) (es_one (e_op (es_cons (e_op (es_cons (lt _ _) (es_one (lt _ _))) p1) (es_one (lt _ _))) p2))) md) rfl) (ss_out ?_))
      have es : ∀ env : Mp.Env, env[1]? = some (some (.int spot)) → env[2]? = some (some (.int cell)) → env[3]? = some (some (.int gr)) → evEs (C k) G.gl (.cons (.op .max2 (.cons (.lit (.int 0)) (.cons (.op .sub (.cons (.loc 3) (.cons (.op .pow (.cons (.lit (.int 10)) (.cons (.lit (.int 16)) .nil))) .nil))) .nil))) (.cons (.op (.add false) (.cons (.op (.add false) (.cons (.op (.add false) (.cons (.op .mul (.cons (.op .mod (.cons (.op .toint (.cons (.loc 3) .nil)) (.cons (.lit (.int 2305843009213693723)) .nil))) (.cons (.lit (.int 47)) .nil))) (.cons (.op .mul (.cons (.lit (.int 5381)) (.cons (.loc 1) .nil))) .nil))) (.cons (.op .toint (.cons (.op .lt (.cons (.loc 2) (.cons (.lit (.int 0)) .nil))) .nil)) .nil))) (.cons (.lit (.int 6)) .nil))) (.cons (.lit (.int 0)) .nil))) env h = .ok [.int (if gr - 10 ^ 16 > 0 then gr - 10 ^ 16 else 0), .int (q * 47 + 5381 * spot + (if decide (cell < 0) then 1 else 0) + 6), .int 0] h := fun env g1 g2 g3 =>
        es_cons (e_op (es_cons (lt _ _) (es_one (e_op (es_cons (e_loc g3) (es_one (e_op (es_cons (lt _ _) (es_one (lt _ _))) p3))) s1))) mx) (es_cons (e_op (es_cons (e_op (es_cons (e_op (es_cons (e_op (es_cons (e_op (es_cons (e_op (es_one (e_loc g3)) (ti _)) (es_one (lt _ _))) mm) (es_one (lt _ _))) m1) (es_one (e_op (es_cons (lt _ _) (es_one (e_loc g1))) m2))) (ad _ _)) (es_one (e_op (es_one (e_op (es_cons (e_loc g2) (es_one (lt _ _))) lo)) (tb _)))) (ad _ _)) (es_one (lt _ _))) (ad _ _)) (es_one (lt _ _)))
      rw [evE, es _ rfl rfl rfl, bnd_ok]
      rfl
    show finD (evSs (C k) G.gl b14 _ h) = _
    erw [body]
    rfl
  · refine ⟨_, _, _, by rw [List.getElem?_append_right (Nat.le_refl _), Nat.sub_self]; rfl, ?_, ?_, ?_, Int.le_refl _, Int.le_refl _⟩
    · split <;> omega
    · split <;> omega
    · split <;> omega
def WS : List Str := ["guest", "staff"]
theorem gw_ws : GW WS where
  l1 := by decide
  l6 := by decide
  low := by
    have q : ∀ x ∈ WS, 1 ≤ x.length ∧ x.length ≤ 8 ∧ x.cps.toList.all (fun c => decide (97 ≤ c ∧ c ≤ 122)) = true := by decide +kernel
    intro x hx
    obtain ⟨a, b, d⟩ := q x hx
    exact ⟨a, b, fun c hc => of_decide_eq_true (List.all_eq_true.mp d c hc)⟩
  up := by decide +kernel
theorem t_loc {cf : Fns} {gl : Nat → D} {env : Mp.Env} {h : HP} {i : Nat} {d : D} {b : Bool} (p : env[i]? = some (some d)) (q : truD h d = some b) : evT cf gl (.loc i) env h = .ok b h := by
  rw [evT, p]
  dsimp only
  rw [q]
theorem f21 (k : Nat) (ns : List Int) : ∃ h', C (k + 6) 21 [scriptD ns] [] = .ok (.bl true) h' := by
  have lt : ∀ (v : Lt) (env : Mp.Env) (h : HP), evE (C (k + 5)) G.gl (.lit v) env h = .ok v.d h := fun v env h => e_lit v
  -- how many
  obtain ⟨m, hm, hI⟩ : ∃ m : Nat, (∀ i, i < m → (i < ns.length ∨ (ns = [] ∧ i = 0)) ∧ i ≤ 1) ∧ evI (C (k + 5)) G.gl (.rng (.cons (.op .max2 (.cons (.lit (.int 1)) (.cons (.op .min2 (.cons (.lit (.int 2)) (.cons (.op .len (.cons (.loc 0) .nil)) .nil))) .nil))) .nil)) [some (scriptD ns), none, none, none, none, none] [] = .ok (fun _ => some (rngD 0 m)) [] := by
    have len : evOp .len [scriptD ns] [] = .ok (.int ns.length) [] := by
      simp only [evOp, evLen, scriptD, List.length_map]
    have mn : evOp .min2 [.int 2, .int ns.length] [] = .ok (.int (if (ns.length : Int) < 2 then ns.length else 2)) [] := rfl
    have mx : ∀ j : Int, evOp .max2 [.int 1, .int j] [] = .ok (.int (if j > 1 then j else 1)) [] := fun j => rfl
    have es : ∀ env : Mp.Env, env[0]? = some (some (scriptD ns)) → evEs (C (k + 5)) G.gl (.cons (.op .max2 (.cons (.lit (.int 1)) (.cons (.op .min2 (.cons (.lit (.int 2)) (.cons (.op .len (.cons (.loc 0) .nil)) .nil))) .nil))) .nil) env [] = .ok [.int (if (if (ns.length : Int) < 2 then (ns.length : Int) else 2) > 1 then (if (ns.length : Int) < 2 then (ns.length : Int) else 2) else 1)] [] := fun env e =>
      es_one (e_op (es_cons (lt _ _ _) (es_one (e_op (es_cons (lt _ _ _) (es_one (e_op (es_one (e_loc e)) len))) mn))) (mx _))
    by_cases c : ns.length < 2
    · refine ⟨1, fun i hi => ⟨?_, by omega⟩, ?_⟩
      · have e : i = 0 := by omega
        subst e
        cases ns with
        | nil => exact .inr ⟨rfl, rfl⟩
        | cons n ns => exact .inl (Nat.zero_lt_succ _)
      · have e : (if (if (ns.length : Int) < 2 then (ns.length : Int) else 2) > 1 then (if (ns.length : Int) < 2 then (ns.length : Int) else 2) else 1) = 1 := by
          rw [if_pos (show (ns.length : Int) < 2 by omega), if_neg (by omega)]
        rw [evI, es _ rfl, bnd_ok, e]
        rfl
    · refine ⟨2, fun i hi => ⟨.inl (by omega), by omega⟩, ?_⟩
      have e : (if (if (ns.length : Int) < 2 then (ns.length : Int) else 2) > 1 then (if (ns.length : Int) < 2 then (ns.length : Int) else 2) else 1) = 2 := by
        rw [if_neg (show ¬ (ns.length : Int) < 2 by omega), if_pos (by decide)]
      rw [evI, es _ rfl, bnd_ok, e]
      rfl
  have hm2 : m ≤ 2 := by
    cases m with
    | zero => omega
    | succ j => have := (hm j (Nat.lt_succ_self j)).2; omega
  obtain ⟨env1, h1, e1, el1, e01⟩ := s_for (cf := C (k + 5)) (gl := G.gl) (t := .nm 1) (it := .rng (.cons (.op .max2 (.cons (.lit (.int 1)) (.cons (.op .min2 (.cons (.lit (.int 2)) (.cons (.op .len (.cons (.loc 0) .nil)) .nil))) .nil))) .nil))
    (body := .cons (.asg (.nm 4) (.call 14 (.cons (.loc 0) (.cons (.loc 1) .nil)))) (.cons (.for (.nm 5) (.rng (.cons (.lit (.int 4)) .nil)) (.cons (.ifs (.op .not (.cons (.call 20 (.cons (.loc 4) .nil)) .nil)) (.cons (.ret (.lit (.bl false))) .nil) .nil) .nil)) .nil))
    (env := [some (scriptD ns), none, none, none, none, none]) (iv := fun _ => some (rngD 0 m)) (xs := rngD 0 m)
    (fun i e h => e.length = 6 ∧ e[0]? = some (some (scriptD ns))) hI (fun _ _ _ _ => rfl) (by rw [len_rngD]; unfold line; omega) ⟨rfl, rfl⟩
    (fun i d e h hd ⟨el, e0⟩ => by
      have hi : i < m := by
        have := (List.getElem?_eq_some_iff.mp hd).1
        rwa [len_rngD] at this
      have ed : d = .int (i : Nat) := by
        rw [get_rngD m 0 i hi, Int.zero_add] at hd
        exact (Option.some.inj hd).symm
      subst ed
      obtain ⟨q1, q2⟩ := hm i hi
      obtain ⟨h2, eb, bw⟩ := f14 (k + 4) (h := h) q1 q2
      have eb' : callN prog G.gl (k + 5) 14 [scriptD ns, .int i] h = .ok (.box h.length) h2 := eb
      generalize hE : (e.set 1 (some (.int (i : Nat)))).set 4 (some (.box h.length)) = E2
      have l2 : E2.length = 6 := by rw [← hE]; simp [el]
      have g0 : E2[0]? = some (some (scriptD ns)) := by
        rw [← hE, List.getElem?_set_ne (by decide), List.getElem?_set_ne (by decide)]
        exact e0
      have g4 : E2[4]? = some (some (.box h.length)) := by
        rw [← hE, List.getElem?_set_self (by simp [el])]
      obtain ⟨env3, h3, e3, l3, g03, g43, b3⟩ := s_for (cf := C (k + 5)) (gl := G.gl) (t := .nm 5) (it := .rng (.cons (.lit (.int 4)) .nil)) (body := .cons (.ifs (.op .not (.cons (.call 20 (.cons (.loc 4) .nil)) .nil)) (.cons (.ret (.lit (.bl false))) .nil) .nil) .nil)
        (env := E2) (h := h2) (h1 := h2) (iv := fun _ => some (rngD 0 4)) (xs := rngD 0 4)
        (fun j e' h' => e'.length = 6 ∧ e'[0]? = some (some (scriptD ns)) ∧ e'[4]? = some (some (.box h.length)) ∧ Bw h.length h' (60 * j)) (by
          rw [evI, es_one (lt _ _ _), bnd_ok]
          rfl) (fun _ _ _ _ => rfl) (by decide) ⟨l2, g0, g4, bw.mono (by simp)⟩ (fun j d e' h' hd ⟨z1, z2, z3, z4⟩ => by
          have hj : j < 4 := (List.getElem?_eq_some_iff.mp hd).1
          obtain ⟨h5, e5, b5⟩ := f20 k h.length z4 (by omega)
          have e5' : callN prog G.gl (k + 5) 20 [.box h.length] h' = .ok (.bl true) h5 := e5
          have y4 : (e'.set 5 (some d))[4]? = some (some (.box h.length)) := by rw [List.getElem?_set_ne (by decide)]; exact z3
          refine ⟨e'.set 5 (some d), e'.set 5 (some d), h5, rfl, ?_, by rw [List.length_set]; exact z1, by rw [List.getElem?_set_ne (by decide)]; exact z2, y4, b5.mono (by push_cast; omega)⟩
          exact ss_next (s_ifF (t_notT (t_call (es_one (e_loc y4)) e5' rfl))) (by rw [evSs]))
      have x0 : (e.set 1 (some (.int (i : Nat))))[0]? = some (some (scriptD ns)) := by rw [List.getElem?_set_ne (by decide)]; exact e0
      have x1 : (e.set 1 (some (.int (i : Nat))))[1]? = some (some (.int (i : Nat))) := List.getElem?_set_self (by rw [el]; decide)
      refine ⟨e.set 1 (some (.int (i : Nat))), env3, h3, rfl, ss_next (s_asg (e_call (es_cons (e_loc x0) (es_one (e_loc x1))) eb') rfl) ?_, l3, g03⟩
      show evSs (C (k + 5)) G.gl _ ((e.set 1 (some (.int (i : Nat)))).set 4 (some (.box h.length))) h2 = _
      rw [hE]
      exact ss_next e3 (by rw [evSs]))
  -- the end
  have c1 : callN prog G.gl (k + 5) 11 [.tup (WS.map .str), roleD WS 5] h1 = .ok (.int 5) h1 := f11 (k + 1) gw_ws 5 (by decide)
  have c2 : callN prog G.gl (k + 5) 12 [.tup (WS.map .str), .int 4] h1 = .ok (roleD WS 4) h1 := f12 (k + 1) gw_ws 4 (by decide)
  have c3 : callN prog G.gl (k + 5) 13 [.int 1, .tup (WS.map .str)] h1 = .ok (.tup (rolesD WS 1)) h1 := f13 (k + 1) gw_ws 1 (by decide) (by decide)
  have c4 : callN prog G.gl (k + 5) 9 [.str "Guest"] h1 = .ok (.bl false) h1 := by
    have e := f9 (k + 4) (h := h1) (d := .str "Guest") (tst_str (by decide +kernel) (by decide +kernel))
    have n : isName (.str "Guest") = false := by decide +kernel
    rw [n] at e
    exact e
  have c5 : callN prog G.gl (k + 5) 11 [.tup (WS.map .str), roleD WS 24] h1 = .ok (.int 24) h1 := f11 (k + 1) gw_ws 24 (by decide)
  let told : List D := [.int 5, roleD WS 4, .tup (rolesD WS 1), .bl false, .int 8, .int 6, .int 24]
  have rt : RO 3 400 (.lst told) := by
    have r1 : RO 2 50 (.tup (rolesD WS 1)) := (ro_tup (ro_roles gw_ws (s := 1) (by decide))).mono (Nat.le_refl _) (by decide)
    refine (ro_lst (k := 2) (m := 50) (ds := told) fun d hd => ?_).mono (Nat.le_refl _) (by show 51 * 7 ≤ 400; decide)
    · simp only [told, List.mem_cons, List.not_mem_nil, or_false] at hd
      rcases hd with rfl | rfl | rfl | rfl | rfl | rfl | rfl
      · exact (ro_nat (n := 5) (by decide)).mono (by decide) (by decide)
      · exact (ro_role gw_ws (n := 4) (by decide)).mono (by decide) (by decide)
      · exact r1
      · exact (ro_bl false).mono (by decide) (by decide)
      · exact (ro_nat (n := 8) (by decide)).mono (by decide) (by decide)
      · exact (ro_nat (n := 6) (by decide)).mono (by decide) (by decide)
      · exact (ro_nat (n := 24) (by decide)).mono (by decide) (by decide)

  have rp := rt.repr (by decide) (by decide) h1
  refine ⟨h1, run_of (d := d21) rfl rfl ?_⟩
  have body : evSs (C (k + 5)) G.gl b21 [some (scriptD ns), none, none, none, none, none] [] = .ok (.rt (.bl true)) h1 := by
    unfold b21
    refine ss_next e1 ?_
    generalize hE : env1.set 2 (some (.tup (WS.map .str))) = E2
    have l2 : E2.length = 6 := by rw [← hE]; simp [el1]
    have g2 : E2[2]? = some (some (.tup (WS.map .str))) := by rw [← hE]; exact List.getElem?_set_self (by rw [el1]; decide)
    refine ss_next (env' := E2) (s_asg (d := .tup (WS.map .str)) (e_tup (es_cons (lt _ _ _) (es_one (lt _ _ _)))) (by show some (env1.set 2 _) = some E2; rw [← hE])) ?_
    have g3 : (E2.set 3 (some (.lst told)))[3]? = some (some (.lst told)) := List.getElem?_set_self (by rw [l2]; decide)
    refine ss_next (env' := E2.set 3 (some (.lst told))) (s_asg (d := .lst told) (e_lstF ?_) rfl) (ss_out (e_op (es_cons (e_op (es_one (e_loc g3)) rp) (es_one (e_op (es_one (e_lstF ?_)) rp))) (eq_strs _ _)))
    · refine es_cons (e_call (es_cons (e_loc g2) (es_one (e_tup (es_cons (lt _ _ _) (es_one (lt _ _ _)))))) c1) (es_cons (e_call (es_cons (e_loc g2) (es_one (lt _ _ _))) c2) (es_cons (e_call (es_cons (lt _ _ _) (es_one (e_loc g2))) c3) (es_cons (e_call (es_one (lt _ _ _)) c4) (es_cons (e_glo 2) (es_cons (e_glo 1) (es_one (e_call (es_cons (e_loc g2) (es_one (e_tup (es_cons (lt _ _ _) (es_one (lt _ _ _)))))) c5)))))))
    · exact es_cons (lt _ _ _) (es_cons (e_tup (es_cons (lt _ _ _) (es_one (lt _ _ _)))) (es_cons (e_tup (es_cons (e_tup (es_cons (lt _ _ _) (es_one (lt _ _ _)))) (es_one (e_tup (es_cons (lt _ _ _) (es_one (lt _ _ _))))))) (es_cons (lt _ _ _) (es_cons (lt _ _ _) (es_cons (lt _ _ _) (es_one (lt _ _ _)))))))
  show finD (evSs (C (k + 5)) G.gl b21 _ []) = _
  erw [body]
  rfl
end K01

end
theorem PySem.Challenge.cw_strangercome_k01_whole_names_and_roles_holds : PySem.Challenge.rw_strangercome_k01_whole_names_and_roles.Holds := by
  exact K01.holds_of fun ns _ => K01.f21 10 ns
