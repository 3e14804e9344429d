import PyProof.Rows.All
import Wide.All
import OpenK.AllK
import Wide.FinOn
import HandS.ForMost
import HandS.ForExc
import HandS.Wide
import HandS.WideBits
import HandS.IsInst
import HandS.CallSlots
import HandS.TupAny
import HandS.Style
import HandS.Deep
import HandS.Flow
import HandS.Text
import HandS.StrMore
import KE.DataAny
import HandS.TupMul
import HandS.RaiseMore
import HandS.EndBits
import HandS.ExcInit
import HandS.ExcIs
import HandS.ExcField
import HandS.TryOnly
import HandS.FStr
import HandS.Zip
import KE.GoesMore
import KE.GoesEnum
import PyProof.EnumMake
import KE.KExcIs
import HandS.NoneIn
import KE.DataEq
import PyProof.Rows.StrFirst
import PySem.Challenge.RW_heldshapes_k04_texts_of_numbers
set_option Elab.async false
set_option linter.all false
set_option maxRecDepth 100000
set_option maxHeartbeats 4000000
/-! MP: a small deterministic language that the given program's defs are read as; its run is a plain total function. -/
namespace MP
open PySem

/-- values; lists (lst) are values that nobody changes any more, rol lists that are only read (the script, the module's), ref n is the n-th object of the small heap -/
inductive Val where
  | non | bl (b : Bool) | int (i : Int) | str (s : Str)
  | tup (xs : List Val) | lst (xs : List Val) | rol (xs : List Val) | dct (ks : List L2.Key) (vs : List Val) | ref (n : Nat) | ty (s : String)
  | cls (i : Nat) | ins (c : Nat) (fs : List Val)

/-- what may be changed: a list -/
inductive Obj where
  | lst (xs : List Val)
  | ins (c : Nat) (fs : List Val)

abbrev Heap := List Obj
abbrev Loc := List (Option Val)

theorem rr {A : Sort _} {a b : A} (h : a = b) : a = b := h
/-- a result: a value and the heap; an error of the class c with its field; or no word -/
inductive Res (T : Type) where
  | ok (a : T) (h : Heap)
  | exc (c : Nat) (v : Val) (h : Heap)
  | bad

def Res.bind {S T : Type} (r : Res S) (k : S → Heap → Res T) : Res T :=
  match r with
  | .ok a h => k a h
  | .exc c v h => .exc c v h
  | .bad => .bad
@[simp] theorem bind_ok {S T : Type} (a : S) (h : Heap) (k : S → Heap → Res T) : (Res.ok a h).bind k = k a h := rr rfl
@[simp] theorem bind_exc {S T : Type} (c : Nat) (v : Val) (h : Heap) (k : S → Heap → Res T) : (Res.exc c v h : Res S).bind k = .exc c v h := rr rfl
@[simp] theorem bind_bad {S T : Type} (k : S → Heap → Res T) : (Res.bad : Res S).bind k = .bad := rr rfl
def Res.opt {S T : Type} (o : Option S) (k : S → Res T) : Res T :=
  match o with
  | some a => k a
  | none => .bad
@[simp] theorem opt_some {S T : Type} (a : S) (k : S → Res T) : Res.opt (some a) k = k a := rr rfl
@[simp] theorem opt_none {S T : Type} (k : S → Res T) : Res.opt (none : Option S) k = .bad := rr rfl

mutual
/-- no object of the heap from b on is met -/
def refsLt (b : Nat) : Val → Bool
  | .ref n => decide (n < b)
  | .tup xs => refsLtL b xs
  | .lst xs => refsLtL b xs
  | .rol xs => refsLtL b xs
  | .dct _ vs => refsLtL b vs
  | .ins _ vs => refsLtL b vs
  | _ => true
def refsLtL (b : Nat) : List Val → Bool
  | [] => true
  | x :: xs => refsLt b x && refsLtL b xs
end
/-- no object of the heap is met at all -/
abbrev pure0 (v : Val) : Bool := refsLt 0 v
abbrev pureL (vs : List Val) : Bool := refsLtL 0 vs

/-- the built-in functions -/
inductive Bi where
  | abs | max2 | min2 | len | int | isi | any | all | tup | lst | repr | sum | str

/-- the methods of built-in types -/
inductive Bm where
  | bits | reverse | append | extend | join

/-- the methods of texts that take one text -/
inductive Tm where
  | startswith | split | find | index

inductive T where
  | nm (i : Nat)
  | nl | cs (t r : T)
  | tup (ts : T)

inductive E where
  | var (i : Nat)
  | con (v : Val)
  | bt (n : String)
  | glo (x : Str)
  | nl | cs (a r : E)
  | tup (es : E)
  | lst (k : Bool) (es : E)
  | bin (op : Operator) (a b : E)
  | neg (a : E)
  | cmp (op : CmpOp) (a b : E)
  | chn (op1 op2 : CmpOp) (a b c : E)
  | d0
  | d1 (k : L2.Key) (v : Val)
  | sl (a lo hi : E)
  | lc (k : Bool) (t : T) (own : List Nat) (it cd elt : E)
  | and (a b : E) | or (a b : E) | not (a : E)
  | tst (e : E)
  | ife (c a b : E)
  | cal (f : Nat) (es : E)
  | bi (f : Bi) (es : E)
  | bm (m : Bm) (o es : E)
  | ix (a b : E)
  | iSeq (e : E)
  | iRng (es : E)
  | cl (i : Nat)
  | new (k : Bool) (c : Nat) (es : E)
  | fld (o : E) (f : Str)
  | mth (m : Str) (o es : E)
  | xf (i : Nat) (f : Str)
  | xi (i c : Nat)
  | xt (i : Nat) (t : String)
  | iZip (es : E)
  | iEnu (es : E)
  | rev (a s : E)
  | isC (a : E) (j : Nat)
  | xiT (i : Nat) (e : E)
  | lH (a : E)
  | tm (m : Tm) (o a : E)
  | itx (a : E)
  | fmt (a : E)
  | fst (es : E)

inductive S where
  | nop
  | seq (s r : S)
  | asg (t : T) (e : E)
  | asgc (i : Nat) (e : E)
  | par (i j : Nat) (es : E)
  | setix (o i e : E)
  | ret (e : E)
  | exp (e : E)
  | ite (c : E) (a b : S)
  | whl (c : E) (b : S)
  | for_ (t : T) (it : E) (b : S)
  | scope (b : S)
  | brk
  | setf (o : E) (f : Str) (e : E)
  | rais (c : Nat) (es : E)
  | tri (b : S) (c : Nat) (i : Option Nat) (s : S)
  | unl (ts : T) (e : E)
  | gif (i n : Nat) (a b : S)
  | aug (i : Nat) (e : E)

abbrev bits (i : Int) : Nat := Builtin.Int.intBits i

/-- the list that a value reads as -/
def asL (h : Heap) : Val → Option (List Val)
  | .lst xs => some xs
  | .rol xs => some xs
  | .ref n => match h[n]? with
    | some (.lst xs) => some xs
    | _ => none
  | _ => none
def asSeq (h : Heap) : Val → Option (List Val)
  | .tup xs => some xs
  | v => asL h v

def binI : Operator → Int → Int → Option Val
  | .Add, i, j => some (.int (i + j))
  | .Sub, i, j => some (.int (i - j))
  | .Mult, i, j => if bits i + bits j ≤ 134217728 then some (.int (i * j)) else none
  | .FloorDiv, i, j => if j ≠ 0 ∧ Builtin.divisionGoesByPylong i j = false then some (.int (i.fdiv j)) else none
  | .Mod, i, j => if j ≠ 0 then some (.int (i.fmod j)) else none
  | .Pow, i, j => if 0 ≤ j ∧ (bits i : Int) * j ≤ 2 ^ 27 then some (.int (i ^ j.toNat)) else none
  | .LShift, i, j => if 0 ≤ j ∧ (bits i : Int) + j ≤ 2 ^ 27 then some (.int (i * 2 ^ j.toNat)) else none
  | _, _, _ => none
/-- a list that is no read-only one -/
def asT (h : Heap) : Val → Option (List Val)
  | .lst xs => some xs
  | .ref n => match h[n]? with
    | some (.lst xs) => some xs
    | _ => none
  | _ => none
def catO (h : Heap) (a b : Val) : Option Val :=
  match a, b with
  | .str x, .str y => if x.length + y.length ≤ 16777216 then some (.str (x ++ y)) else none
  | .tup xs, .tup ys => if xs.length + ys.length ≤ 100000 then some (.tup (xs ++ ys)) else none
  | a, b => match asT h a, asT h b with
    | some xs, some ys => if xs.length + ys.length ≤ 100000 then some (.lst (xs ++ ys)) else none
    | _, _ => none
/-- a row so many times -/
def mulO (h : Heap) (a b : Val) : Option Val :=
  match a, b with
  | .tup xs, .int k => if xs.isEmpty = false ∧ 0 ≤ k ∧ k ≤ 300 ∧ xs.length ≤ 300 then some (.tup (List.replicate k.toNat xs).flatten) else none
  | a, .int k => match asT h a with
    | some xs => if 0 ≤ k ∧ k ≤ 300 ∧ xs.length ≤ 300 then some (.lst (List.replicate k.toNat xs).flatten) else none
    | _ => none
  | _, _ => none
def binop (h : Heap) (op : Operator) (a b : Val) : Option Val :=
  match a, b with
  | .int i, .int j => binI op i j
  | a, b => match op with
    | .Add => catO h a b
    | .Mult => mulO h a b
    | _ => none

mutual
/-- a value as data -/
def data0 : Val → Option PyData
  | .non => some .none
  | .bl b => some (.bool b)
  | .int i => some (.int i)
  | .str x => some (.str x)
  | .tup xs => (dataL xs).map .tuple
  | .lst xs => (dataL xs).map .list
  | .rol xs => (dataL xs).map .list
  | _ => none
def dataL : List Val → Option (List PyData)
  | [] => some []
  | x :: xs => (data0 x).bind fun d => (dataL xs).map fun ds => d :: ds
end
def dataV (h : Heap) (v : Val) : Option PyData := match v with
  | .ref n => match h[n]? with
    | some (.lst xs) => (dataL xs).map .list
    | _ => none
  | v => data0 v

def cmpI : CmpOp → Int → Int → Option Bool
  | .Eq, i, j => some (decide (i = j))
  | .NotEq, i, j => some (!decide (i = j))
  | .Lt, i, j => some (decide (i < j))
  | .LtE, i, j => some (decide (i ≤ j))
  | .Gt, i, j => some (decide (j < i))
  | .GtE, i, j => some (decide (j ≤ i))
  | _, _, _ => none
/-- y in x, texts -/
def strIn (y x : Str) : Bool := !(Builtin.Str.occurrences x y 0 x.length 1).isEmpty
def cmpS : CmpOp → Str → Str → Option Bool
  | .Eq, i, j => some (decide (i = j))
  | .NotEq, i, j => some (!decide (i = j))
  | .Lt, i, j => some (decide (i.cps.toList < j.cps.toList))
  | .LtE, i, j => some (!decide (j.cps.toList < i.cps.toList))
  | .Gt, i, j => some (decide (j.cps.toList < i.cps.toList))
  | .GtE, i, j => some (!decide (i.cps.toList < j.cps.toList))
  | .In, i, j => some (strIn i j)
  | .NotIn, i, j => some (!strIn i j)
  | _, _, _ => none
def eqD (h : Heap) (a b : Val) : Option Bool :=
  match dataV h a, dataV h b with
  | some d, some e => if SeqAt.shaped d = true ∧ SeqAt.shaped e = true then some (PyData.eqv d e) else none
  | _, _ => none
def isO (a b : Val) : Option Bool :=
  match a, b with
  | a, .non => some (match a with | .non => true | _ => false)
  | .bl x, .bl y => some (decide (x = y))
  | a, .bl _ => (match a with | .ty _ => none | _ => some false)
  | _, _ => none
/-- x in a list -/
def inO (h : Heap) (a b : Val) : Option Bool :=
  match dataV h a, dataV h b with
  | some d, some (.list ds) => if SeqAt.shaped d = true ∧ SeqAt.shaped (.list ds) = true then some (ds.any fun z => PyData.eqv z d) else none
  | some d, some (.tuple ds) => if SeqAt.shaped d = true ∧ SeqAt.shaped (.tuple ds) = true then some (ds.any fun z => PyData.eqv z d) else none
  | _, _ => none
def cmpV (h : Heap) (op : CmpOp) (a b : Val) : Option Bool :=
  match op with
  | .Eq => eqD h a b
  | .NotEq => (eqD h a b).map (!·)
  | .Is => isO a b
  | .IsNot => (isO a b).map (!·)
  | .In => inO h a b
  | .NotIn => (inO h a b).map (!·)
  | _ => none
def cmpop (h : Heap) (op : CmpOp) (a b : Val) : Option Bool :=
  match a, b with
  | .int i, .int j => cmpI op i j
  | .str x, .str y => cmpS op x y
  | a, b => cmpV h op a b
/-- a value's truth -/
def truO (h : Heap) : Val → Option Bool
  | .bl b => some b
  | .int i => some (decide (i ≠ 0))
  | .str x => if x.length ≤ 16777216 then some (decide (x.length ≠ 0)) else none
  | .non => some false
  | .tup xs => some (!xs.isEmpty)
  | .lst xs => some (!xs.isEmpty)
  | .rol xs => some (!xs.isEmpty)
  | .ref n => match h[n]? with
    | some (.lst xs) => some (!xs.isEmpty)
    | _ => none
  | _ => none
/-- a part, from lo to hi -/
def cutL (xs : List Val) (lo hi : Option Int) : List Val := (xs.drop (HT.sIx xs.length 0 lo)).take (HT.sIx xs.length xs.length hi - HT.sIx xs.length 0 lo)
def slO (h : Heap) (a : Val) (lo hi : Option Int) : Option Val :=
  match a with
  | .str x => if x.length ≤ 16777216 then some (.str (L2.cutS x lo hi)) else none
  | .tup xs => some (.tup (cutL xs lo hi))
  | a => (asL h a).map fun xs => .lst (cutL xs lo hi)
/-- a tuple turned about -/
def revO : Val → Val → Option Val
  | .tup xs, .int i => if i = -1 then some (.tup xs.reverse) else none
  | _, _ => none
def strsOf : List Val → Option (List Str)
  | [] => some []
  | .str x :: r => (strsOf r).map fun ys => x :: ys
  | _ => none

/-- the name of a value's type -/
def tyName (h : Heap) : Val → Option String
  | .non => some "NoneType"
  | .bl _ => some "bool"
  | .int _ => some "int"
  | .str _ => some "str"
  | .tup _ => some "tuple"
  | .lst _ => some "list"
  | .rol _ => some "list"
  | .dct _ _ => some "dict"
  | .ref n => match h[n]? with
    | some (.lst _) => some "list"
    | _ => none
  | _ => none

/-- the truth of a number or a bool -/
def truB : Val → Option Bool
  | .bl b => some b
  | .int i => some (decide (i ≠ 0))
  | _ => none
def truL : List Val → Option (List Bool)
  | [] => some []
  | x :: xs => (truB x).bind fun b => (truL xs).map fun bs => b :: bs
def intL : List Val → Option (List Int)
  | [] => some []
  | .int i :: xs => (intL xs).map fun is => i :: is
  | _ => none
mutual
/-- a value as data, an empty dict among it -/
def dataR : Val → Option PyData
  | .non => some .none
  | .bl b => some (.bool b)
  | .int i => some (.int i)
  | .str x => some (.str x)
  | .tup xs => (dataRL xs).map .tuple
  | .lst xs => (dataRL xs).map .list
  | .rol xs => (dataRL xs).map .list
  | .dct [] _ => some (.dict [])
  | _ => none
def dataRL : List Val → Option (List PyData)
  | [] => some []
  | x :: xs => (dataR x).bind fun d => (dataRL xs).map fun ds => d :: ds
end
def dataW (h : Heap) (v : Val) : Option PyData := match v with
  | .ref n => match h[n]? with
    | some (.lst xs) => (dataRL xs).map .list
    | _ => none
  | v => dataR v
mutual
def noLst : PyData → Bool
  | .list _ => false
  | .tuple xs => noLstL xs
  | _ => true
def noLstL : List PyData → Bool
  | [] => true
  | x :: xs => noLst x && noLstL xs
end
/-- the text that shows data -/
def shownO (h : Heap) (v : Val) : Option Str :=
  match dataW h v with
  | some d => if d.showable = true ∧ d.depth ≤ 20 ∧ d.shown.length ≤ 1000000 ∧ (d.hasDict = false ∨ noLst d = true) then some d.shown else none
  | none => none
def strO (h : Heap) (v : Val) : Option Str :=
  match v with
  | .str x => some x
  | .int i => shownO h (.int i)
  | .tup xs => shownO h (.tup xs)
  | .lst xs => shownO h (.lst xs)
  | _ => none
def biF (h : Heap) : Bi → List Val → Option Val
  | .any, [v] => ((asSeq h v).bind truL).map fun bs => .bl (bs.any id)
  | .all, [v] => ((asSeq h v).bind truL).map fun bs => .bl (bs.all id)
  | .sum, [v] => ((asL h v).bind intL).map fun is => .int is.sum
  | .tup, [v] => (asSeq h v).map .tup
  | .lst, [v] => (asSeq h v).map .lst
  | .repr, [v] => (shownO h v).map .str
  | .str, [v] => (strO h v).map .str
  | .abs, [.int i] => some (.int (if i < 0 then -i else i))
  | .max2, [.int i, .int j] => some (.int (if j > i then j else i))
  | .min2, [.int i, .int j] => some (.int (if j < i then j else i))
  | .len, [.str x] => if x.length ≤ 16777216 then some (.int x.length) else none
  | .len, [v] => match asSeq h v with
    | some xs => some (.int xs.length)
    | none => none
  | .int, [.int i] => some (.int i)
  | .int, [.bl b] => some (.int (if b then 1 else 0))
  | .isi, [v, .ty n] => match tyName h v with
    | some t => (L2.kitB t n).map .bl
    | none => none
  | _, _ => none

/-- a value behind the list n -/
def appO (h : Heap) (n : Nat) (v : Val) : Option Heap := match h[n]? with
  | some (.lst xs) => if pure0 v = true ∧ xs.length < 100000 then some (h.set n (.lst (xs ++ [v]))) else none
  | _ => none
def extO (h : Heap) (n : Nat) (ys : List Val) : Option Heap := match h[n]? with
  | some (.lst xs) => if refsLtL 0 ys = true ∧ xs.length + ys.length ≤ 100000 then some (h.set n (.lst (xs ++ ys))) else none
  | _ => none
/-- what a method is asked of -/
def isLstO : Option Obj → Bool
  | some (.lst _) => true
  | _ => false
def bmTy (h : Heap) : Bm → Val → Bool
  | .bits, .int _ => true
  | .reverse, .ref n => isLstO h[n]?
  | .append, .ref n => isLstO h[n]?
  | .extend, .ref n => isLstO h[n]?
  | .join, .str _ => true
  | _, _ => false
/-- a method of a built-in type: the value and the heap behind it -/
def bmF (h : Heap) : Bm → Val → List Val → Option (Val × Heap)
  | .bits, .int i, [] => some (.int (bits i : Nat), h)
  | .reverse, .ref n, [] => match h[n]? with
    | some (.lst xs) => some (.non, h.set n (.lst xs.reverse))
    | _ => none
  | .append, .ref n, [v] => (appO h n v).map fun h2 => (.non, h2)
  | .extend, .ref n, [.lst ys] => (extO h n ys).map fun h2 => (.non, h2)
  | .join, .str a, [v] => match (asSeq h v).bind strsOf with
    | some ys => if (ys.map (·.length)).sum + ys.length * a.length ≤ 16777216 then some (.str (Txt.join a ys), h) else none
    | none => none
  | _, _, _ => none

/-- the tables: the module's values, which class stands under which, fields, methods, an error's field -/
structure Tb where
  gv : Str → Option Val
  sub : Nat → Nat → Bool
  subT : Nat → String → Bool
  fl : Nat → List Str
  mt : Nat → Str → Option Nat
  xf : Nat → Option Str
  isX : Nat → Bool
  isC : Nat → Bool
  bt : String → Bool
  isI : Nat → Bool
/-- where one stands: the calls of defs, those of an __init__, the measure of a while, the tables, the error that is handled, the level -/
structure Cf where
  call : Nat → List Val → Heap → Res Val
  call1 : Nat → List Val → Heap → Res Val
  W : Nat
  t : Tb
  exn : Option (Nat × Val)
  lv : Nat

/-- items of a range -/
def rangeL (lo : Int) : Nat → List Val
  | 0 => []
  | n + 1 => .int lo :: rangeL (lo + 1) n

mutual
/-- a value to a target -/
def store : T → Val → Loc → Option Loc
  | .nm i, v, l => some (l.set i (some v))
  | .tup ts, v, l => match v with
    | .tup xs => storeL ts xs l
    | _ => none
  | _, _, _ => none
def storeL : T → List Val → Loc → Option Loc
  | .nl, [], l => some l
  | .cs t r, x :: xs, l => (store t x l).bind fun l1 => storeL r xs l1
  | _, _, _ => none
end

/-- two values to two names -/
def store2 (i j : Nat) (vs : List Val) (l : Loc) : Option Loc := match vs with
  | [x, y] => some ((l.set i (some x)).set j (some y))
  | _ => none
/-- nothing raised is let by -/
def Res.noX {A : Type} (r : Res A) : Res A := match r with
  | .ok a h => .ok a h
  | _ => .bad
@[simp] theorem noX_ok {A : Type} (a : A) (h : Heap) : (Res.ok a h).noX = .ok a h := rr rfl
@[simp] theorem noX_bad {A : Type} : (Res.bad : Res A).noX = .bad := rr rfl
/-- the turns of a comprehension; its list is the object n -/
def compL (tst : Loc → Heap → Res Bool) (el : Loc → Heap → Res Val) (t : T) (l0 : Loc) (n : Nat) : List Val → Heap → Res Unit
  | [], h => .ok () h
  | x :: xs, h => Res.opt (store t x l0) fun l1 => (tst l1 h).noX.bind fun b h1 =>
      if b then (el l1 h1).noX.bind fun y h2 => Res.opt (appO h2 n y) fun h3 => compL tst el t l0 n xs h3 else compL tst el t l0 n xs h1
/-- behind a comprehension: its list as an object, or as a value -/
def compF (k : Bool) (n : Nat) (h : Heap) : Res Val := if k then .ok (.ref n) h else match h[n]? with
  | some (.lst ys) => .ok (.lst ys) (h.take n)
  | _ => .bad
/-- the slots of a comprehension's own names forgotten -/
def wipeL (l : Loc) : List Nat → Loc
  | [] => l
  | v :: vs => (wipeL l vs).set v none
/-- the items of a value that is walked -/
def seqItems (x : Val) (h : Heap) : Res (List Val) := match x with
  | .lst xs => .ok xs h
  | .rol xs => .ok xs h
  | .tup xs => .ok xs h
  | .str x => .ok (x.cps.toList.map fun c => .str ⟨#[c]⟩) h
  | _ => .bad
def rngItems (vs : List Val) (h : Heap) : Res (List Val) := match vs with
  | [.int j] => if j < 2 ^ 62 ∧ -(2 ^ 62) ≤ j then .ok (rangeL 0 j.toNat) h else .bad
  | [.int i, .int j] => if (j < 2 ^ 62 ∧ -(2 ^ 62) ≤ j) ∧ i < 2 ^ 62 ∧ -(2 ^ 62) ≤ i then .ok (rangeL i (j - i).toNat) h else .bad
  | _ => .bad
/-- the pairs of two -/
def zipV : List Val → List Val → List Val
  | x :: xs, y :: ys => .tup [x, y] :: zipV xs ys
  | _, _ => []
def enuV : Int → List Val → List Val
  | _, [] => []
  | i, x :: xs => .tup [.int i, x] :: enuV (i + 1) xs
def zipItems (vs : List Val) (h : Heap) : Res (List Val) := match vs with
  | [.tup xs, .tup ys] => .ok (zipV xs ys) h
  | [.lst xs, .lst ys] => .ok (zipV xs ys) h
  | [.tup xs, .lst ys] => .ok (zipV xs ys) h
  | _ => .bad
def enuItems (vs : List Val) (h : Heap) : Res (List Val) := match vs with
  | [.lst xs] => .ok (enuV 0 xs) h
  | [.tup xs] => .ok (enuV 0 xs) h
  | _ => .bad
/-- the class and the fields of an instance -/
def insO (h : Heap) : Val → Option (Nat × List Val)
  | .ins c fs => some (c, fs)
  | .ref n => match h[n]? with
    | some (.ins c fs) => some (c, fs)
    | _ => none
  | _ => none
/-- a field -/
def fldO (t : Tb) (h : Heap) (x : Val) (f : Str) : Option Val := (insO h x).bind fun p => if t.isC p.1 then (((t.fl p.1).zip p.2).lookup f) else none
/-- a method -/
def mthO (t : Tb) (h : Heap) (x : Val) (m : Str) : Option Nat := (insO h x).bind fun p => if t.isC p.1 && !(t.fl p.1).contains m then t.mt p.1 m else none
/-- behind an __init__: the instance as an object, or as a value -/
def newF (k : Bool) (n : Nat) (v : Val) (h : Heap) : Res Val := match v with
  | .non => if k then .ok (.ref n) h else match h[n]? with
    | some (.ins c fs) => .ok (.ins c fs) (h.take n)
    | _ => .bad
  | _ => .bad
/-- the field of the error that is handled, in slot i -/
def xfR (c : Cf) (i : Nat) (f : Str) (l : Loc) (h : Heap) : Res Val := match l[i]?, c.exn with
  | some none, some (k, v) => if c.t.isX k = true ∧ c.t.xf k = some f then .ok v h else .bad
  | _, _ => .bad
def xiR (c : Cf) (i j : Nat) (l : Loc) (h : Heap) : Res Val := match l[i]?, c.exn with
  | some none, some (k, _) => if c.t.isX k && c.t.isX j then .ok (.bl (c.t.sub k j)) h else .bad
  | _, _ => .bad
/-- a text -/
def strV : Val → Option Str
  | .str s => some s
  | _ => none
def tmF : Tm → Str → Str → Option Val
  | .startswith, s, t => some (.bl (Txt.startswith s t))
  | .find, s, t => some (.int (Txt.find s t))
  | .index, s, t => (Txt.index0 s t).map fun k => .int (k : Nat)
  | .split, s, t => if t.length ≠ 0 ∧ s.length ≤ 100000 then some (.lst ((Txt.split s t).map .str)) else none
/-- int of a text -/
def itxO (s : Str) : Option Int := if s.length ≤ 640 then PySem.intText? s else none
/-- a part of a text that is put together -/
def fmtO : Val → Option Str
  | .str y => if y.length ≤ 1000000 then some y else none
  | .int i => if i.natAbs.log2 < 1920 ∧ (Str.ofString (toString i)).length ≤ 1000000 then some (Str.ofString (toString i)) else none
  | _ => none
def fstO (vs : List Val) : Option Str := (strsOf vs).map fun ys => ys.foldl (· ++ ·) Str.empty
/-- the classes of a row of values -/
def clsL : List Val → Option (List Nat)
  | [] => some []
  | .cls i :: r => (clsL r).map fun js => i :: js
  | _ => none
def tupL : Val → Option (List Val)
  | .tup vs => some vs
  | _ => none
/-- isinstance(e, (A, B)), e the error that is handled, in slot i -/
def xiTR (t : Tb) (k : Nat) (v : Val) (h : Heap) : Res Val := Res.opt ((tupL v).bind clsL) fun js => if js.all t.isX then .ok (.bl (js.any (t.sub k))) h else .bad
/-- the class of the error that is handled, in slot i -/
def xkO (c : Cf) (i : Nat) (l : Loc) : Option Nat := match l[i]?, c.exn with
  | some none, some (k, _) => if c.t.isX k then some k else none
  | _, _ => none
/-- isinstance(x, C), C a class of the text -/
def isCO (t : Tb) (h : Heap) (x : Val) (j : Nat) : Option Bool := if t.isC j && t.isI j then (match insO h x with
  | some (c, _) => if t.isC c && t.isI c then some (t.sub c j) else none
  | none => (tyName h x).map fun _ => false) else none
def xtR (c : Cf) (i : Nat) (t : String) (l : Loc) (h : Heap) : Res Val := match l[i]?, c.exn with
  | some none, some (k, _) => if c.t.isX k && c.t.bt t then .ok (.bl (c.t.subT k t)) h else .bad
  | _, _ => .bad
mutual
def evalE (c : Cf) : E → Loc → Heap → Res Val
  | .var i, l, h => match l[i]? with
    | some (some v) => .ok v h
    | _ => .bad
  | .con v, _, h => .ok v h
  | .bt n, _, h => .ok (.ty n) h
  | .glo x, _, h => Res.opt (c.t.gv x) fun v => .ok v h
  | .tup es, l, h => (evalEs c es l h).bind fun vs h1 => if vs.length ≤ 1000 then .ok (.tup vs) h1 else .bad
  | .lst k es, l, h => (evalEs c es l h).bind fun vs h1 =>
      if vs.length ≤ 1000 then (if k then (if pureL vs then .ok (.ref h1.length) (h1 ++ [.lst vs]) else .bad) else .ok (.lst vs) h1) else .bad
  | .bin op a b, l, h => (evalE c a l h).bind fun x h1 => (evalE c b l h1).bind fun y h2 => Res.opt (binop h2 op x y) fun v => .ok v h2
  | .neg a, l, h => (evalE c a l h).bind fun x h1 => match x with
    | .int i => .ok (.int (-i)) h1
    | _ => .bad
  | .cmp op a b, l, h => (evalE c a l h).bind fun x h1 => (evalE c b l h1).bind fun y h2 => Res.opt (cmpop h2 op x y) fun v => .ok (.bl v) h2
  | .chn o1 o2 a b d, l, h => (evalE c a l h).bind fun x h1 => (evalE c b l h1).bind fun y h2 => Res.opt (cmpop h2 o1 x y) fun v =>
      if v then (evalE c d l h2).bind fun z h3 => Res.opt (cmpop h3 o2 y z) fun w => .ok (.bl w) h3 else .ok (.bl false) h2
  | .d0, _, h => .ok (.dct [] []) h
  | .d1 k v, _, h => .ok (.dct [k] [v]) h
  | .sl a lo hi, l, h => (evalE c a l h).bind fun x h1 => (evalO c lo l h1).bind fun i h2 => (evalO c hi l h2).bind fun j h3 => Res.opt (slO h3 x i j) fun v => .ok v h3
  | .lc k t own it cd elt, l, h => (evalI c it l h).bind fun xs h1 => (compL (evalT c cd) (evalE c elt) t (wipeL l own) h1.length xs (h1 ++ [.lst []])).bind fun _ h2 => compF k h1.length h2
  | .and a b, l, h => (evalE c a l h).bind fun x h1 => match x with
    | .bl true => evalE c b l h1
    | .bl false => .ok (.bl false) h1
    | _ => .bad
  | .or a b, l, h => (evalE c a l h).bind fun x h1 => match x with
    | .bl true => .ok (.bl true) h1
    | .bl false => evalE c b l h1
    | _ => .bad
  | .not a, l, h => (evalE c a l h).bind fun x h1 => match x with
    | .bl b => .ok (.bl (!b)) h1
    | _ => .bad
  | .rev a s, l, h => (evalE c a l h).bind fun x h1 => (evalE c s l h1).bind fun y h2 => Res.opt (revO x y) fun v => .ok v h2
  | .ife t a b, l, h => (evalT c t l h).bind fun x h1 => if x then evalE c a l h1 else evalE c b l h1
  | .cal f es, l, h => (evalEs c es l h).bind fun vs h1 => c.call f vs h1
  | .bi f es, l, h => (evalEs c es l h).bind fun vs h1 => Res.opt (biF h1 f vs) fun v => .ok v h1
  | .bm m o es, l, h => (evalE c o l h).bind fun x h1 => if bmTy h1 m x then (evalEs c es l h1).bind fun vs h2 => Res.opt (bmF h2 m x vs) fun p => .ok p.1 p.2 else .bad
  | .ix a b, l, h => (evalE c a l h).bind fun x h1 => (evalE c b l h1).bind fun y h2 => match y with
    | .int i => (match x with
      | .str z => if z.length ≤ 16777216 then Res.opt (L2.atI z.cps.toList i) fun d => .ok (.str ⟨#[d]⟩) h2 else .bad
      | x => Res.opt ((asSeq h2 x).bind fun xs => L2.atI xs i) fun v => .ok v h2)
    | _ => .bad
  | .cl i, _, h => .ok (.cls i) h
  | .new k j es, l, h => Res.opt (if c.lv = 0 then none else c.t.mt j "__init__") fun f => (evalEs c es l h).bind fun vs h1 => (c.call1 f (.ref h1.length :: vs) (h1 ++ [.ins j []])).bind fun v h2 => newF k h1.length v h2
  | .fld o f, l, h => (evalE c o l h).bind fun x h1 => Res.opt (fldO c.t h1 x f) fun v => .ok v h1
  | .mth m o es, l, h => (evalE c o l h).bind fun x h1 => Res.opt (mthO c.t h1 x m) fun f => (evalEs c es l h1).bind fun vs h2 => c.call f (x :: vs) h2
  | .xf i f, l, h => xfR c i f l h
  | .xi i j, l, h => xiR c i j l h
  | .xt i t, l, h => xtR c i t l h
  | .tm m o a, l, h => (evalE c o l h).bind fun x h1 => Res.opt (strV x) fun s => (evalE c a l h1).bind fun y h2 => Res.opt (strV y) fun t => Res.opt (tmF m s t) fun v => .ok v h2
  | .itx a, l, h => (evalE c a l h).bind fun x h1 => Res.opt (strV x) fun s => Res.opt (itxO s) fun i => .ok (.int i) h1
  | .fmt a, l, h => (evalE c a l h).bind fun x h1 => Res.opt (fmtO x) fun s => .ok (.str s) h1
  | .fst es, l, h => (evalEs c es l h).bind fun vs h1 => Res.opt (fstO vs) fun s => .ok (.str s) h1
  | .lH a, l, h => (evalE c a l h).bind fun x h1 => Res.opt (asSeq h1 x) fun xs => if pureL xs then .ok (.ref h1.length) (h1 ++ [.lst xs]) else .bad
  | .isC a j, l, h => (evalE c a l h).bind fun x h1 => Res.opt (isCO c.t h1 x j) fun b => .ok (.bl b) h1
  | .xiT i e, l, h => Res.opt (xkO c i l) fun k => (evalE c e l h).bind fun v h1 => xiTR c.t k v h1
  | _, _, _ => .bad
termination_by structural e => e
def evalEs (c : Cf) : E → Loc → Heap → Res (List Val)
  | .nl, _, h => .ok [] h
  | .cs a r, l, h => (evalE c a l h).bind fun x h1 => (evalEs c r l h1).bind fun xs h2 => .ok (x :: xs) h2
  | _, _, _ => .bad
termination_by structural e => e
/-- a part of a slice -/
def evalO (c : Cf) : E → Loc → Heap → Res (Option Int)
  | .nl, _, h => .ok none h
  | .cs a .nl, l, h => (evalE c a l h).bind fun x h1 => match x with
    | .int i => .ok (some i) h1
    | _ => .bad
  | _, _, _ => .bad
termination_by structural e => e
/-- what a for walks -/
def evalI (c : Cf) : E → Loc → Heap → Res (List Val)
  | .iSeq e, l, h => (evalE c e l h).bind seqItems
  | .iRng es, l, h => (evalEs c es l h).bind rngItems
  | .iZip es, l, h => (evalEs c es l h).bind zipItems
  | .iEnu es, l, h => (evalEs c es l h).bind enuItems
  | _, _, _ => .bad
termination_by structural e => e
/-- as a test -/
def evalT (c : Cf) : E → Loc → Heap → Res Bool
  | .nl, _, h => .ok true h
  | .and a b, l, h => (evalT c a l h).bind fun x h1 => if x then evalT c b l h1 else .ok false h1
  | .or a b, l, h => (evalT c a l h).bind fun x h1 => if x then .ok true h1 else evalT c b l h1
  | .not a, l, h => (evalT c a l h).bind fun x h1 => .ok (!x) h1
  | .cmp op a b, l, h => (evalE c a l h).bind fun x h1 => (evalE c b l h1).bind fun y h2 => Res.opt (cmpop h2 op x y) fun v => .ok v h2
  | .chn o1 o2 a b d, l, h => (evalE c a l h).bind fun x h1 => (evalE c b l h1).bind fun y h2 => Res.opt (cmpop h2 o1 x y) fun v =>
      if v then (evalE c d l h2).bind fun z h3 => Res.opt (cmpop h3 o2 y z) fun w => .ok w h3 else .ok false h2
  | .tst e, l, h => (evalE c e l h).bind fun x h1 => Res.opt (truO h1 x) fun b => .ok b h1
  | _, _, _ => .bad
termination_by structural e => e
end

/-- how a statement ends -/
inductive Out where
  | nx (l : Loc) (h : Heap)
  | rt (v : Val) (h : Heap)
  | bk (l : Loc) (h : Heap)
  | ct (l : Loc) (h : Heap)
  | exc (c : Nat) (v : Val) (l : Loc) (h : Heap)
  | bad

def Res.out {S : Type} (r : Res S) (l : Loc) (k : S → Heap → Out) : Out :=
  match r with
  | .ok a h => k a h
  | .exc c v h => .exc c v l h
  | .bad => .bad
@[simp] theorem out_ok {S : Type} (a : S) (h : Heap) (l : Loc) (k : S → Heap → Out) : (Res.ok a h).out l k = k a h := rr rfl
@[simp] theorem out_exc {S : Type} (c : Nat) (v : Val) (h : Heap) (l : Loc) (k : S → Heap → Out) : (Res.exc c v h : Res S).out l k = .exc c v l h := rr rfl
@[simp] theorem out_bad {S : Type} (l : Loc) (k : S → Heap → Out) : (Res.bad : Res S).out l k = .bad := rr rfl
def Out.opt {S : Type} (o : Option S) (k : S → Out) : Out :=
  match o with
  | some a => k a
  | none => .bad
@[simp] theorem oopt_some {S : Type} (a : S) (k : S → Out) : Out.opt (some a) k = k a := rr rfl
@[simp] theorem oopt_none {S : Type} (k : S → Out) : Out.opt (none : Option S) k = .bad := rr rfl
/-- what follows -/
def Out.thn (o : Out) (k : Loc → Heap → Out) : Out :=
  match o with
  | .nx l h => k l h
  | o => o
@[simp] theorem thn_nx (l : Loc) (h : Heap) (k : Loc → Heap → Out) : (Out.nx l h).thn k = k l h := rr rfl
@[simp] theorem thn_rt (v : Val) (h : Heap) (k : Loc → Heap → Out) : (Out.rt v h).thn k = .rt v h := rr rfl
@[simp] theorem thn_bk (l : Loc) (h : Heap) (k : Loc → Heap → Out) : (Out.bk l h).thn k = .bk l h := rr rfl
@[simp] theorem thn_ct (l : Loc) (h : Heap) (k : Loc → Heap → Out) : (Out.ct l h).thn k = .ct l h := rr rfl
@[simp] theorem thn_exc (c : Nat) (v : Val) (l : Loc) (h : Heap) (k : Loc → Heap → Out) : (Out.exc c v l h).thn k = .exc c v l h := rr rfl
@[simp] theorem thn_bad (k : Loc → Heap → Out) : (Out.bad).thn k = .bad := rr rfl
/-- behind a loop's turn -/
def Out.turn (o : Out) (k : Loc → Heap → Out) : Out :=
  match o with
  | .nx l h => k l h
  | .ct l h => k l h
  | .bk l h => .nx l h
  | o => o
@[simp] theorem turn_nx (l : Loc) (h : Heap) (k : Loc → Heap → Out) : (Out.nx l h).turn k = k l h := rr rfl
@[simp] theorem turn_ct (l : Loc) (h : Heap) (k : Loc → Heap → Out) : (Out.ct l h).turn k = k l h := rr rfl
@[simp] theorem turn_bk (l : Loc) (h : Heap) (k : Loc → Heap → Out) : (Out.bk l h).turn k = .nx l h := rr rfl
@[simp] theorem turn_rt (v : Val) (h : Heap) (k : Loc → Heap → Out) : (Out.rt v h).turn k = .rt v h := rr rfl
@[simp] theorem turn_exc (c : Nat) (v : Val) (l : Loc) (h : Heap) (k : Loc → Heap → Out) : (Out.exc c v l h).turn k = .exc c v l h := rr rfl
@[simp] theorem turn_bad (k : Loc → Heap → Out) : (Out.bad).turn k = .bad := rr rfl

def whileN (t : Loc → Heap → Res Bool) (b : Loc → Heap → Out) : Nat → Loc → Heap → Out
  | 0, _, _ => .bad
  | n + 1, l, h => (t l h).out l fun x h1 => if x then (b l h1).turn (whileN t b n) else .nx l h1
def forL (t : T) (b : Loc → Heap → Out) : List Val → Loc → Heap → Out
  | [], l, h => .nx l h
  | x :: xs, l, h => Out.opt (store t x l) fun l1 => (b l1 h).turn (forL t b xs)

/-- slots that hold objects from b on are forgotten -/
def trimL (b : Nat) (l : Loc) : Loc := l.map fun o => match o with
  | some v => if refsLt b v then some v else none
  | none => none

def setixO (h : Heap) (o i e : Val) : Option Heap :=
  match o, i with
  | .ref n, .int k => match h[n]? with
    | some (.lst xs) => match L2.ixN xs.length k with
      | some j => if pure0 e then some (h.set n (.lst (xs.set j e))) else none
      | none => none
    | _ => none
  | _, _ => none

/-- behind a block of statements: what it made is forgotten -/
def Out.trim (b : Nat) (o : Out) : Out :=
  match o with
  | .nx l h => .nx (trimL b l) (h.take b)
  | .bk l h => .bk (trimL b l) (h.take b)
  | .ct l h => .ct (trimL b l) (h.take b)
  | o => o
@[simp] theorem trim_nx (b : Nat) (l : Loc) (h : Heap) : (Out.nx l h).trim b = .nx (trimL b l) (h.take b) := rr rfl
@[simp] theorem trim_bk (b : Nat) (l : Loc) (h : Heap) : (Out.bk l h).trim b = .bk (trimL b l) (h.take b) := rr rfl
@[simp] theorem trim_ct (b : Nat) (l : Loc) (h : Heap) : (Out.ct l h).trim b = .ct (trimL b l) (h.take b) := rr rfl
@[simp] theorem trim_rt (b : Nat) (v : Val) (h : Heap) : (Out.rt v h).trim b = .rt v h := rr rfl
@[simp] theorem trim_exc (b c : Nat) (v : Val) (l : Loc) (h : Heap) : (Out.exc c v l h).trim b = .exc c v l h := rr rfl
@[simp] theorem trim_bad (b : Nat) : (Out.bad).trim b = .bad := rr rfl

/-- a field of an object set -/
def setfO (t : Tb) (h : Heap) (o : Val) (f : Str) (v : Val) : Option Heap :=
  match o with
  | .ref n => match h[n]? with
    | some (.ins c fs) => if t.isC c = true ∧ (t.fl c)[fs.length]? = some f ∧ pure0 v = true ∧ fs.length < 100 ∧ ((t.fl c).take fs.length).contains f = false then some (h.set n (.ins c (fs ++ [v]))) else none
    | _ => none
  | _ => none
/-- an error raised: its class is one, its __init__ takes what is written -/
def raisOk (c : Cf) (k : Nat) (es : E) : Bool := c.t.isX k && (match c.t.xf k, es with
  | none, .nl => true
  | some _, .cs _ .nl => decide (2 ≤ c.lv)
  | _, _ => false)
def raisO (k : Nat) (vs : List Val) (l : Loc) (h : Heap) : Out :=
  match vs with
  | [] => .exc k .non l h
  | [v] => .exc k v l h
  | _ => .bad
/-- behind an except suite: the error's slot is empty -/
def Out.unx (i : Option Nat) (o : Out) : Out :=
  match o with
  | .nx l h => .nx (match i with | some i => l.set i none | none => l) h
  | .bk l h => .bk (match i with | some i => l.set i none | none => l) h
  | .ct l h => .ct (match i with | some i => l.set i none | none => l) h
  | .exc _ _ _ _ => .bad
  | o => o
def slotX (i : Option Nat) (l : Loc) : Loc := match i with
  | some i => l.set i none
  | none => l
/-- what a try does with its body's end -/
def Out.tri (o : Out) (c : Cf) (j : Nat) (i : Option Nat) (k : Cf → Loc → Heap → Out) : Out :=
  match o with
  | .exc e v l h => if c.t.isX e && c.t.isX j then if c.t.sub e j then (k { c with exn := some (e, v) } (slotX i l) h).unx i else .exc e v l h else .bad
  | o => o
/-- a choice between two readings of one statement, by how long the tuple in a slot is -/
def gTup (i n : Nat) (l : Loc) : Bool := match l[i]? with
  | some (some (.tup xs)) => decide (xs.length = n)
  | _ => false
/-- a whole number in a slot -/
def slotI (i : Nat) (l : Loc) : Option Int := match l[i]? with
  | some (some (.int a)) => some a
  | _ => none
def intO : Val → Option Int
  | .int a => some a
  | _ => none
def run (c : Cf) : S → Loc → Heap → Out
  | .aug i e, l, h => Out.opt (slotI i l) fun a => (evalE c e l h).out l fun v h1 => Out.opt (intO v) fun b => .nx (l.set i (some (.int (a + b)))) h1
  | .gif i n a b, l, h => if gTup i n l then run c a l h else run c b l h
  | .brk, l, h => .bk l h
  | .unl ts e, l, h => (evalE c e l h).out l fun v h1 => Out.opt ((asL h1 v).bind fun xs => storeL ts xs l) fun l1 => .nx l1 h1
  | .setf o f e, l, h => (evalE c e l h).out l fun v h1 => (evalE c o l h1).out l fun x h2 => Out.opt (setfO c.t h2 x f v) fun h3 => .nx l h3
  | .rais k es, l, h => if raisOk c k es then (evalEs c es l h).out l fun vs h1 => raisO k vs l h1 else .bad
  | .tri b j i s, l, h => (run c b l h).tri c j i (fun c' => run c' s)
  | .nop, l, h => .nx l h
  | .seq s r, l, h => (run c s l h).thn (run c r)
  | .asg t e, l, h => (evalE c e l h).out l fun v h1 => Out.opt (store t v l) fun l1 => .nx l1 h1
  | .asgc i e, l, h => (evalE c e l h).out l fun v h1 => .nx (l.set i (some v)) h1
  | .par i j es, l, h => (evalEs c es l h).out l fun vs h1 => Out.opt (store2 i j vs l) fun l1 => .nx l1 h1
  | .setix o i e, l, h => (evalE c e l h).out l fun v h1 => (evalE c o l h1).out l fun x h2 => (evalE c i l h2).out l fun y h3 => Out.opt (setixO h3 x y v) fun h4 => .nx l h4
  | .ret e, l, h => (evalE c e l h).out l fun v h1 => .rt v h1
  | .exp e, l, h => (evalE c e l h).out l fun _ h1 => .nx l h1
  | .ite t a b, l, h => (evalT c t l h).out l fun x h1 => if x then run c a l h1 else run c b l h1
  | .whl t b, l, h => whileN (evalT c t) (run c b) c.W l h
  | .for_ t it b, l, h => (evalI c it l h).out l fun xs h1 => forL t (run c b) xs l h1
  | .scope b, l, h => (run c b l h).trim h.length

mutual
/-- a value that leaves: objects from b on become values -/
def fz (h : Heap) (b : Nat) : Val → Option Val
  | .ref n => if n < b then some (.ref n) else match h[n]? with
    | some (.lst xs) => some (.lst xs)
    | some (.ins c xs) => some (.ins c xs)
    | none => none
  | .tup xs => match fzL h b xs with
    | some ys => some (.tup ys)
    | none => none
  | .lst xs => if refsLtL b xs then some (.lst xs) else none
  | .rol xs => if refsLtL b xs then some (.rol xs) else none
  | .dct ks vs => if refsLtL b vs then some (.dct ks vs) else none
  | .ins c vs => if refsLtL b vs then some (.ins c vs) else none
  | v => some v
def fzL (h : Heap) (b : Nat) : List Val → Option (List Val)
  | [] => some []
  | x :: xs => match fz h b x, fzL h b xs with
    | some y, some ys => some (y :: ys)
    | _, _ => none
end

/-- a def: how many slots, how many parameters, whether its objects become values, its body -/
structure Fn where
  n : Nat
  np : Nat
  frz : Bool
  body : S

def finish (f : Fn) (b : Nat) (v : Val) (h : Heap) : Res Val :=
  if f.frz then Res.opt (fz h b v) fun w => .ok w (h.take b) else .ok v h
/-- a def's call, from where it stands -/
def callB (P : List Fn) (c : Cf) (i : Nat) (vs : List Val) (h : Heap) : Res Val :=
  match P[i]? with
  | none => .bad
  | some f => if vs.length = f.np then
      match run c f.body (vs.map some ++ List.replicate (f.n - f.np) none) h with
      | .nx _ h1 => finish f h.length .non h1
      | .rt v h1 => finish f h.length v h1
      | .exc c v _ h1 => Res.opt (fz h1 h.length v) fun w => .exc c w (h1.take h.length)
      | _ => .bad
    else .bad
/-- the calls of a level, and of the one beneath -/
def callP (P : List Fn) (W : Nat) (gv : Tb) : Nat → (Nat → List Val → Heap → Res Val) × (Nat → List Val → Heap → Res Val)
  | 0 => (fun _ _ _ => .bad, fun _ _ _ => .bad)
  | k + 1 => (callB P ⟨(callP P W gv k).1, (callP P W gv k).2, W, gv, none, k⟩, (callP P W gv k).1)
def callF (P : List Fn) (W : Nat) (gv : Tb) (k : Nat) : Nat → List Val → Heap → Res Val := (callP P W gv k).1
/-- where a body of the level k stands -/
def cfAt (P : List Fn) (W : Nat) (gv : Tb) (k : Nat) : Cf := ⟨callF P W gv k, (callP P W gv k).2, W, gv, none, k⟩
end MP
/-! MP, how values and the small heap lie in the layer's heap. -/
namespace MP
open PySem L2

/-- the written part, where classes and defs stand, the tables -/
structure Gk where
  K : PySem.W.Frag
  ca : Nat → Addr
  fa : Nat → Addr
  t : Tb

/-- a list, a tuple of the written part -/
def KL (K : PySem.W.Frag) (a : Addr) (xs : List V) : Prop := ∃ (o : PySem.Obj) (its : Array Value) (n : Nat), K.lookup a = some o ∧ o.cls = .type "list" ∧ o.dict = none ∧ o.data = .seq its n ∧ its.size ≤ sizeLine ∧ Vals xs its.toList
def KT (K : PySem.W.Frag) (a : Addr) (xs : List V) : Prop := ∃ (o : PySem.Obj) (its : Array Value) (n : Nat), K.lookup a = some o ∧ o.cls = .type "tuple" ∧ o.data = .seq its n ∧ its.size ≤ sizeLine ∧ Vals xs its.toList
/-- a list, a tuple that is read at a and is no object of the small heap -/
def LAt (C : Gk) (m : List Addr) (H : Hp) (a : Addr) (vs : List V) : Prop := (a ∉ m ∧ Rd H a (.lst vs)) ∨ KL C.K a vs
def TAt (C : Gk) (m : List Addr) (H : Hp) (a : Addr) (vs : List V) : Prop := (a ∉ m ∧ H a = some (.tup vs)) ∨ KT C.K a vs

mutual
def RepV (C : Gk) (m : List Addr) (H : Hp) : Val → V → Prop
  | .non, x => x = .non
  | .bl b, x => x = .bl b
  | .int i, x => x = .int i
  | .str s, x => x = .str s
  | .ty n, x => x = .ty n
  | .tup xs, x => ∃ a vs, x = .ref a ∧ TAt C m H a vs ∧ RepL C m H xs vs
  | .lst xs, x => ∃ a vs, x = .ref a ∧ (a ∉ m ∧ H a = some (.lst vs)) ∧ RepL C m H xs vs
  | .rol xs, x => ∃ a vs, x = .ref a ∧ LAt C m H a vs ∧ RepL C m H xs vs
  | .dct ks us, x => ∃ a kvs, x = .ref a ∧ (a ∉ m ∧ H a = some (.dK kvs)) ∧ kvs.map (·.1) = ks ∧ RepL C m H us (kvs.map (·.2))
  | .ref n, x => ∃ a, x = .ref a ∧ m[n]? = some a
  | .cls i, x => x = .ref (C.ca i)
  | .ins c us, x => ∃ a dx vs, x = .ref a ∧ (a ∉ m ∧ H a = some (.ins (C.ca c) dx ((C.t.fl c).zip vs))) ∧ us.length ≤ (C.t.fl c).length ∧ (C.t.fl c).Nodup ∧ RepL C m H us vs
def RepL (C : Gk) (m : List Addr) (H : Hp) : List Val → List V → Prop
  | [], vs => vs = []
  | x :: xs, vs => ∃ v r, vs = v :: r ∧ RepV C m H x v ∧ RepL C m H xs r
end

/-- what happens to the layer's heap: objects come behind; what is no object of the small heap stays -/
structure Evo (m : List Addr) (H : Hp) (m' : List Addr) (H' : Hp) : Prop where
  pre : ∃ n, m' = m ++ n
  new : ∀ a ∈ m', a ∉ m → H a = none
  keep : ∀ a o, a ∉ m → H a = some o → H' a = some o
theorem Evo.refl (m : List Addr) (H : Hp) : Evo m H m H := ⟨⟨[], by simp⟩, fun _ h n => absurd h n, fun _ _ _ h => h⟩
theorem Evo.trans {m m1 m2 : List Addr} {H H1 H2 : Hp} (a : Evo m H m1 H1) (b : Evo m1 H1 m2 H2) : Evo m H m2 H2 := by
  obtain ⟨n1, e1⟩ := a.pre
  obtain ⟨n2, e2⟩ := b.pre
  refine ⟨⟨n1 ++ n2, by rw [e2, e1, List.append_assoc]⟩, fun p hp np => ?_, fun p o np e => ?_⟩
  · by_cases h1 : p ∈ m1
    · exact a.new p h1 np
    · have z := b.new p hp h1
      cases q : H p with
      | none => rfl
      | some o =>
        rw [a.keep p o np q] at z
        cases z
  · have n1 : p ∉ m1 := fun h1 => by
      rw [a.new p h1 np] at e
      cases e
    exact b.keep p o n1 (a.keep p o np e)
theorem Evo.out {m m' : List Addr} {H H' : Hp} (a : Evo m H m' H') {p : Addr} {o : HO} (np : p ∉ m) (e : H p = some o) : p ∉ m' := fun h => by
  rw [a.new p h np] at e
  cases e
theorem Evo.ix {m m' : List Addr} {H H' : Hp} (a : Evo m H m' H') {n : Nat} {p : Addr} (e : m[n]? = some p) : m'[n]? = some p := by
  obtain ⟨r, rfl⟩ := a.pre
  rw [List.getElem?_append_left (List.getElem?_eq_some_iff.mp e).1]
  exact e
theorem rd_there {H : Hp} {a : Addr} {u : HO} (h : Rd H a u) : ∃ o, H a = some o := by
  rcases h with h | ⟨o, h⟩
  · exact ⟨_, h⟩
  · exact ⟨_, h⟩
theorem Evo.rd {m m' : List Addr} {H H' : Hp} (e : Evo m H m' H') {a : Addr} {u : HO} (na : a ∉ m) (h : Rd H a u) : Rd H' a u := by
  rcases h with h | ⟨o, h⟩
  · exact .inl (e.keep _ _ na h)
  · exact .inr ⟨o, e.keep _ _ na h⟩
variable {C : Gk}
theorem LAt.sq {m : List Addr} {H : Hp} {a : Addr} {vs : List V} (h : LAt C m H a vs) : SqL C.K H a vs := by
  rcases h with h | h
  · exact .inl h.2
  · exact .inr h
theorem TAt.sq {m : List Addr} {H : Hp} {a : Addr} {vs : List V} (h : TAt C m H a vs) : SqT C.K H a vs := by
  rcases h with h | h
  · exact .inl (.inl h.2)
  · exact .inr h
theorem Evo.lat {m m' : List Addr} {H H' : Hp} (e : Evo m H m' H') {a : Addr} {vs : List V} (h : LAt C m H a vs) : LAt C m' H' a vs := by
  rcases h with ⟨na, h⟩ | h
  · obtain ⟨o, ho⟩ := rd_there h
    exact .inl ⟨e.out na ho, e.rd na h⟩
  · exact .inr h
theorem Evo.tat {m m' : List Addr} {H H' : Hp} (e : Evo m H m' H') {a : Addr} {vs : List V} (h : TAt C m H a vs) : TAt C m' H' a vs := by
  rcases h with ⟨na, h⟩ | h
  · exact .inl ⟨e.out na h, e.keep _ _ na h⟩
  · exact .inr h

mutual
theorem RepV.mono {m m' : List Addr} {H H' : Hp} (e : Evo m H m' H') : ∀ {v : Val} {x : V}, RepV C m H v x → RepV C m' H' v x
  | .non, x, h => h
  | .bl b, x, h => h
  | .int i, x, h => h
  | .str s, x, h => h
  | .ty n, x, h => h
  | .tup xs, x, h => by
    obtain ⟨a, vs, rfl, ha, hr⟩ := h
    exact ⟨a, vs, rfl, e.tat ha, RepL.mono e hr⟩
  | .lst xs, x, h => by
    obtain ⟨a, vs, rfl, ⟨na, ha⟩, hr⟩ := h
    exact ⟨a, vs, rfl, ⟨e.out na ha, e.keep _ _ na ha⟩, RepL.mono e hr⟩
  | .rol xs, x, h => by
    obtain ⟨a, vs, rfl, ha, hr⟩ := h
    exact ⟨a, vs, rfl, e.lat ha, RepL.mono e hr⟩
  | .dct ks us, x, h => by
    obtain ⟨a, kvs, rfl, ⟨na, ha⟩, hk, hr⟩ := h
    exact ⟨a, kvs, rfl, ⟨e.out na ha, e.keep _ _ na ha⟩, hk, RepL.mono e hr⟩
  | .ref n, x, h => by
    obtain ⟨a, rfl, ha⟩ := h
    exact ⟨a, rfl, e.ix ha⟩
  | .cls i, x, h => h
  | .ins c us, x, h => by
    obtain ⟨a, dx, vs, rfl, ⟨na, ha⟩, hl, hn, hr⟩ := h
    exact ⟨a, dx, vs, rfl, ⟨e.out na ha, e.keep _ _ na ha⟩, hl, hn, RepL.mono e hr⟩
theorem RepL.mono {m m' : List Addr} {H H' : Hp} (e : Evo m H m' H') : ∀ {vs : List Val} {xs : List V}, RepL C m H vs xs → RepL C m' H' vs xs
  | [], xs, h => h
  | v :: vs, xs, h => by
    obtain ⟨y, r, rfl, h1, h2⟩ := h
    exact ⟨y, r, rfl, RepV.mono e h1, RepL.mono e h2⟩
end
theorem RepL.length {m : List Addr} {H : Hp} : ∀ {vs : List Val} {xs : List V}, RepL C m H vs xs → xs.length = vs.length
  | [], xs, h => by cases h; rfl
  | v :: vs, xs, h => by
    obtain ⟨y, r, rfl, _, h2⟩ := h
    show r.length + 1 = vs.length + 1
    rw [RepL.length h2]
theorem RepL.get {m : List Addr} {H : Hp} : ∀ {vs : List Val} {xs : List V} {i : Nat} {v : Val}, RepL C m H vs xs → vs[i]? = some v → ∃ x, xs[i]? = some x ∧ RepV C m H v x
  | [], xs, i, v, h, e => by simp at e
  | w :: vs, xs, 0, v, h, e => by
    obtain ⟨y, r, rfl, h1, _⟩ := h
    have q : w = v := by simpa using e
    subst q
    exact ⟨y, by simp, h1⟩
  | w :: vs, xs, i + 1, v, h, e => by
    obtain ⟨y, r, rfl, _, h2⟩ := h
    obtain ⟨x, h3, h4⟩ := RepL.get (i := i) (v := v) h2 (by simpa using e)
    exact ⟨x, by simpa using h3, h4⟩
theorem RepL.append {m : List Addr} {H : Hp} : ∀ {vs ws : List Val} {xs ys : List V}, RepL C m H vs xs → RepL C m H ws ys → RepL C m H (vs ++ ws) (xs ++ ys)
  | [], _, xs, _, h, h' => by cases h; exact h'
  | v :: vs, _, xs, _, h, h' => by
    obtain ⟨y, r, rfl, h1, h2⟩ := h
    exact ⟨y, _, rfl, h1, RepL.append h2 h'⟩
theorem RepL.reverse {m : List Addr} {H : Hp} : ∀ {vs : List Val} {xs : List V}, RepL C m H vs xs → RepL C m H vs.reverse xs.reverse
  | [], xs, h => by cases h; exact rfl
  | v :: vs, xs, h => by
    obtain ⟨y, r, rfl, h1, h2⟩ := h
    rw [List.reverse_cons, List.reverse_cons]
    exact RepL.append (RepL.reverse h2) ⟨y, [], rfl, h1, rfl⟩
theorem RepL.set {m : List Addr} {H : Hp} {v : Val} {x : V} (hv : RepV C m H v x) : ∀ {vs : List Val} {xs : List V} (i : Nat), RepL C m H vs xs → RepL C m H (vs.set i v) (xs.set i x)
  | [], xs, i, h => by cases h; exact rfl
  | w :: vs, xs, 0, h => by
    obtain ⟨y, r, rfl, _, h2⟩ := h
    exact ⟨x, r, rfl, hv, h2⟩
  | w :: vs, xs, i + 1, h => by
    obtain ⟨y, r, rfl, h1, h2⟩ := h
    exact ⟨y, r.set i x, rfl, h1, RepL.set hv i h2⟩

theorem refsLtL_mem {b : Nat} : ∀ {xs : List Val}, refsLtL b xs = true ↔ ∀ x ∈ xs, refsLt b x = true
  | [] => by simp [refsLtL]
  | x :: xs => by simp [refsLtL, refsLtL_mem (xs := xs)]
mutual
/-- what meets no object of the heap does not hang on the heap's places -/
theorem RepV.place {m m' : List Addr} {H : Hp} {b : Nat} (hm : ∀ a o, H a = some o → a ∉ m → a ∉ m') (hb : ∀ n a, n < b → m[n]? = some a → m'[n]? = some a) : ∀ {v : Val} {x : V}, refsLt b v = true → RepV C m H v x → RepV C m' H v x
  | .non, x, _, h => h
  | .bl _, x, _, h => h
  | .int i, x, _, h => h
  | .str s, x, _, h => h
  | .ty n, x, _, h => h
  | .tup xs, x, p, h => by
    obtain ⟨a, vs, rfl, ha, hr⟩ := h
    refine ⟨a, vs, rfl, ?_, RepL.place hm hb p hr⟩
    rcases ha with ⟨na, ha⟩ | ha
    · exact .inl ⟨hm a _ ha na, ha⟩
    · exact .inr ha
  | .lst xs, x, p, h => by
    obtain ⟨a, vs, rfl, ⟨na, ha⟩, hr⟩ := h
    exact ⟨a, vs, rfl, ⟨hm a _ ha na, ha⟩, RepL.place hm hb p hr⟩
  | .dct ks us, x, p, h => by
    obtain ⟨a, kvs, rfl, ⟨na, ha⟩, hk, hr⟩ := h
    exact ⟨a, kvs, rfl, ⟨hm a _ ha na, ha⟩, hk, RepL.place hm hb p hr⟩
  | .rol xs, x, p, h => by
    obtain ⟨a, vs, rfl, ha, hr⟩ := h
    refine ⟨a, vs, rfl, ?_, RepL.place hm hb p hr⟩
    rcases ha with ⟨na, ha⟩ | ha
    · obtain ⟨o, ho⟩ := rd_there ha
      exact .inl ⟨hm a _ ho na, ha⟩
    · exact .inr ha
  | .ref n, x, p, h => by
    obtain ⟨a, rfl, ha⟩ := h
    exact ⟨a, rfl, hb n a (of_decide_eq_true p) ha⟩
  | .cls i, x, _, h => h
  | .ins c us, x, p, h => by
    obtain ⟨a, dx, vs, rfl, ⟨na, ha⟩, hl, hn, hr⟩ := h
    exact ⟨a, dx, vs, rfl, ⟨hm a _ ha na, ha⟩, hl, hn, RepL.place hm hb p hr⟩
theorem RepL.place {m m' : List Addr} {H : Hp} {b : Nat} (hm : ∀ a o, H a = some o → a ∉ m → a ∉ m') (hb : ∀ n a, n < b → m[n]? = some a → m'[n]? = some a) : ∀ {v : List Val} {x : List V}, refsLtL b v = true → RepL C m H v x → RepL C m' H v x
  | [], x, _, h => h
  | v :: vs, x, p, h => by
    obtain ⟨y, r, rfl, h1, h2⟩ := h
    have p2 : (refsLt b v && refsLtL b vs) = true := p
    rw [Bool.and_eq_true] at p2
    exact ⟨y, r, rfl, RepV.place hm hb p2.1 h1, RepL.place hm hb p2.2 h2⟩
end

/-- an object of the small heap at a -/
def RepO (C : Gk) (m : List Addr) (H : Hp) (a : Addr) : Obj → Prop
  | .lst xs => ∃ vs, H a = some (.lst vs) ∧ RepL C m H xs vs ∧ pureL xs = true
  | .ins c xs => ∃ dx vs, H a = some (.ins (C.ca c) dx ((C.t.fl c).zip vs)) ∧ xs.length ≤ (C.t.fl c).length ∧ (C.t.fl c).Nodup ∧ RepL C m H xs vs ∧ pureL xs = true
theorem RepO.out {m : List Addr} {H : Hp} {a : Addr} {o : Obj} (h : RepO C m H a o) : ∃ u, H a = some u := by
  cases o with
  | lst xs =>
    obtain ⟨vs, e, _⟩ := h
    exact ⟨_, e⟩
  | ins c xs =>
    obtain ⟨dx, vs, e, _⟩ := h
    exact ⟨_, e⟩
/-- .. where the heap at other places changes -/
theorem RepO.keep {m m' : List Addr} {H H' : Hp} {a : Addr} {o : Obj} (h : RepO C m H a o) (e : Evo m H m' H') (ha : ∀ u, H a = some u → H' a = some u) : RepO C m' H' a o := by
  cases o with
  | lst xs =>
    obtain ⟨vs, e1, r, q⟩ := h
    exact ⟨vs, ha _ e1, r.mono e, q⟩
  | ins c xs =>
    obtain ⟨dx, vs, e1, l, n, r, q⟩ := h
    exact ⟨dx, vs, ha _ e1, l, n, r.mono e, q⟩
/-- all this, a fact of places that stays, and the slot and place of the error that is handled -/
structure Gc where
  g : Gk
  J : List Addr → Hp → Prop
  Jm : ∀ m H m' H', J m H → Evo m H m' H' → J m' H'
  xs : Option (Nat × Addr)
structure HpOk (C : Gc) (m : List Addr) (h : Heap) (H : Hp) : Prop where
  len : m.length = h.length
  nd : m.Nodup
  obj : ∀ (n : Nat) (o : Obj) (a : Addr), h[n]? = some o → m[n]? = some a → RepO C.g m H a o
  j : C.J m H
section
variable {C : Gc}
theorem HpOk.at {m : List Addr} {h : Heap} {H : Hp} (p : HpOk C m h H) {n : Nat} {o : Obj} (e : h[n]? = some o) : ∃ a, m[n]? = some a ∧ RepO C.g m H a o := by
  have l : n < m.length := by
    rw [p.len]
    exact (List.getElem?_eq_some_iff.mp e).1
  exact ⟨m[n], List.getElem?_eq_getElem l, p.obj n o _ e (List.getElem?_eq_getElem l)⟩
theorem HpOk.there {m : List Addr} {h : Heap} {H : Hp} (p : HpOk C m h H) {a : Addr} (ha : a ∈ m) : ∃ u, H a = some u := by
  obtain ⟨n, hn, rfl⟩ := List.mem_iff_getElem.mp ha
  have l : n < h.length := by
    rw [← p.len]
    exact hn
  exact (p.obj n h[n] m[n] (List.getElem?_eq_getElem l) (List.getElem?_eq_getElem hn)).out
theorem HpOk.notIn {m : List Addr} {h : Heap} {H : Hp} (p : HpOk C m h H) {a : Addr} (e : H a = none) : a ∉ m := fun ha => by
  obtain ⟨u, hu⟩ := p.there ha
  rw [e] at hu
  cases hu


/-- the slots -/
structure LocOk (C : Gc) (m : List Addr) (H : Hp) (l : Loc) (s : St) : Prop where
  len : l.length = s.length
  get : ∀ (i : Nat) v, l[i]? = some (some v) → ∃ x, s[i]? = some (some x) ∧ RepV C.g m H v x
  x : ∀ i a, C.xs = some (i, a) → l[i]? = some none → s[i]? = some (some (.ref a))
theorem LocOk.mono {m m' : List Addr} {H H' : Hp} {l : Loc} {s : St} (e : Evo m H m' H') (h : LocOk C m H l s) : LocOk C m' H' l s :=
  ⟨h.len, fun i v q => let ⟨x, h1, h2⟩ := h.get i v q; ⟨x, h1, h2.mono e⟩, h.x⟩
theorem LocOk.set {m : List Addr} {H : Hp} {l : Loc} {s : St} {v : Val} {x : V} (h : LocOk C m H l s) (i : Nat) (r : RepV C.g m H v x) : LocOk C m H (l.set i (some v)) (s.set i (some x)) := by
  refine ⟨by simp [h.len], fun j w q => ?_, fun j a ex q => ?_⟩
  · by_cases hj : i = j
    · subst hj
      by_cases hl : i < l.length
      · rw [List.getElem?_set_self hl] at q
        cases q
        refine ⟨x, ?_, r⟩
        rw [List.getElem?_set_self (by rw [← h.len]; exact hl)]
      · rw [List.getElem?_eq_none (by simpa using hl)] at q
        cases q
    · rw [List.getElem?_set_ne hj] at q ⊢
      exact h.get j w q
  · by_cases hj : i = j
    · subst hj
      by_cases hl : i < l.length
      · rw [List.getElem?_set_self hl] at q
        cases q
      · rw [List.getElem?_eq_none (by simpa using hl)] at q
        cases q
    · rw [List.getElem?_set_ne hj] at q ⊢
      exact h.x j a ex q

theorem Evo.put {m : List Addr} {H : Hp} {n : Nat} {a : Addr} {u : HO} (ha : m[n]? = some a) : Evo m H m (upd H a u) := ⟨⟨[], by simp⟩, fun _ h n => absurd h n, fun b w nb e => by
    have z : b ≠ a := fun q => nb (by rw [q]; exact List.mem_of_getElem? ha)
    rw [upd_ne z]
    exact e⟩
/-- a list of the small heap changed -/
theorem RepO.put {m : List Addr} {H : Hp} {n : Nat} {a : Addr} {xs : List Val} {vs : List V} (ha : m[n]? = some a) (r : RepL C.g m H xs vs) (p : pureL xs = true) : RepO C.g m (upd H a (.lst vs)) a (.lst xs) := ⟨vs, upd_same, r.mono (Evo.put ha), p⟩
/-- an object of the small heap changed -/
theorem HpOk.put {m : List Addr} {h : Heap} {H : Hp} (p : HpOk C m h H) {n : Nat} {a : Addr} {u : HO} {o : Obj} (ha : m[n]? = some a) (ho : RepO C.g m (upd H a u) a o) : HpOk C m (h.set n o) (upd H a u) ∧ Evo m H m (upd H a u) := by
  have ev : Evo m H m (upd H a u) := Evo.put ha
  refine ⟨⟨by simp [p.len], p.nd, fun k w b hk hb => ?_, C.Jm _ _ _ _ p.j ev⟩, ev⟩
  by_cases hn : n = k
  · subst hn
    have e : a = b := Option.some.inj (ha.symm.trans hb)
    subst e
    by_cases hl : n < h.length
    · rw [List.getElem?_set_self hl] at hk
      cases hk
      exact ho
    · rw [List.getElem?_eq_none (by simpa using hl)] at hk
      cases hk
  · rw [List.getElem?_set_ne hn] at hk
    have nb : b ≠ a := fun q => by
      subst q
      exact hn (nd_ix p.nd ha hb)
    exact (p.obj k w b hk hb).keep ev fun u e => by rw [upd_ne nb]; exact e
/-- what was there stays where new things come -/
theorem HpOk.evo {m : List Addr} {h : Heap} {H H' : Hp} (p : HpOk C m h H) (ev : Evo m H m H') (hk : ∀ b u, b ∈ m → H b = some u → H' b = some u) : HpOk C m h H' :=
  ⟨p.len, p.nd, fun k w b hk' hb => (p.obj k w b hk' hb).keep ev fun u e => hk b u (List.mem_of_getElem? hb) e, C.Jm _ _ _ _ p.j ev⟩
theorem Evo.lay {m : List Addr} {H : Hp} {a : Addr} {u : HO} (ha : H a = none) : Evo m H m (upd H a u) := ⟨⟨[], by simp⟩, fun _ h n => absurd h n, fun b w nb e => by
    rw [upd_ne (ne_of_none e ha)]
    exact e⟩
/-- a new thing that is no object of the small heap -/
theorem HpOk.lay {m : List Addr} {h : Heap} {H : Hp} (p : HpOk C m h H) {a : Addr} {u : HO} (ha : H a = none) : HpOk C m h (upd H a u) ∧ Evo m H m (upd H a u) :=
  ⟨p.evo (Evo.lay ha) fun b w _ e => by rw [upd_ne (ne_of_none e ha)]; exact e, Evo.lay ha⟩
/-- a new object of the small heap -/
theorem HpOk.grow1 {m : List Addr} {h : Heap} {H H' : Hp} (p : HpOk C m h H) {a : Addr} {o : Obj} (ha : H a = none) (hk : ∀ b w, H b = some w → H' b = some w) (ho : Evo m H (m ++ [a]) H' → RepO C.g (m ++ [a]) H' a o) :
    HpOk C (m ++ [a]) (h ++ [o]) H' ∧ Evo m H (m ++ [a]) H' := by
  have na : a ∉ m := p.notIn ha
  have ev : Evo m H (m ++ [a]) H' := by
    refine ⟨⟨[a], rfl⟩, fun b hb nb => ?_, fun b w nb e => hk b w e⟩
    rcases List.mem_append.mp hb with z | z
    · exact absurd z nb
    · have q : b = a := by simpa using z
      rw [q]
      exact ha
  refine ⟨⟨by simp [p.len], ?_, fun k w b hk' hb => ?_, C.Jm _ _ _ _ p.j ev⟩, ev⟩
  · rw [List.nodup_append]
    exact ⟨p.nd, by simp, fun x hx y hy => by
      have q : y = a := by simpa using hy
      rw [q]
      exact fun z => na (by rw [← z]; exact hx)⟩
  · by_cases hl : k < h.length
    · rw [List.getElem?_append_left hl] at hk'
      rw [List.getElem?_append_left (by rw [p.len]; exact hl)] at hb
      exact (p.obj k w b hk' hb).keep ev fun u e => hk b u e
    · have el : k = h.length := by
        have z := (List.getElem?_eq_some_iff.mp hk').1
        simp at z
        omega
      subst el
      simp at hk'
      subst hk'
      have e : b = a := by
        rw [← p.len] at hb
        simpa using hb.symm
      subst e
      exact ho ev
theorem HpOk.grow {m : List Addr} {h : Heap} {H : Hp} (p : HpOk C m h H) {a : Addr} {vs : List Val} {xs : List V} (ha : H a = none) (hv : RepL C.g m H vs xs) (hp : pureL vs = true) :
    HpOk C (m ++ [a]) (h ++ [.lst vs]) (upd H a (.lst xs)) ∧ Evo m H (m ++ [a]) (upd H a (.lst xs)) :=
  p.grow1 ha (fun b w e => by rw [upd_ne (ne_of_none e ha)]; exact e) fun ev => ⟨xs, upd_same, hv.mono ev, hp⟩

/-- an error of the class c with the field v as it lies there -/
def XAt (C : Gk) (m : List Addr) (H : Hp) (c : Nat) (v : Val) (d : Option Addr) : Prop := match C.t.xf c with
  | none => d = none
  | some f => ∃ dd x, d = some dd ∧ RepV C m H v x ∧ H dd = some (.xd [(f, x)]) ∧ dd ∉ m
theorem XAt.mono {C : Gk} {m m' : List Addr} {H H' : Hp} {c : Nat} {v : Val} {d : Option Addr} (h : XAt C m H c v d) (e : Evo m H m' H') : XAt C m' H' c v d := by
  unfold XAt at h ⊢
  split at h
  · exact h
  · obtain ⟨dd, x, e1, r, e2, n⟩ := h
    exact ⟨dd, x, e1, r.mono e, e.keep _ _ n e2, e.out n e2⟩
/-- how an exception of the class c with the field v is to be met -/
def ExcP (C : Gc) (Wx : WX) (m : List Addr) (H : Hp) (s : St) (c : Nat) (v : Val) (h : Heap) : Prop :=
  ∀ m' H' d, Evo m H m' H' → HpOk C m' h H' → XAt C.g m' H' c v d → Wx (.ref (C.g.ca c)) d s H'
/-- a result and what is wanted of it -/
def RP {A : Type} (C : Gc) (Wx : WX) (m : List Addr) (H : Hp) (s : St) (r : Res A) (Q : A → Heap → List Addr → Hp → Prop) : Prop :=
  match r with
  | .ok a h => ∀ m' H', Evo m H m' H' → HpOk C m' h H' → Q a h m' H'
  | .exc c v h => ExcP C Wx m H s c v h
  | .bad => False
section
variable {Wx : WX} {m m1 : List Addr} {H H1 : Hp} {s : St} {A B : Type}
theorem ExcP.weak {c : Nat} {v : Val} {h : Heap} (x : ExcP C Wx m H s c v h) (e : Evo m H m1 H1) : ExcP C Wx m1 H1 s c v h := fun m' H' d ev => x m' H' d (e.trans ev)
theorem RP.weak {r : Res A} {Q : A → Heap → List Addr → Hp → Prop} (x : RP C Wx m H s r Q) (e : Evo m H m1 H1) : RP C Wx m1 H1 s r Q := by
  cases r with
  | ok a h => exact fun m' H' ev => x m' H' (e.trans ev)
  | exc c v h => exact ExcP.weak x e
  | bad => exact x
theorem RP.imp {r : Res A} {Q Q' : A → Heap → List Addr → Hp → Prop} (x : RP C Wx m H s r Q) (f : ∀ a h m' H', Evo m H m' H' → HpOk C m' h H' → Q a h m' H' → Q' a h m' H') : RP C Wx m H s r Q' := by
  cases r with
  | ok a h => exact fun m' H' ev hp => f a h m' H' ev hp (x m' H' ev hp)
  | exc c v h => exact x
  | bad => exact x
theorem RP.bind {r : Res A} {k : A → Heap → Res B} {Q : B → Heap → List Addr → Hp → Prop} (x : RP C Wx m H s (r.bind k) Q) : RP C Wx m H s r fun a h m' H' => RP C Wx m' H' s (k a h) Q := by
  cases r with
  | ok a h => exact fun m' H' ev hp => RP.weak (show RP C Wx m H s (k a h) Q from x) ev
  | exc c v h => exact x
  | bad => exact x
theorem RP.go {a : A} {h : Heap} {Q : A → Heap → List Addr → Hp → Prop} (x : RP C Wx m H s (.ok a h) Q) (e : Evo m H m1 H1) (hp : HpOk C m1 h H1) : Q a h m1 H1 := x m1 H1 e hp
theorem fin1 {v : Val} {h : Heap} {x : V} {Q : VK} (q : RP C Wx m H s (.ok v h) fun v _ m' H' => ∀ x, RepV C.g m' H' v x → Q x H') (hp : HpOk C m h H) (r : RepV C.g m H v x) : Q x H := q m H (Evo.refl m H) hp x r
theorem fin2 {v : Val} {h : Heap} {x : V} {Q : VK} (q : RP C Wx m H s (.ok v h) fun v _ m' H' => ∀ x, RepV C.g m' H' v x → Q x H') (e : Evo m H m1 H1) (hp : HpOk C m1 h H1) (r : RepV C.g m1 H1 v x) : Q x H1 := q m1 H1 e hp x r
theorem RP.now {a : A} {h : Heap} {Q : A → Heap → List Addr → Hp → Prop} (x : RP C Wx m H s (.ok a h) Q) (hp : HpOk C m h H) : Q a h m H := x m H (Evo.refl m H) hp
end
end
end MP
/-! MP, the operations of the small language are those of the layer. -/
namespace MP
open PySem L2

section
variable {X : Cx} {e : Expr} {es : List Expr} {st : Stmt} {sts : List Stmt}
theorem PE.imp {t t' : TE} (h : PE X e t) (f : ∀ s H Q, t' s H Q → t s H Q) : PE X e t' := ⟨fun pins s σ H Q I q => h.run pins s σ H Q I (f _ _ _ q)⟩
theorem PT.imp {t t' : TT} (h : PT X e t) (f : ∀ s H Q, t' s H Q → t s H Q) : PT X e t' := ⟨fun pins s σ H Q I q => h.run pins s σ H Q I (f _ _ _ q)⟩
theorem PW.imp {t t' : TT} (h : PW X e t) (f : ∀ s H Q, t' s H Q → t s H Q) : PW X e t' := ⟨fun wh pins s σ H Q I q => h.run wh pins s σ H Q I (f _ _ _ q)⟩
theorem PA.imp {t t' : TA} (h : PA X es t) (f : ∀ s H Q, t' s H Q → t s H Q) : PA X es t' := ⟨fun pos pins s σ H Q I q => h.run pos pins s σ H Q I (f _ _ _ q)⟩
theorem PS.imp {t t' : TS} (h : PS X st t) (f : ∀ D s H, t' D s H → t D s H) : PS X st t' := ⟨fun pins s σ H D I q => h.run pins s σ H D I (f _ _ _ q)⟩
theorem PSs.imp {t t' : TS} (h : PSs X sts t) (f : ∀ D s H, t' D s H → t D s H) : PSs X sts t' := ⟨fun pins s σ H D I q => h.run pins s σ H D I (f _ _ _ q)⟩
theorem PI.imp {t t' : TI} {tg : Expr} (h : PI X tg e t) (f : ∀ s H Q, t' s H Q → t s H Q) : PI X tg e t' := ⟨fun pins s σ H Q I q => h.run pins s σ H Q I (f _ _ _ q)⟩
end

/-! ### operators -/
/-- what a pure operation is asked: the values that lie there, and that the answer, wherever it comes to lie, is good -/
def RO (C : Gc) (m : List Addr) (h : Heap) (H : Hp) (v : Val) (Q : VK) : Prop := ∀ x H', Evo m H m H' → HpOk C m h H' → RepV C.g m H' v x → Q x H'
theorem RO.now {C : Gc} {m : List Addr} {h : Heap} {H : Hp} {v : Val} {x : V} {Q : VK} (q : RO C m h H v Q) (hp : HpOk C m h H) (r : RepV C.g m H v x) : Q x H := q x H (Evo.refl m H) hp r
section
variable {X : Cx} {C : Gc}
def rBin (C : Gc) (op : Operator) : R2 := fun x y H Q => ∃ m h a b v, HpOk C m h H ∧ RepV C.g m H a x ∧ RepV C.g m H b y ∧ binop h op a b = some v ∧ RO C m h H v Q
/-- a list that stands by itself or as an object -/
theorem lst_at {m : List Addr} {h : Heap} {H : Hp} (hp : HpOk C m h H) {v : Val} {x : V} {xs : List Val} (r : RepV C.g m H v x) (e : asT h v = some xs) :
    ∃ a vs, x = .ref a ∧ H a = some (.lst vs) ∧ RepL C.g m H xs vs := by
  cases v with
  | lst ys =>
    obtain ⟨a, vs, rfl, ⟨_, ha⟩, hr⟩ := r
    cases e
    exact ⟨a, vs, rfl, ha, hr⟩
  | ref n =>
    obtain ⟨a, rfl, ha⟩ := r
    have e : (match h[n]? with | some (.lst xs) => some xs | _ => none) = some xs := e
    cases q : h[n]? with
    | none =>
      rw [q] at e
      cases e
    | some o =>
      rw [q] at e
      cases o with
      | lst ys =>
        cases e
        obtain ⟨vs, e1, r1, _⟩ := hp.obj n _ a q ha
        exact ⟨a, vs, rfl, e1, r1⟩
      | ins _ _ => cases e
  | _ => cases e
/-- a new thing that is a value -/
theorem RO.lay {m : List Addr} {h : Heap} {H : Hp} {v : Val} {Q : VK} {o : HO} (q : RO C m h H v Q) (hp : HpOk C m h H) (r : ∀ p, H p = none → p ∉ m → Evo m H m (upd H p o) → RepV C.g m (upd H p o) v (.ref p)) : ∀ p, H p = none → Q (.ref p) (upd H p o) := fun p hn => by
  obtain ⟨h1, h2⟩ := hp.lay (u := o) hn
  exact q _ _ h2 h1 (r p hn (hp.notIn hn) h2)
theorem line_of {n : Nat} (h : n ≤ 100000) : n ≤ sizeLine := Nat.le_trans h (by decide)
theorem cat_ok {pins : List (Addr × PySem.Obj)} {s : Shared} {σ : St} {H : Hp} {x y : V} {v u : Value} {Q : VK} (hK : X.K = C.g.K) (I : Inv X pins σ H s) (rx : RelV x v) (ry : RelV y u) {m : List Addr} {h : Heap} {a b w : Val} (hp : HpOk C m h H) (ra : RepV C.g m H a x) (rb : RepV C.g m H b y)
    (e : catO h a b = some w) (q : RO C m h H w Q) : wpAny (model X.prog X.w) X.A (binaryOp .Add v u) (EP X pins σ Q) X.xe s := by
  have lists : ∀ xs ys, asT h a = some xs → asT h b = some ys → (if xs.length + ys.length ≤ 100000 then some (Val.lst (xs ++ ys)) else none) = some w → wpAny (model X.prog X.w) X.A (binaryOp .Add v u) (EP X pins σ Q) X.xe s := fun xs ys e1 e2 e3 => by
    by_cases c : xs.length + ys.length ≤ 100000
    · rw [if_pos c] at e3
      cases e3
      obtain ⟨p1, vs, rfl, h1, r1⟩ := lst_at hp ra e1
      obtain ⟨p2, ws, rfl, h2, r2⟩ := lst_at hp rb e2
      exact op_cat pins s σ H _ _ v u Q I rx ry ⟨p1, p2, vs, ws, rfl, rfl, h1, h2, line_of (by rw [r1.length, r2.length]; exact c), q.lay hp fun p hn hm ev => ⟨p, _, rfl, ⟨hm, upd_same⟩, (r1.append r2).mono ev⟩⟩
    · rw [if_neg c] at e3
      cases e3
  unfold catO at e
  split at e
  · rename_i z z2
    cases (show x = V.str z from ra)
    cases (show y = V.str z2 from rb)
    by_cases c : z.length + z2.length ≤ 16777216
    · rw [if_pos c] at e
      cases e
      exact op_add_str pins s σ H _ _ v u Q I rx ry ⟨z, z2, rfl, rfl, c, q.now hp rfl⟩
    · rw [if_neg c] at e
      cases e
  · rename_i xs ys
    obtain ⟨p1, vs, rfl, h1, r1⟩ := ra
    obtain ⟨p2, ws, rfl, h2, r2⟩ := rb
    by_cases c : xs.length + ys.length ≤ 100000
    · rw [if_pos c] at e
      cases e
      refine op_catA pins s σ H _ _ v u Q I rx ry ⟨p1, p2, vs, ws, rfl, rfl, by rw [hK]; exact h1.sq, by rw [hK]; exact h2.sq, line_of (by rw [r1.length, r2.length]; exact c), fun e0 => ?_, fun _ e0 => ?_, fun _ _ => ?_⟩
      · subst e0
        cases xs with
        | nil => exact q.now hp ⟨p2, ws, rfl, h2, r2⟩
        | cons _ _ => obtain ⟨_, _, z, _⟩ := r1; cases z
      · subst e0
        cases ys with
        | nil => exact q.now hp ⟨p1, vs, rfl, h1, by rw [List.append_nil]; exact r1⟩
        | cons _ _ => obtain ⟨_, _, z, _⟩ := r2; cases z
      · exact q.lay hp fun p hn hm ev => ⟨p, _, rfl, .inl ⟨hm, upd_same⟩, (r1.append r2).mono ev⟩
    · rw [if_neg c] at e
      cases e
  · cases e1 : asT h a with
    | none =>
      rw [e1] at e
      cases e
    | some xs =>
      cases e2 : asT h b with
      | none =>
        rw [e1, e2] at e
        cases e
      | some ys =>
        rw [e1, e2] at e
        exact lists xs ys e1 e2 e
theorem RepL.times {m : List Addr} {H : Hp} {xs : List Val} {vs : List V} (r : RepL C.g m H xs vs) : ∀ k : Nat, RepL C.g m H (List.replicate k xs).flatten (List.replicate k vs).flatten
  | 0 => rfl
  | k + 1 => by
    rw [List.replicate_succ, List.flatten_cons, List.replicate_succ, List.flatten_cons]
    exact r.append (r.times k)
/-- a tuple taken once is the tuple -/
theorem tup_once (l : Addr) (its : Array Value) (n : Nat) (dd : Option Addr) (sl : Array (Option Value)) (u : Tok) :
    Meets (Builtin.«tuple.__mul__» ⟨[.ref l, .int 1 u], []⟩) (fun _ R s => s.heap.get? l = some { cls := .type "tuple", dict := dd, data := .seq its n, slots := sl } ∧ R (.ok (.ret (Value.ref l))) s) :=
  .of_wp fun prog w A R s h => by
    obtain ⟨hp, g, d, tk, os⟩ := s
    obtain ⟨hl, h⟩ := h
    have f1 := AutoSeq1.idx_int
    have c1 : (its.isEmpty || (1 : Int) == 1) = true := by rw [show ((1 : Int) == 1) = true from rfl, Bool.or_true]
    wp_walk using wpAny_loadPart' hl
    repeat (first
      | (refine wpAny_ite_true (decide_eq_true (by rw [c1])) ?_; wp_walk using wpAny_loadPart' hl)
      | (refine wpAny_ite_true (by rw [c1]) ?_; wp_walk using wpAny_loadPart' hl))
    exact ⟨_, rfl, h⟩
/-- a tuple taken no times -/
theorem tup_none (l : Addr) (its : Array Value) (n : Nat) (dd : Option Addr) (sl : Array (Option Value)) (u : Tok) (hi : its.isEmpty = false) :
    Meets (Builtin.«tuple.__mul__» ⟨[.ref l, .int 0 u], []⟩) (fun _ R s => s.heap.get? l = some { cls := .type "tuple", dict := dd, data := .seq its n, slots := sl } ∧ R (.ok (.ret (Value.ref s.heap.objs.size))) { s with heap := s.heap.push { cls := Value.type "tuple", data := Data.seq #[] }, toks := s.toks }) :=
  .of_wp fun prog w A R s h => by
    obtain ⟨hp, g, d, tk, os⟩ := s
    obtain ⟨hl, h⟩ := h
    have f1 := AutoSeq1.idx_int
    have c1 : (its.isEmpty || (0 : Int) == 1) = false := by rw [hi]; rfl
    have c2 : (decide ((0 : Int) ≤ 0) || its.isEmpty) = true := rfl
    wp_walk using wpAny_loadPart' hl
    repeat (first
      | (refine wpAny_ite_false (decide_eq_false (by rw [c1]; exact Bool.false_ne_true)) ?_; wp_walk using wpAny_loadPart' hl)
      | (refine wpAny_ite_false (by rw [c1]) ?_; wp_walk using wpAny_loadPart' hl)
      | (refine wpAny_ite_true (decide_eq_true (by rw [c2])) ?_; wp_walk using wpAny_loadPart' hl)
      | (refine wpAny_ite_true (by rw [c2]) ?_; wp_walk using wpAny_loadPart' hl))
    exact ⟨_, rfl, h⟩
theorem mul_ok {pins : List (Addr × PySem.Obj)} {s : Shared} {σ : St} {H : Hp} {x y : V} {v u : Value} {Q : VK} (hK : X.K = C.g.K) (I : Inv X pins σ H s) (rx : RelV x v) (ry : RelV y u) {m : List Addr} {h : Heap} {a b w : Val} (hp : HpOk C m h H) (ra : RepV C.g m H a x) (rb : RepV C.g m H b y)
    (e : mulO h a b = some w) (q : RO C m h H w Q) : wpAny (model X.prog X.w) X.A (binaryOp .Mult v u) (EP X pins σ Q) X.xe s := by
  unfold mulO at e
  split at e
  · rename_i xs k
    obtain ⟨p1, vs, rfl, h1, r1⟩ := ra
    cases (show y = V.int k from rb)
    by_cases c : xs.isEmpty = false ∧ 0 ≤ k ∧ k ≤ 300 ∧ xs.length ≤ 300
    · rw [if_pos c] at e
      cases e
      obtain ⟨c1, c2, c3, c4⟩ := c
      have hl : vs.length = xs.length := r1.length
      by_cases k0 : k = 0
      · subst k0
        cases rx
        obtain ⟨t, rfl⟩ := ry
        obtain ⟨its, r, ⟨⟨cls, dd, data, sl⟩, ho, hc, n, hd⟩, hs⟩ := I.tuple (show SqT X.K H p1 vs by rw [hK]; exact h1.sq)
        simp only at hc hd
        subst hc hd
        have hi : its.toArray.isEmpty = false := by
          cases its with
          | nil =>
            have e0 := r.length
            rw [hl, List.length_nil] at e0
            rw [List.eq_nil_of_length_eq_zero e0] at c1
            cases c1
          | cons a b => rfl
        refine wpAny_binaryOp_repeat_ref (T := "tuple") (U := "int") (by decide) ⟨_, ho, rfl⟩ (fun s' => typeIs_int s' 0 t) noFill_tuple_mul F.fills_int_mul F.slot_int_rmul repeat_tuple F.slot_int_index.lookup
          (call_meets F.slot_int_rmul (typeIs_int s 0 t) F.entry_int_rmul (F.args_int_rmul_2 _ _) (int_rmul_tuple 0 t p1 its.toArray n dd sl)
            ⟨ho, rfl, ⟨_, ho, rfl⟩, call_meets F.slot_tuple_mul ⟨_, ho, rfl⟩ F.entry_tuple_mul (F.args_tuple_mul_2 _ _) (tup_none p1 its.toArray n dd sl t hi) ⟨ho, ?_⟩⟩)
        refine ⟨.ref s.heap.objs.size, _, I.laid (t' := s.toks) (o := .tup []) (fun b ob q => Heap.get?_push_of_some _ q) (Nat.le_refl _) ⟨Nat.zero_le _, [], .nil, ⟨_, Heap.get?_push_size _ rfl, rfl, _, rfl⟩⟩, rfl, ?_⟩
        refine q.lay hp (fun p hn hm ev => ⟨p, [], rfl, .inl ⟨hm, upd_same⟩, rfl⟩) _ (I.hok.fresh (Nat.le_refl _))
      by_cases k1 : k = 1
      · subst k1
        cases rx
        obtain ⟨t, rfl⟩ := ry
        obtain ⟨its, r, ⟨⟨cls, dd, data, sl⟩, ho, hc, n, hd⟩, hs⟩ := I.tuple (show SqT X.K H p1 vs by rw [hK]; exact h1.sq)
        simp only at hc hd
        subst hc hd
        refine wpAny_binaryOp_repeat_ref (T := "tuple") (U := "int") (by decide) ⟨_, ho, rfl⟩ (fun s' => typeIs_int s' 1 t) noFill_tuple_mul F.fills_int_mul F.slot_int_rmul repeat_tuple F.slot_int_index.lookup
          (call_meets F.slot_int_rmul (typeIs_int s 1 t) F.entry_int_rmul (F.args_int_rmul_2 _ _) (int_rmul_tuple 1 t p1 its.toArray n dd sl)
            ⟨ho, rfl, ⟨_, ho, rfl⟩, call_meets F.slot_tuple_mul ⟨_, ho, rfl⟩ F.entry_tuple_mul (F.args_tuple_mul_2 _ _) (tup_once p1 its.toArray n dd sl t) ⟨ho, ?_⟩⟩)
        refine ⟨.ref p1, H, I, rfl, q.now hp ⟨p1, vs, rfl, h1, ?_⟩⟩
        have := r1.times 1
        simp only [List.replicate_succ, List.replicate_zero, List.flatten_cons, List.flatten_nil, List.append_nil] at this
        show RepL C.g m H (List.replicate (1 : Int).toNat xs).flatten vs
        simpa using r1
      · refine op_repT pins s σ H _ _ v u Q I rx ry ⟨p1, k, vs, rfl, rfl, by rw [hK]; exact h1.sq, fun z => ?_, by omega, by omega, by omega, q.lay hp fun p hn hm ev => ⟨p, _, rfl, .inl ⟨hm, upd_same⟩, (r1.times k.toNat).mono ev⟩⟩
        rw [z] at hl
        rw [List.length_nil] at hl
        have := List.eq_nil_of_length_eq_zero hl.symm
        rw [this] at c1
        cases c1
    · rw [if_neg c] at e
      cases e
  · rename_i k _
    cases e1 : asT h a with
    | none =>
      rw [e1] at e
      cases e
    | some xs =>
      rw [e1] at e
      have e : (if 0 ≤ k ∧ k ≤ 300 ∧ xs.length ≤ 300 then some (Val.lst (List.replicate k.toNat xs).flatten) else none) = some w := e
      by_cases c : 0 ≤ k ∧ k ≤ 300 ∧ xs.length ≤ 300
      · rw [if_pos c] at e
        cases e
        cases (show y = V.int k from rb)
        obtain ⟨p1, vs, rfl, h1, r1⟩ := lst_at hp ra e1
        have hl : vs.length = xs.length := r1.length
        refine op_rep pins s σ H _ _ v u Q I rx ry ⟨p1, k, vs, rfl, rfl, h1, by omega, by omega, line_of ?_, q.lay hp fun p hn hm ev => ⟨p, _, rfl, ⟨hm, upd_same⟩, (r1.times k.toNat).mono ev⟩⟩
        have : vs.length * k.toNat ≤ 300 * 300 := Nat.mul_le_mul (by omega) (by omega)
        omega
      · rw [if_neg c] at e
        cases e
  · cases e
theorem op_bin (hK : X.K = C.g.K) (op : Operator) : OpR X (binaryOp op) (rBin C op) := by
  intro pins s σ H x y v u Q I rx ry q
  obtain ⟨m, h, a, b, w, hp, ra, rb, e, q⟩ := q
  have one : ∀ i j, a = .int i → b = .int j → ∃ k, w = .int k ∧ wpAny (model X.prog X.w) X.A (binaryOp op v u) (EP X pins σ Q) X.xe s := by
    intro i j ea eb
    subst ea eb
    cases (show x = V.int i from ra)
    cases (show y = V.int j from rb)
    obtain ⟨t, rfl⟩ := rx
    obtain ⟨t', rfl⟩ := ry
    have fin : ∀ k, w = .int k → EP X pins σ Q (.int k s.toks) { s with toks := s.toks + 1 } := fun k ek => by
      subst ek
      exact ⟨.int k, H, I.tok _, ⟨_, rfl⟩, q.now hp (show RepV C.g m H (.int k) (.int k) from rfl)⟩
    have e : binI op i j = some w := e
    cases op with
    | Add =>
      cases e
      exact ⟨_, rfl, PyProof.Rows.add_int (fin _ rfl)⟩
    | Sub =>
      cases e
      exact ⟨_, rfl, PyProof.Rows.sub_int (fin _ rfl)⟩
    | Mult =>
      have e2 : (if bits i + bits j ≤ 134217728 then some (Val.int (i * j)) else none) = some w := e
      by_cases c : bits i + bits j ≤ 134217728
      · rw [if_pos c] at e2
        cases e2
        refine ⟨_, rfl, PyProof.Rows.mul_int (fin _ rfl) (CMulX.ok ?_)⟩
        have c2 : Builtin.Int.intBits i + Builtin.Int.intBits j ≤ 134217728 := c
        show (Builtin.Int.intBits i : Int) + (Builtin.Int.intBits j : Int) ≤ 134217728
        omega
      · rw [if_neg c] at e2
        cases e2
    | FloorDiv =>
      have e2 : (if j ≠ 0 ∧ Builtin.divisionGoesByPylong i j = false then some (Val.int (i.fdiv j)) else none) = some w := e
      by_cases c : j ≠ 0 ∧ Builtin.divisionGoesByPylong i j = false
      · rw [if_pos c] at e2
        cases e2
        exact ⟨_, rfl, PyProof.Rows.floordiv_int c.1 (fin _ rfl) (.inl c.2)⟩
      · rw [if_neg c] at e2
        cases e2
    | Mod =>
      have e2 : (if j ≠ 0 then some (Val.int (i.fmod j)) else none) = some w := e
      by_cases c : j ≠ 0
      · rw [if_pos c] at e2
        cases e2
        exact ⟨_, rfl, PyProof.Rows.mod_int' c (fin _ rfl)⟩
      · rw [if_neg c] at e2
        cases e2
    | Pow =>
      have e2 : (if 0 ≤ j ∧ (bits i : Int) * j ≤ 2 ^ 27 then some (Val.int (i ^ j.toNat)) else none) = some w := e
      by_cases c : 0 ≤ j ∧ (bits i : Int) * j ≤ 2 ^ 27
      · rw [if_pos c] at e2
        cases e2
        exact ⟨_, rfl, PyProof.Rows.pow_int c.1 c.2 (fin _ rfl)⟩
      · rw [if_neg c] at e2
        cases e2
    | LShift =>
      have e2 : (if 0 ≤ j ∧ (bits i : Int) + j ≤ 2 ^ 27 then some (Val.int (i * 2 ^ j.toNat)) else none) = some w := e
      by_cases c : 0 ≤ j ∧ (bits i : Int) + j ≤ 2 ^ 27
      · rw [if_pos c] at e2
        cases e2
        exact ⟨_, rfl, PyProof.Rows.lshift_int c.1 c.2 (fin _ rfl)⟩
      · rw [if_neg c] at e2
        cases e2
    | MatMult => cases e
    | Div => cases e
    | RShift => cases e
    | BitOr => cases e
    | BitXor => cases e
    | BitAnd => cases e
  have ee := e
  unfold binop at ee
  split at ee
  · obtain ⟨k, _, z⟩ := one _ _ rfl rfl
    exact z
  · cases op with
    | Add => exact cat_ok hK I rx ry hp ra rb ee q
    | Mult => exact mul_ok hK I rx ry hp ra rb ee q
    | _ => cases ee

/-! ### data -/
mutual
theorem data_dp {m : List Addr} {H : Hp} : ∀ {v : Val} {x : V} {d : PyData}, RepV C.g m H v x → data0 v = some d → Dp C.g.K H x d
  | .non, x, d, r, e => by cases e; cases (show x = V.non from r); exact .non
  | .bl b, x, d, r, e => by cases e; cases (show x = V.bl b from r); exact .bl b
  | .int i, x, d, r, e => by cases e; cases (show x = V.int i from r); exact .int i
  | .str z, x, d, r, e => by cases e; cases (show x = V.str z from r); exact .str z
  | .tup xs, x, d, r, e => by
    obtain ⟨a, vs, rfl, ha, hr⟩ := r
    have e : (dataL xs).map PyData.tuple = some d := e
    cases q : dataL xs with
    | none => rw [q] at e; cases e
    | some ds =>
      rw [q] at e
      cases e
      exact .tup ha.sq (data_dpL hr q)
  | .lst xs, x, d, r, e => by
    obtain ⟨a, vs, rfl, ⟨_, ha⟩, hr⟩ := r
    have e : (dataL xs).map PyData.list = some d := e
    cases q : dataL xs with
    | none => rw [q] at e; cases e
    | some ds =>
      rw [q] at e
      cases e
      exact .lst (SqL.of ha) (data_dpL hr q)
  | .rol xs, x, d, r, e => by
    obtain ⟨a, vs, rfl, ha, hr⟩ := r
    have e : (dataL xs).map PyData.list = some d := e
    cases q : dataL xs with
    | none => rw [q] at e; cases e
    | some ds =>
      rw [q] at e
      cases e
      exact .lst ha.sq (data_dpL hr q)
  | .dct _ _, x, d, r, e => by cases e
  | .ref _, x, d, r, e => by cases e
  | .ty _, x, d, r, e => by cases e
theorem data_dpL {m : List Addr} {H : Hp} : ∀ {v : List Val} {x : List V} {d : List PyData}, RepL C.g m H v x → dataL v = some d → DpAll C.g.K H x d
  | [], x, d, r, e => by cases e; cases (show x = [] from r); exact .nil
  | v :: vs, x, d, r, e => by
    obtain ⟨y, ys, rfl, r1, r2⟩ := r
    have e : ((data0 v).bind fun d => (dataL vs).map fun ds => d :: ds) = some d := e
    cases q : data0 v with
    | none => rw [q] at e; cases e
    | some d1 =>
      rw [q] at e
      have e : ((dataL vs).map fun ds => d1 :: ds) = some d := e
      cases q2 : dataL vs with
      | none => rw [q2] at e; cases e
      | some ds =>
        rw [q2] at e
        cases e
        exact .cons (data_dp r1 q) (data_dpL r2 q2)
end
theorem dataV_dp {m : List Addr} {h : Heap} {H : Hp} (hp : HpOk C m h H) {v : Val} {x : V} {d : PyData} (r : RepV C.g m H v x) (e : dataV h v = some d) : Dp C.g.K H x d := by
  cases v with
  | ref n =>
    obtain ⟨a, rfl, ha⟩ := r
    have e : (match h[n]? with | some (.lst xs) => (dataL xs).map PyData.list | _ => none) = some d := e
    cases q : h[n]? with
    | none => rw [q] at e; cases e
    | some o =>
      rw [q] at e
      cases o with
      | lst xs =>
        have e : (dataL xs).map PyData.list = some d := e
        obtain ⟨vs, e1, r1, _⟩ := hp.obj n _ a q ha
        cases q2 : dataL xs with
        | none => rw [q2] at e; cases e
        | some ds =>
          rw [q2] at e
          cases e
          exact .lst (SqL.of e1) (data_dpL r1 q2)
      | ins _ _ => cases e
  | non => exact data_dp r e
  | bl b => exact data_dp r e
  | int i => exact data_dp r e
  | str z => exact data_dp r e
  | tup xs => exact data_dp r e
  | lst xs => exact data_dp r e
  | rol xs => exact data_dp r e
  | dct _ _ => cases e
  | ty _ => cases e
  | cls _ => cases e
  | ins _ _ => cases e
/-! ### comparisons -/
def rCmp (C : Gc) (op : CmpOp) : R2 := fun x y H Q => ∃ m h a b v, HpOk C m h H ∧ RepV C.g m H a x ∧ RepV C.g m H b y ∧ cmpop h op a b = some v ∧ Q (.bl v) H
theorem cmp_is {op : CmpOp} {m : List Addr} {H : Hp} {a b : Val} {w : Bool} {pins : List (Addr × PySem.Obj)} {s : Shared} {σ : St} {x y : V} {v u : Value} {Q : VK} (I : Inv X pins σ H s) (rx : RelV x v) (ry : RelV y u) (ra : RepV C.g m H a x) (rb : RepV C.g m H b y)
    (e : isO a b = some w) (hop : (op = .Is ∧ Q (.bl w) H) ∨ (op = .IsNot ∧ Q (.bl (!w)) H)) : wpAny (model X.prog X.w) X.A (compareOp op v u) (EP X pins σ Q) X.xe s := by
  unfold isO at e
  split at e
  · cases (show y = V.non from rb)
    have hd : decide (x = V.non) = w := by
      cases a with
      | non => cases e; cases (show x = V.non from ra); rfl
      | bl b => cases e; cases (show x = V.bl b from ra); rfl
      | int b => cases e; cases (show x = V.int b from ra); rfl
      | str b => cases e; cases (show x = V.str b from ra); rfl
      | ty b => cases e; cases (show x = V.ty b from ra); rfl
      | tup b => cases e; obtain ⟨_, _, rfl, _⟩ := ra; rfl
      | lst b => cases e; obtain ⟨_, _, rfl, _⟩ := ra; rfl
      | rol b => cases e; obtain ⟨_, _, rfl, _⟩ := ra; rfl
      | dct b _ => cases e; obtain ⟨_, _, rfl, _⟩ := ra; rfl
      | ref b => cases e; obtain ⟨_, rfl, _⟩ := ra; rfl
      | cls b => cases e; cases ra; rfl
      | ins b _ => cases e; obtain ⟨_, _, _, rfl, _⟩ := ra; rfl
    rcases hop with ⟨rfl, q⟩ | ⟨rfl, q⟩
    · exact op_isN pins s σ H _ _ v u Q I rx ry ⟨rfl, by rw [hd]; exact q⟩
    · exact op_notN pins s σ H _ _ v u Q I rx ry ⟨rfl, by rw [hd]; exact q⟩
  · rename_i b1 b2
    cases e
    cases (show x = V.bl b1 from ra)
    cases (show y = V.bl b2 from rb)
    rcases hop with ⟨rfl, q⟩ | ⟨rfl, q⟩
    · exact op_isBl pins s σ H _ _ v u Q I rx ry ⟨b1, b2, rfl, rfl, q⟩
    · exact op_notBl pins s σ H _ _ v u Q I rx ry ⟨b1, b2, rfl, rfl, q⟩
  · rename_i b2 hn
    cases (show y = V.bl b2 from rb)
    cases (show u = Value.bool b2 from ry)
    have hv : plainIs v (.bool b2) = true ∧ v ≠ .bool b2 ∧ w = false := by
      cases a with
      | non => cases e; cases (show x = V.non from ra); cases (show v = Value.none from rx); exact ⟨rfl, (fun z => nomatch z), rfl⟩
      | bl b => exact absurd rfl (hn b)
      | int b => cases e; cases (show x = V.int b from ra); obtain ⟨t, rfl⟩ := rx; exact ⟨rfl, (fun z => nomatch z), rfl⟩
      | str b => cases e; cases (show x = V.str b from ra); obtain ⟨t, rfl⟩ := rx; exact ⟨rfl, (fun z => nomatch z), rfl⟩
      | ty b => cases e
      | tup b => cases e; obtain ⟨p, _, rfl, _⟩ := ra; cases (show v = Value.ref p from rx); exact ⟨rfl, (fun z => nomatch z), rfl⟩
      | lst b => cases e; obtain ⟨p, _, rfl, _⟩ := ra; cases (show v = Value.ref p from rx); exact ⟨rfl, (fun z => nomatch z), rfl⟩
      | rol b => cases e; obtain ⟨p, _, rfl, _⟩ := ra; cases (show v = Value.ref p from rx); exact ⟨rfl, (fun z => nomatch z), rfl⟩
      | dct b _ => cases e; obtain ⟨p, _, rfl, _⟩ := ra; cases (show v = Value.ref p from rx); exact ⟨rfl, (fun z => nomatch z), rfl⟩
      | ref b => cases e; obtain ⟨p, rfl, _⟩ := ra; cases (show v = Value.ref p from rx); exact ⟨rfl, (fun z => nomatch z), rfl⟩
      | cls b => cases e; cases ra; cases (show v = Value.ref _ from rx); exact ⟨rfl, (fun z => nomatch z), rfl⟩
      | ins b _ => cases e; obtain ⟨p, _, _, rfl, _⟩ := ra; cases (show v = Value.ref p from rx); exact ⟨rfl, (fun z => nomatch z), rfl⟩
    obtain ⟨p1, p2, rfl⟩ := hv
    rcases hop with ⟨rfl, q⟩ | ⟨rfl, q⟩
    · exact wpAny_is_other p1 p2 ⟨.bl false, H, I, rfl, q⟩
    · exact wpAny_isNot_other p1 p2 ⟨.bl true, H, I, rfl, q⟩
  · cases e
theorem op_cmp (hK : X.K = C.g.K) (hu : X.A.units + 65 < cLine) (op : CmpOp) : OpR X (compareOp op) (rCmp C op) := by
  intro pins s σ H x y v u Q I rx ry q
  obtain ⟨m, h, a, b, w, hp, ra, rb, e, q⟩ := q
  unfold cmpop at e
  split at e
  · rename_i i j
    cases (show x = V.int i from ra)
    cases (show y = V.int j from rb)
    have d : decide (V.int i = V.int j) = decide (i = j) := by
      by_cases c : i = j
      · subst c; simp
      · simp [c]
    cases op with
    | Eq =>
      cases e
      exact op_eq pins s σ H _ _ v u Q I rx ry ⟨rfl, by rw [d]; exact q⟩
    | NotEq =>
      cases e
      exact op_ne pins s σ H _ _ v u Q I rx ry ⟨rfl, by rw [d]; exact q⟩
    | Lt => cases e; exact op_lt pins s σ H _ _ v u Q I rx ry ⟨i, j, rfl, rfl, q⟩
    | LtE => cases e; exact op_le pins s σ H _ _ v u Q I rx ry ⟨i, j, rfl, rfl, q⟩
    | Gt => cases e; exact op_gt pins s σ H _ _ v u Q I rx ry ⟨i, j, rfl, rfl, q⟩
    | GtE => cases e; exact op_ge pins s σ H _ _ v u Q I rx ry ⟨i, j, rfl, rfl, q⟩
    | _ => cases e
  · rename_i i j
    cases (show x = V.str i from ra)
    cases (show y = V.str j from rb)
    have d : decide (V.str i = V.str j) = decide (i = j) := by
      by_cases c : i = j
      · subst c; simp
      · simp [c]
    cases op with
    | Eq =>
      cases e
      exact op_eq pins s σ H _ _ v u Q I rx ry ⟨rfl, by rw [d]; exact q⟩
    | NotEq =>
      cases e
      exact op_ne pins s σ H _ _ v u Q I rx ry ⟨rfl, by rw [d]; exact q⟩
    | Lt => cases e; exact op_lt_str pins s σ H _ _ v u Q I rx ry ⟨i, j, rfl, rfl, q⟩
    | LtE => cases e; exact op_le_str pins s σ H _ _ v u Q I rx ry ⟨i, j, rfl, rfl, q⟩
    | Gt => cases e; exact op_gt_str pins s σ H _ _ v u Q I rx ry ⟨i, j, rfl, rfl, q⟩
    | GtE => cases e; exact op_ge_str pins s σ H _ _ v u Q I rx ry ⟨i, j, rfl, rfl, q⟩
    | In => cases e; exact op_in_str pins s σ H _ _ v u Q I rx ry ⟨i, j, rfl, rfl, q⟩
    | NotIn => cases e; exact op_notin_str pins s σ H _ _ v u Q I rx ry ⟨i, j, rfl, rfl, q⟩
    | _ => cases e
  · have eqd : ∀ r, eqD h a b = some r → ∃ d e, Dp C.g.K H x d ∧ Dp C.g.K H y e ∧ SeqAt.shaped d = true ∧ SeqAt.shaped e = true ∧ r = PyData.eqv d e := fun r er => by
      unfold eqD at er
      split at er
      · rename_i d1 d2 q1 q2
        by_cases c : SeqAt.shaped d1 = true ∧ SeqAt.shaped d2 = true
        · rw [if_pos c] at er
          exact ⟨d1, d2, dataV_dp hp ra q1, dataV_dp hp rb q2, c.1, c.2, (Option.some.inj er).symm⟩
        · rw [if_neg c] at er
          cases er
      · cases er
    have ind : ∀ r, inO h a b = some r → (∃ d ds, Dp C.g.K H x d ∧ Dp C.g.K H y (.list ds) ∧ SeqAt.shaped d = true ∧ SeqAt.shaped (.list ds) = true ∧ r = ds.any fun z => PyData.eqv z d) ∨ (∃ d ds, Dp C.g.K H x d ∧ Dp C.g.K H y (.tuple ds) ∧ SeqAt.shaped d = true ∧ SeqAt.shaped (.tuple ds) = true ∧ r = ds.any fun z => PyData.eqv z d) := fun r er => by
      unfold inO at er
      split at er
      · rename_i d1 d2 q1 q2
        by_cases c : SeqAt.shaped d1 = true ∧ SeqAt.shaped (.list d2) = true
        · rw [if_pos c] at er
          exact .inl ⟨d1, d2, dataV_dp hp ra q1, dataV_dp hp rb q2, c.1, c.2, (Option.some.inj er).symm⟩
        · rw [if_neg c] at er
          cases er
      · rename_i d1 d2 q1 q2
        by_cases c : SeqAt.shaped d1 = true ∧ SeqAt.shaped (.tuple d2) = true
        · rw [if_pos c] at er
          exact .inr ⟨d1, d2, dataV_dp hp ra q1, dataV_dp hp rb q2, c.1, c.2, (Option.some.inj er).symm⟩
        · rw [if_neg c] at er
          cases er
      · cases er
    have neg : ∀ {o : Option Bool}, o.map (!·) = some w → ∃ r, o = some r ∧ w = !r := fun {o} ho => by
      cases o with
      | none => cases ho
      | some r => cases ho; exact ⟨r, rfl, rfl⟩
    have hu2 : X.A.units + 64 < cLine := by omega
    cases op with
    | Eq =>
      obtain ⟨d, f, h1, h2, h3, h4, rfl⟩ := eqd w e
      exact op_eqD hu2 pins s σ H _ _ v u Q I rx ry ⟨d, f, by rw [hK]; exact h1, by rw [hK]; exact h2, h3, h4, q⟩
    | NotEq =>
      obtain ⟨r, e9, rfl⟩ := neg e
      obtain ⟨d, f, h1, h2, h3, h4, rfl⟩ := eqd r e9
      exact op_neD hu2 pins s σ H _ _ v u Q I rx ry ⟨d, f, by rw [hK]; exact h1, by rw [hK]; exact h2, h3, h4, q⟩
    | Is => exact cmp_is I rx ry ra rb e (.inl ⟨rfl, q⟩)
    | IsNot =>
      obtain ⟨r, e9, rfl⟩ := neg e
      exact cmp_is I rx ry ra rb e9 (.inr ⟨rfl, q⟩)
    | In =>
      rcases ind w e with ⟨d, f, h1, h2, h3, h4, rfl⟩ | ⟨d, f, h1, h2, h3, h4, rfl⟩
      · exact op_inD hu pins s σ H _ _ v u Q I rx ry ⟨d, f, by rw [hK]; exact h1, by rw [hK]; exact h2, h3, h4, q⟩
      · obtain ⟨as, r1⟩ := Dp.reads I d x v (by rw [hK]; exact h1) rx
        obtain ⟨bs, r2⟩ := Dp.reads I (.tuple f) y u (by rw [hK]; exact h2) ry
        exact SeqAt.in_tuple_reads r2 r1 (SeqAt.canLay_of_shaped h4) (SeqAt.canLay_of_shaped h3) (PyProof.Rows.room_in_shaped h3 hu) ⟨.bl _, H, I, rfl, q⟩
    | NotIn =>
      obtain ⟨r, e9, rfl⟩ := neg e
      rcases ind r e9 with ⟨d, f, h1, h2, h3, h4, rfl⟩ | ⟨d, f, h1, h2, h3, h4, rfl⟩
      · exact op_notInD hu pins s σ H _ _ v u Q I rx ry ⟨d, f, by rw [hK]; exact h1, by rw [hK]; exact h2, h3, h4, q⟩
      · obtain ⟨as, r1⟩ := Dp.reads I d x v (by rw [hK]; exact h1) rx
        obtain ⟨bs, r2⟩ := Dp.reads I (.tuple f) y u (by rw [hK]; exact h2) ry
        exact SeqAt.notIn_tuple_reads r2 r1 (SeqAt.canLay_of_shaped h4) (SeqAt.canLay_of_shaped h3) (PyProof.Rows.room_in_shaped h3 hu) ⟨.bl _, H, I, rfl, q⟩
    | _ => cases e

/-- a list or a tuple, read -/
theorem seq_at {m : List Addr} {h : Heap} {H : Hp} (hp : HpOk C m h H) {v : Val} {x : V} {xs : List Val} (r : RepV C.g m H v x) (e : asSeq h v = some xs) :
    ∃ a vs, x = .ref a ∧ (SqL C.g.K H a vs ∨ SqT C.g.K H a vs) ∧ RepL C.g m H xs vs := by
  cases v with
  | tup ys =>
    obtain ⟨a, vs, rfl, ha, hr⟩ := r
    cases e
    exact ⟨a, vs, rfl, .inr ha.sq, hr⟩
  | lst ys =>
    obtain ⟨a, vs, rfl, ⟨_, ha⟩, hr⟩ := r
    cases e
    exact ⟨a, vs, rfl, .inl (SqL.of ha), hr⟩
  | rol ys =>
    obtain ⟨a, vs, rfl, ha, hr⟩ := r
    cases e
    exact ⟨a, vs, rfl, .inl ha.sq, hr⟩
  | ref n =>
    obtain ⟨a, rfl, ha⟩ := r
    have e : (match h[n]? with | some (.lst xs) => some xs | _ => none) = some xs := e
    cases q : h[n]? with
    | none =>
      rw [q] at e
      cases e
    | some o =>
      rw [q] at e
      cases o with
      | lst ys =>
        cases e
        obtain ⟨vs, e1, r1, _⟩ := hp.obj n _ a q ha
        exact ⟨a, vs, rfl, .inl (SqL.of e1), r1⟩
      | ins _ _ => cases e
  | _ => cases e
theorem ty_at {m : List Addr} {h : Heap} {H : Hp} (hp : HpOk C m h H) {v : Val} {x : V} {t : String} (r : RepV C.g m H v x) (e : tyName h v = some t) : TyX C.g.K H x (.type t) := by
  cases v with
  | non => cases e; cases (show x = V.non from r); exact .base .non
  | bl b => cases e; cases (show x = V.bl b from r); exact .base (.bl b)
  | int i => cases e; cases (show x = V.int i from r); exact .base (.int i)
  | str z => cases e; cases (show x = V.str z from r); exact .base (.str z)
  | tup ys =>
    obtain ⟨a, vs, rfl, ha, hr⟩ := r
    cases e
    rcases ha with ⟨_, ha⟩ | ⟨o, its, n, h1, h2, _⟩
    · exact .base (.tup ha)
    · exact .kTuple h1 h2
  | lst ys =>
    obtain ⟨a, vs, rfl, ⟨_, ha⟩, hr⟩ := r
    cases e
    exact .base (.lst ha)
  | dct ks ys =>
    obtain ⟨a, kvs, rfl, ⟨_, ha⟩, _⟩ := r
    cases e
    exact .base (.dK ha)
  | rol ys =>
    obtain ⟨a, vs, rfl, ha, hr⟩ := r
    cases e
    rcases ha with ⟨_, ha | ⟨o, ha⟩⟩ | ⟨o, its, n, h1, h2, _⟩
    · exact .base (.lst ha)
    · exact .base (.frz ha)
    · exact .kList h1 h2
  | ref n =>
    obtain ⟨a, rfl, ha⟩ := r
    have e : (match h[n]? with | some (Obj.lst _) => some "list" | _ => none) = some t := e
    cases q : h[n]? with
    | none =>
      rw [q] at e
      cases e
    | some o =>
      rw [q] at e
      cases o with
      | lst ys =>
        cases e
        obtain ⟨vs, e1, r1, _⟩ := hp.obj n _ a q ha
        exact .base (.lst e1)
      | ins _ _ => cases e
  | ty _ => cases e
  | cls _ => cases e
  | ins _ _ => cases e

/-! ### data that is shown -/
theorem vals_cons {x : V} {xs : List V} {us : List Value} (h : Vals (x :: xs) us) : ∃ u ws, us = u :: ws ∧ RelV x u ∧ Vals xs ws := by
  cases h with
  | cons a b => exact ⟨_, _, rfl, a, b⟩
theorem vals_nil {us : List Value} (h : Vals [] us) : us = [] := by
  cases h
  rfl
section
variable {m : List Addr} {H : Hp} {pins : List (Addr × PySem.Obj)} {s : Shared} {σ : St}
mutual
theorem rep_reads (hK : X.K = C.g.K) (I : Inv X pins σ H s) : ∀ {v : Val} {x : V} {u : Value} {d : PyData}, RepV C.g m H v x → RelV x u → dataR v = some d → ∃ as, Reads s.heap u d as ∧ (noLst d = true → sysModules ∉ as)
  | .non, x, u, d, r, ru, e => by
    cases e
    cases (show x = V.non from r)
    cases (show u = Value.none from ru)
    exact ⟨_, .none, fun _ => by simp⟩
  | .bl b, x, u, d, r, ru, e => by
    cases e
    cases (show x = V.bl b from r)
    cases (show u = Value.bool b from ru)
    exact ⟨_, .bool b, fun _ => by simp⟩
  | .int i, x, u, d, r, ru, e => by
    cases e
    cases (show x = V.int i from r)
    obtain ⟨t, rfl⟩ := ru
    exact ⟨_, .int i t, fun _ => by simp⟩
  | .str z, x, u, d, r, ru, e => by
    cases e
    cases (show x = V.str z from r)
    obtain ⟨t, rfl⟩ := ru
    exact ⟨_, .str z t, fun _ => by simp⟩
  | .tup xs, x, u, d, r, ru, e => by
    obtain ⟨a, vs, rfl, ha, hr⟩ := r
    cases (show u = Value.ref a from ru)
    have e : (dataRL xs).map PyData.tuple = some d := e
    cases q : dataRL xs with
    | none => rw [q] at e; cases e
    | some ds =>
      rw [q] at e
      cases e
      have ha := ha.sq
      rw [← hK] at ha
      obtain ⟨its, rv, ⟨o, ho, hc, n, hd⟩, _⟩ := I.tuple ha
      obtain ⟨as, h1, h2⟩ := rep_readsL hK I hr rv q
      exact ⟨_, .tuple ho hc hd h1, fun z => h2 z⟩
  | .lst xs, x, u, d, r, ru, e => by
    obtain ⟨a, vs, rfl, ⟨_, ha⟩, hr⟩ := r
    cases (show u = Value.ref a from ru)
    have e : (dataRL xs).map PyData.list = some d := e
    cases q : dataRL xs with
    | none => rw [q] at e; cases e
    | some ds =>
      rw [q] at e
      cases e
      obtain ⟨its, rv, ⟨o, n, ho, hc, _, hd⟩, _⟩ := I.list (SqL.of ha)
      obtain ⟨as, h1, h2⟩ := rep_readsL hK I hr rv q
      exact ⟨_, .list ho hc hd h1, fun z => by cases z⟩
  | .rol xs, x, u, d, r, ru, e => by
    obtain ⟨a, vs, rfl, ha, hr⟩ := r
    cases (show u = Value.ref a from ru)
    have e : (dataRL xs).map PyData.list = some d := e
    cases q : dataRL xs with
    | none => rw [q] at e; cases e
    | some ds =>
      rw [q] at e
      cases e
      have ha := ha.sq
      rw [← hK] at ha
      obtain ⟨its, rv, ⟨o, n, ho, hc, _, hd⟩, _⟩ := I.list ha
      obtain ⟨as, h1, h2⟩ := rep_readsL hK I hr rv q
      exact ⟨_, .list ho hc hd h1, fun z => by cases z⟩
  | .dct [] us, x, u, d, r, ru, e => by
    cases e
    obtain ⟨a, kvs, rfl, ⟨_, ha⟩, hk, _⟩ := r
    cases (show u = Value.ref a from ru)
    have hk : kvs = [] := by
      cases kvs with
      | nil => rfl
      | cons _ _ => cases hk
    subst hk
    obtain ⟨_, hs, vs, kv, o, es, ep, e1, e2, e3, _, e5, _⟩ := I.hok a _ ha
    cases kv
    have hes : es.toList = [] := by
      cases q : es.toList with
      | nil => rfl
      | cons _ _ =>
        rw [q] at e5
        cases e5
    refine ⟨_, .dict (as := []) (bs := []) e1 e2.1 e3 (by rw [hes]; exact .nil) (by rw [hes]; exact .nil), fun _ => ?_⟩
    simp
    exact fun z => by
      rw [← z] at hs
      simp at hs
  | .dct (_ :: _) us, x, u, d, r, ru, e => by cases e
  | .ref _, x, u, d, r, ru, e => by cases e
  | .ty _, x, u, d, r, ru, e => by cases e
  | .cls _, x, u, d, r, ru, e => by cases e
  | .ins _ _, x, u, d, r, ru, e => by cases e
theorem rep_readsL (hK : X.K = C.g.K) (I : Inv X pins σ H s) : ∀ {v : List Val} {x : List V} {u : List Value} {d : List PyData}, RepL C.g m H v x → Vals x u → dataRL v = some d → ∃ as, ReadsAll s.heap u d as ∧ (noLstL d = true → sysModules ∉ as)
  | [], x, u, d, r, ru, e => by
    cases e
    cases (show x = [] from r)
    cases vals_nil ru
    exact ⟨_, .nil, fun _ => by simp⟩
  | v :: vs, x, u, d, r, ru, e => by
    obtain ⟨y, ys, rfl, r1, r2⟩ := r
    obtain ⟨w, ws, rfl, q1, q2⟩ := vals_cons ru
    have e : ((dataR v).bind fun d => (dataRL vs).map fun ds => d :: ds) = some d := e
    cases z1 : dataR v with
    | none => rw [z1] at e; cases e
    | some d1 =>
      rw [z1] at e
      have e : ((dataRL vs).map fun ds => d1 :: ds) = some d := e
      cases z2 : dataRL vs with
      | none => rw [z2] at e; cases e
      | some ds =>
        rw [z2] at e
        cases e
        obtain ⟨as, h1, h2⟩ := rep_reads hK I r1 q1 z1
        obtain ⟨bs, h3, h4⟩ := rep_readsL hK I r2 q2 z2
        refine ⟨_, .cons h1 h3, fun z => ?_⟩
        have z : (noLst d1 && noLstL ds) = true := z
        rw [Bool.and_eq_true] at z
        intro k
        rcases List.mem_append.mp k with k | k
        · exact h2 z.1 k
        · exact h4 z.2 k
end
theorem rep_readsW (hK : X.K = C.g.K) (I : Inv X pins σ H s) {h : Heap} (hp : HpOk C m h H) {v : Val} {x : V} {u : Value} {d : PyData} (r : RepV C.g m H v x) (ru : RelV x u) (e : dataW h v = some d) : ∃ as, Reads s.heap u d as ∧ (noLst d = true → sysModules ∉ as) := by
  cases v with
  | ref n =>
    obtain ⟨a, rfl, ha⟩ := r
    have e : (match h[n]? with | some (.lst xs) => (dataRL xs).map PyData.list | _ => none) = some d := e
    cases q : h[n]? with
    | none => rw [q] at e; cases e
    | some o =>
      rw [q] at e
      cases o with
      | lst xs =>
        have e : (dataRL xs).map PyData.list = some d := e
        cases q2 : dataRL xs with
        | none => rw [q2] at e; cases e
        | some ds =>
          rw [q2] at e
          cases e
          obtain ⟨vs, e1, r1, _⟩ := hp.obj n _ a q ha
          cases (show u = Value.ref a from ru)
          obtain ⟨its, rv, ⟨o, k, ho, hc, _, hd⟩, _⟩ := I.list (SqL.of e1)
          obtain ⟨as, h1, h2⟩ := rep_readsL hK I r1 rv q2
          exact ⟨_, .list ho hc hd h1, fun z => by cases z⟩
      | ins _ _ => cases e
  | non => exact rep_reads hK I r ru e
  | bl _ => exact rep_reads hK I r ru e
  | int _ => exact rep_reads hK I r ru e
  | str _ => exact rep_reads hK I r ru e
  | tup _ => exact rep_reads hK I r ru e
  | lst _ => exact rep_reads hK I r ru e
  | rol _ => exact rep_reads hK I r ru e
  | dct _ _ => exact rep_reads hK I r ru e
  | ty _ => cases e
  | cls _ => cases e
  | ins _ _ => cases e
/-- repr(v) -/
theorem repr_ok {us : List Value} {Q : VK} (hK : X.K = C.g.K) (hg : X.A.guards = some []) (hu : X.A.units + 65 < cLine) (I : Inv X pins σ H s) {h : Heap} (hp : HpOk C m h H) {v : Val} {x : V} {z : Str} (r : RepV C.g m H v x) (ru : Vals [x] us)
    (e : shownO h v = some z) (q : Q (.str z) H) : wpAny (model X.prog X.w) X.A (call (.builtin "repr") us) (EP X pins σ Q) X.xe s := by
  obtain ⟨u, ws, rfl, r1, r2⟩ := vals_cons ru
  cases vals_nil r2
  unfold shownO at e
  split at e
  · rename_i d ed
    split at e
    · rename_i c
      obtain ⟨c1, c2, c3, c4⟩ := c
      cases e
      obtain ⟨as, h1, h2⟩ := rep_readsW hK I hp r r1 ed
      have hz : d.shown.length ≤ sizeLine := Nat.le_trans c3 (by decide)
      have hsm : d.hasDict = true → sysModules ∉ as := fun k => by
        rcases c4 with c4 | c4
        · rw [c4] at k
          cases k
        · exact h2 c4
      cases h1 with
      | none => exact P.repr_of_none ⟨.str _, H, I.tok _, ⟨_, rfl⟩, q⟩
      | bool b => exact P.repr_of_bool ⟨.str _, H, I.tok _, ⟨_, rfl⟩, q⟩
      | int i t => exact P.repr_of_int (by simpa [PyData.showable] using c1) ⟨.str _, H, I.tok _, ⟨_, rfl⟩, q⟩
      | str y t => exact P.repr_of_str ⟨.str _, H, I.tok _, ⟨_, rfl⟩, q⟩ hz
      | list a1 a2 a3 a4 => exact repr_of_reads' (.list a1 a2 a3 a4) c1 hsm hg (by omega) (fun _ _ k => k) (fun h' u tk k => ⟨.str _, H, I.kept k, ⟨_, rfl⟩, q⟩) hz
      | tuple a1 a2 a3 a4 => exact repr_of_reads' (.tuple a1 a2 a3 a4) c1 hsm hg (by omega) (fun _ _ k => k) (fun h' u tk k => ⟨.str _, H, I.kept k, ⟨_, rfl⟩, q⟩) hz
      | dict a1 a2 a3 a4 a5 => exact repr_of_reads' (.dict a1 a2 a3 a4 a5) c1 hsm hg (by omega) (fun _ _ k => k) (fun h' u tk k => ⟨.str _, H, I.kept k, ⟨_, rfl⟩, q⟩) hz
    · cases e
  · cases e
end

theorem lat_at {m : List Addr} {h : Heap} {H : Hp} (hp : HpOk C m h H) {v : Val} {x : V} {xs : List Val} (r : RepV C.g m H v x) (e : asL h v = some xs) :
    ∃ a vs, x = .ref a ∧ SqL C.g.K H a vs ∧ RepL C.g m H xs vs := by
  cases v with
  | lst ys =>
    obtain ⟨a, vs, rfl, ⟨_, ha⟩, hr⟩ := r
    cases e
    exact ⟨a, vs, rfl, SqL.of ha, hr⟩
  | rol ys =>
    obtain ⟨a, vs, rfl, ha, hr⟩ := r
    cases e
    exact ⟨a, vs, rfl, ha.sq, hr⟩
  | ref n =>
    obtain ⟨a, vs, e1, e2, e3⟩ := lst_at hp (v := .ref n) r (show asT h (.ref n) = some xs from e)
    exact ⟨a, vs, e1, SqL.of e2, e3⟩
  | _ => cases e
theorem tup_no_list {pins : List (Addr × PySem.Obj)} {s : Shared} {σ : St} {H : Hp} {a : Addr} {xs ys : List V} (I : Inv X pins σ H s) (h1 : SqT X.K H a xs) (h2 : SqL X.K H a ys) : False := by
  obtain ⟨_, _, ⟨o, ho, hc, _⟩, _⟩ := I.tuple h1
  obtain ⟨_, _, ⟨o2, n, ho2, hc2, _⟩, _⟩ := I.list h2
  rw [ho] at ho2
  cases ho2
  rw [hc] at hc2
  revert hc2
  decide
theorem tup_no_lst {pins : List (Addr × PySem.Obj)} {s : Shared} {σ : St} {H : Hp} {a : Addr} {xs ys : List V} (I : Inv X pins σ H s) (h1 : SqT X.K H a xs) (h2 : H a = some (.lst ys)) : False := tup_no_list I h1 (SqL.of h2)
/-- str(v) -/
theorem str_ok {m : List Addr} {H : Hp} {pins : List (Addr × PySem.Obj)} {s : Shared} {σ : St} {us : List Value} {Q : VK} (hK : X.K = C.g.K) (hg : X.A.guards = some []) (hu : X.A.units + 65 < cLine) (I : Inv X pins σ H s) {h : Heap} (hp : HpOk C m h H) {v : Val} {x : V} {z : Str} (r : RepV C.g m H v x) (ru : Vals [x] us)
    (e : strO h v = some z) (q : Q (.str z) H) : wpAny (model X.prog X.w) X.A (call (.type "str") us) (EP X pins σ Q) X.xe s := by
  have shown : ∀ d, dataW h v = some d → d.showable = true → d.depth ≤ 20 → d.shown.length ≤ 1000000 → (d.hasDict = false ∨ noLst d = true) → (∃ a, x = .ref a) → Q (.str d.shown) H → wpAny (model X.prog X.w) X.A (call (.type "str") us) (EP X pins σ Q) X.xe s := by
    intro d ed c1 c2 c3 c4 ⟨a, ex⟩ q
    subst ex
    obtain ⟨u, ws, rfl, r1, r2⟩ := vals_cons ru
    cases vals_nil r2
    cases (show u = Value.ref a from r1)
    obtain ⟨as, h1, h2⟩ := rep_readsW hK I hp r (show RelV (.ref a) (.ref a) from rfl) ed
    have hz : d.shown.length ≤ sizeLine := Nat.le_trans c3 (by decide)
    exact str_of_reads h1 c1 (fun k => by
        rcases c4 with c4 | c4
        · rw [c4] at k
          cases k
        · exact h2 c4) hg (by omega) (fun _ _ k => k) (fun h' u tk k => ⟨.str _, H, I.kept k, ⟨_, rfl⟩, q⟩) hz
  have go : ∀ z, shownO h v = some z → (∃ a, x = .ref a) → Q (.str z) H → wpAny (model X.prog X.w) X.A (call (.type "str") us) (EP X pins σ Q) X.xe s := by
    intro z e ha q
    unfold shownO at e
    split at e
    · rename_i d ed
      split at e
      · rename_i c
        cases e
        exact shown d ed c.1 c.2.1 c.2.2.1 c.2.2.2 ha q
      · cases e
    · cases e
  cases v with
  | str y =>
    cases e
    cases (show x = V.str z from r)
    exact SkE.call_str_str pins s σ H _ us Q I ru ⟨z, rfl, q⟩
  | int i =>
    cases (show x = V.int i from r)
    have e : shownO h (.int i) = some z := e
    unfold shownO at e
    split at e
    · rename_i d ed
      cases ed
      split at e
      · rename_i c
        cases e
        exact call_str_int pins s σ H _ us Q I ru ⟨i, rfl, by simpa [PyData.showable] using c.1, q⟩
      · cases e
    · cases e
  | tup xs =>
    obtain ⟨a, vs, rfl, ha, hr⟩ := id r
    exact go z e ⟨a, rfl⟩ q
  | lst xs =>
    obtain ⟨a, vs, rfl, ha, hr⟩ := id r
    exact go z e ⟨a, rfl⟩ q
  | _ => cases e
/-- the truths of numbers and bools as data -/
theorem tru_dp {m : List Addr} {H : Hp} : ∀ {xs : List Val} {vs : List V} {bs : List Bool}, RepL C.g m H xs vs → truL xs = some bs →
    ∃ ds, DpAll C.g.K H vs ds ∧ ds.any PyData.truthy = bs.any id ∧ ds.all PyData.truthy = bs.all id ∧ PyData.plainAll ds = true ∧ ∀ d ∈ ds, PyData.fits63 d
  | [], vs, bs, r, e => by
    cases (show vs = [] from r)
    cases e
    exact ⟨[], .nil, rfl, rfl, rfl, fun _ z => by cases z⟩
  | x :: xs, vs, bs, r, e => by
    obtain ⟨v, ws, rfl, r1, r2⟩ := r
    have e : ((truB x).bind fun b => (truL xs).map fun bs => b :: bs) = some bs := e
    cases q1 : truB x with
    | none => rw [q1] at e; cases e
    | some b =>
      rw [q1] at e
      have e : ((truL xs).map fun bs => b :: bs) = some bs := e
      cases q2 : truL xs with
      | none => rw [q2] at e; cases e
      | some cs =>
        rw [q2] at e
        cases e
        obtain ⟨ds, h1, h2, h3, h4, h5⟩ := tru_dp r2 q2
        cases x with
        | bl c =>
          cases q1
          cases (show v = V.bl b from r1)
          refine ⟨.bool b :: ds, .cons (.bl b) h1, ?_, ?_, ?_, fun d hd => ?_⟩
          · show (b || ds.any _) = (b || cs.any id)
            rw [h2]
          · show (b && ds.all _) = (b && cs.all id)
            rw [h3]
          · show (true && PyData.plainAll ds) = true
            rw [h4]
            rfl
          · rcases List.mem_cons.mp hd with rfl | hd
            · trivial
            · exact h5 d hd
        | int c =>
          cases q1
          cases (show v = V.int c from r1)
          have ec : (c != 0) = decide (c ≠ 0) := by
            by_cases z : c = 0 <;> simp [z]
          refine ⟨.int c :: ds, .cons (.int c) h1, ?_, ?_, ?_, fun d hd => ?_⟩
          · show ((c != 0) || ds.any _) = (decide (c ≠ 0) || cs.any id)
            rw [h2, ec]
          · show ((c != 0) && ds.all _) = (decide (c ≠ 0) && cs.all id)
            rw [h3, ec]
          · show (true && PyData.plainAll ds) = true
            rw [h4]
            rfl
          · rcases List.mem_cons.mp hd with rfl | hd
            · trivial
            · exact h5 d hd
        | _ => cases q1
theorem int_rep {m : List Addr} {H : Hp} : ∀ {xs : List Val} {vs : List V} {is : List Int}, RepL C.g m H xs vs → intL xs = some is → vs = is.map V.int
  | [], vs, bs, r, e => by
    cases (show vs = [] from r)
    cases e
    rfl
  | x :: xs, vs, bs, r, e => by
    obtain ⟨v, ws, rfl, r1, r2⟩ := r
    cases x with
    | int i =>
      have e : ((intL xs).map fun is => i :: is) = some bs := e
      cases q : intL xs with
      | none => rw [q] at e; cases e
      | some cs =>
        rw [q] at e
        cases e
        cases (show v = V.int i from r1)
        rw [int_rep r2 q]
        rfl
    | _ => cases e
/-! ### built-in functions -/
def biName : Bi → Str
  | .abs => "abs" | .max2 => "max" | .min2 => "min" | .len => "len" | .int => "int" | .isi => "isinstance" | .any => "any" | .all => "all" | .tup => "tuple" | .lst => "list" | .repr => "repr" | .sum => "sum" | .str => "str"
def biVal : Bi → Value
  | .abs => .builtin "abs" | .max2 => .builtin "max" | .min2 => .builtin "min" | .len => .builtin "len" | .int => .type "int" | .isi => .builtin "isinstance" | .any => .builtin "any" | .all => .builtin "all" | .tup => .type "tuple" | .lst => .type "list" | .repr => .builtin "repr" | .sum => .builtin "sum" | .str => .type "str"
/-- those that are asked only where nothing is handled -/
def biCalm : Bi → Bool
  | .max2 | .min2 | .any | .all | .sum => true
  | _ => false
def rBi (C : Gc) (f : Bi) : List V → Hp → VK → Prop := fun xs H Q => ∃ m h vs v, HpOk C m h H ∧ RepL C.g m H vs xs ∧ biF h f vs = some v ∧ RO C m h H v Q
theorem call_bi (hK : X.K = C.g.K) (f : Bi) (hc : biCalm f = true → X.calm = true) (hg : X.A.guards = some []) (hu : X.A.units + 65 < cLine) : CallR X (biVal f) (rBi C f) := by
  intro pins s σ H xs us Q I r q
  obtain ⟨m, h, vs, w, hp, rv, e, q⟩ := q
  unfold biF at e
  split at e
  · rename_i v
    obtain ⟨x1, r1, rfl, h1, rfl⟩ := rv
    cases e1 : asSeq h v with
    | none => rw [e1] at e; cases e
    | some ys =>
      rw [e1] at e
      have e : (truL ys).map (fun bs => Val.bl (bs.any id)) = some w := e
      cases e2 : truL ys with
      | none => rw [e2] at e; cases e
      | some bs =>
        rw [e2] at e
        cases e
        obtain ⟨a, vs, rfl, hs, hr⟩ := seq_at hp h1 e1
        obtain ⟨ds, k1, k2, k3, k4, k5⟩ := tru_dp hr e2
        obtain ⟨u, ws, rfl, ru, rn⟩ := vals_cons r
        cases vals_nil rn
        cases (show u = Value.ref a from ru)
        have q := q.now hp (show RepV C.g m H (.bl (bs.any id)) (.bl (bs.any id)) from rfl)
        rw [← k2] at q
        rw [← hK] at hs k1
        have hd : X.A.handled = none := I.ok.hd (hc rfl)
        rcases hs with hs | hs
        · obtain ⟨as, rd⟩ := Dp.reads I _ _ _ (.lst hs k1) ru
          cases rd with
          | list b1 b2 b3 b4 => exact PySem.W.any_list_data hd ⟨_, b1, b2, _, b3⟩ b4 k4 k5 fun h' tk k => ⟨.bl _, H, I.kept k, rfl, q⟩
        · obtain ⟨as, rd⟩ := Dp.reads I _ _ _ (.tup hs k1) ru
          cases rd with
          | tuple b1 b2 b3 b4 => exact PySem.W.any_tuple_data hd ⟨_, b1, b2, _, b3⟩ b4 k4 k5 fun h' tk k => ⟨.bl _, H, I.kept k, rfl, q⟩
  · rename_i v
    obtain ⟨x1, r1, rfl, h1, rfl⟩ := rv
    cases e1 : asSeq h v with
    | none => rw [e1] at e; cases e
    | some ys =>
      rw [e1] at e
      have e : (truL ys).map (fun bs => Val.bl (bs.all id)) = some w := e
      cases e2 : truL ys with
      | none => rw [e2] at e; cases e
      | some bs =>
        rw [e2] at e
        cases e
        obtain ⟨a, vs, rfl, hs, hr⟩ := seq_at hp h1 e1
        obtain ⟨ds, k1, k2, k3, k4, k5⟩ := tru_dp hr e2
        obtain ⟨u, ws, rfl, ru, rn⟩ := vals_cons r
        cases vals_nil rn
        cases (show u = Value.ref a from ru)
        have q := q.now hp (show RepV C.g m H (.bl (bs.all id)) (.bl (bs.all id)) from rfl)
        rw [← k3] at q
        rw [← hK] at hs k1
        have hd : X.A.handled = none := I.ok.hd (hc rfl)
        rcases hs with hs | hs
        · obtain ⟨as, rd⟩ := Dp.reads I _ _ _ (.lst hs k1) ru
          cases rd with
          | list b1 b2 b3 b4 => exact PySem.W.all_list_data hd ⟨_, b1, b2, _, b3⟩ b4 k4 k5 fun h' tk k => ⟨.bl _, H, I.kept k, rfl, q⟩
        · obtain ⟨as, rd⟩ := Dp.reads I _ _ _ (.tup hs k1) ru
          cases rd with
          | tuple b1 b2 b3 b4 => exact PySem.W.all_tuple_data hd ⟨_, b1, b2, _, b3⟩ b4 k4 k5 fun h' tk k => ⟨.bl _, H, I.kept k, rfl, q⟩
  · rename_i v
    obtain ⟨x1, r1, rfl, h1, rfl⟩ := rv
    cases e1 : asL h v with
    | none => rw [e1] at e; cases e
    | some ys =>
      rw [e1] at e
      have e : (intL ys).map (fun is => Val.int is.sum) = some w := e
      cases e2 : intL ys with
      | none => rw [e2] at e; cases e
      | some is =>
        rw [e2] at e
        cases e
        obtain ⟨a, vs, rfl, hs, hr⟩ := lat_at hp h1 e1
        cases int_rep hr e2
        rw [← hK] at hs
        exact cr_sum (hc rfl) pins s σ H _ us Q I r ⟨a, is, rfl, hs, q.now hp rfl⟩
  · rename_i v
    obtain ⟨x1, r1, rfl, h1, rfl⟩ := rv
    cases e1 : asSeq h v with
    | none => rw [e1] at e; cases e
    | some ys =>
      rw [e1] at e
      cases e
      obtain ⟨a, vs, rfl, hs, hr⟩ := seq_at hp h1 e1
      rw [← hK] at hs
      refine call_tuple_of pins s σ H _ us Q I r ⟨a, vs, rfl, ?_⟩
      rcases hs with hs | hs
      · exact .inl ⟨hs, q.lay hp fun p hn hm ev => ⟨p, _, rfl, .inl ⟨hm, upd_same⟩, hr.mono ev⟩⟩
      · refine .inr ⟨hs, ?_⟩
        cases v with
        | tup zs =>
          cases e1
          exact q.now hp h1
        | lst zs =>
          exfalso
          obtain ⟨b, ws, eb, ⟨_, hb⟩, _⟩ := h1
          cases eb
          exact tup_no_lst I hs hb
        | rol zs =>
          exfalso
          obtain ⟨b, ws, eb, hb, _⟩ := h1
          cases eb
          have hb := hb.sq
          rw [← hK] at hb
          exact tup_no_list I hs hb
        | ref n =>
          exfalso
          have hb := lat_at hp (v := .ref n) h1 (show asL h (.ref n) = some ys from e1)
          obtain ⟨b, ws, eb, hb, _⟩ := hb
          cases eb
          rw [← hK] at hb
          exact tup_no_list I hs hb
        | _ => cases e1
  · rename_i v
    obtain ⟨x1, r1, rfl, h1, rfl⟩ := rv
    cases e1 : asSeq h v with
    | none => rw [e1] at e; cases e
    | some ys =>
      rw [e1] at e
      cases e
      obtain ⟨a, vs, rfl, hs, hr⟩ := seq_at hp h1 e1
      rw [← hK] at hs
      exact call_list_of pins s σ H _ us Q I r ⟨a, vs, rfl, hs, q.lay hp fun p hn hm ev => ⟨p, _, rfl, ⟨hm, upd_same⟩, hr.mono ev⟩⟩
  · rename_i v
    obtain ⟨x1, r1, rfl, h1, rfl⟩ := rv
    cases e1 : shownO h v with
    | none => rw [e1] at e; cases e
    | some z =>
      rw [e1] at e
      cases e
      exact repr_ok hK hg hu I hp h1 r e1 (q.now hp rfl)
  · rename_i v
    obtain ⟨x1, r1, rfl, h1, rfl⟩ := rv
    cases e1 : strO h v with
    | none => rw [e1] at e; cases e
    | some z =>
      rw [e1] at e
      cases e
      exact str_ok hK hg hu I hp h1 r e1 (q.now hp rfl)
  · obtain ⟨x1, r1, rfl, h1, rfl⟩ := rv
    cases e
    cases h1
    exact call_abs pins s σ H _ us Q I r ⟨_, rfl, q.now hp (by rfl)⟩
  · obtain ⟨x1, r1, rfl, h1, x2, r2, rfl, h2, rfl⟩ := rv
    cases e
    cases h1
    cases h2
    exact call_max2 (hc rfl) pins s σ H _ us Q I r ⟨_, _, rfl, q.now hp (by rfl)⟩
  · obtain ⟨x1, r1, rfl, h1, x2, r2, rfl, h2, rfl⟩ := rv
    cases e
    cases h1
    cases h2
    exact call_min2 (hc rfl) pins s σ H _ us Q I r ⟨_, _, rfl, q.now hp (by rfl)⟩
  · rename_i z
    obtain ⟨x1, r1, rfl, h1, rfl⟩ := rv
    cases (show x1 = V.str z from h1)
    by_cases c : z.length ≤ 16777216
    · rw [if_pos c] at e
      cases e
      exact call_len_str pins s σ H _ us Q I r ⟨z, rfl, c, q.now hp (by rfl)⟩
    · rw [if_neg c] at e
      cases e
  · obtain ⟨x1, r1, rfl, h1, rfl⟩ := rv
    split at e
    · rename_i ys ey
      cases e
      obtain ⟨a, vs, rfl, hs, hr⟩ := seq_at hp h1 ey
      rw [← hK] at hs
      refine call_len_seq pins s σ H _ us Q I r ⟨a, vs, rfl, hs, ?_⟩
      rw [hr.length]
      exact q.now hp (by rfl)
    · cases e
  · obtain ⟨x1, r1, rfl, h1, rfl⟩ := rv
    cases e
    cases h1
    exact call_int1 pins s σ H _ us Q I r (.inl ⟨_, rfl, q.now hp (by rfl)⟩)
  · obtain ⟨x1, r1, rfl, h1, rfl⟩ := rv
    cases e
    cases h1
    exact call_int1 pins s σ H _ us Q I r (.inr ⟨_, rfl, q.now hp (by rfl)⟩)
  · obtain ⟨x1, r1, rfl, h1, x2, r2, rfl, h2, rfl⟩ := rv
    split at e
    · rename_i n t et
      cases h2
      cases ek : kitB t _ with
      | none =>
        rw [ek] at e
        cases e
      | some b =>
        rw [ek] at e
        cases e
        exact call_isi pins s σ H _ us Q I r ⟨_, _, _, _, b, rfl, .ty _, by rw [hK]; exact ty_at hp h1 et, kit_ty ek, q.now hp (by rfl)⟩
    · cases e
  · cases e
end
end MP
/-! MP, rules of calls where nothing is being shown (no repr is under way): so repr of lists and tuples is known inside. -/
namespace MP
open PySem L2 PySem.Spec PyProof.Rows
structure FnG (P : Program) (w : World) (K : PySem.W.Frag) (mg : Str → Option Value) (base : PySem.Heap) (CX : CXT) (k : Nat) (f : Addr) (fd : FuncData) (ps : List Str) (sp : Sp) : Prop where
  len : ∀ vs H Q E, sp vs H Q E → vs.length = ps.length
  go : ∀ (A : Around) (outer : List Env) (s : Shared) (H : Hp) (args : Args) (us : List Value) (vs : List V) (Q : VK) (E : XK), A.guards = some [] → Room k A → Env0 P w K mg base A outer s H →
    BindsTo s fd args (ps.zip us) → Vals vs us → sp vs H Q E → codeAny (model P w) A (.call (.ref f) args) (CR CX outer P w H s Q E) s
/-- a def by its body -/
theorem fnG_of {P : Program} {w : World} {K : PySem.W.Frag} {mg : Str → Option Value} {base : PySem.Heap} {k : Nat} {f : Addr} {fd : FuncData} {name qual : Str} {st : Stmt} {N ps : List Str} {sp : Sp}
    (F : Fun K name qual st f fd) (S : FnScope N ps (defScope st)) (len : ∀ vs H Q E, sp vs H Q E → vs.length = ps.length)
    (body : ∀ (cdv : Value) (A : Around) (outer : List Env) (s : Shared) (H : Hp) (vs : List V) (Q : VK) (E : XK), A.guards = some [] → Room k (A.deeper (envOfC qual (defScope st) s.heap.objs.size f cdv)) → sp vs H Q E →
      ∃ t, PSs (cxOf (L2.CX P w) P w K mg base N qual (defScope st) f cdv A outer s H E) (defBody st) t ∧ t { nx := fun _ H' => Q .non H', rt := Q } (start N vs) H) :
    FnG P w K mg base (L2.CX P w) (k + 1) f fd ps sp := by
  obtain ⟨oc, od, kV, doc, pm, an, cdv, ct, osl, rfl, lk, hcd⟩ := F.ex
  refine ⟨len, fun A outer s H args us vs Q E hg room e0 hb rv hsp => ?_⟩
  have grown : ∀ b o, base.get? b = some o → s.heap.get? b = some o := fun b o z => (e0.bs b o z).1
  have KX := e0.mod.kin.keeps grown
  have lim := e0.mod.nolimit.keeps grown
  refine codeAny_call_function room.depth (KX _ _ lk) rfl S.co S.gen rfl (PySem.W.codeRec_of KX hcd) (hb _ _ _ _ (wpAny_newFunctionEnv_cells S.kind (fun y hy => ?_) fun env he s1 x => ?_))
  · rcases S.par y.1 (List.of_mem_zip (show (y.1, y.2) ∈ ps.zip us from hy)).1 with z | z
    · exact .inl z
    · exact .inr ⟨z, PySem.W.cellsFrom_some _ _ _ (.inl z)⟩
  · subst he
    refine ⟨lim.keeps x.toInCall.keep, codeAny_func ?_⟩
    obtain ⟨t, ht, hq⟩ := body cdv A outer s H vs Q E hg (room.deeper _) hsp
    have I := inv_start (CX := L2.CX P w) (E := E) S room.hd e0 (len _ _ _ _ hsp) rv x
    refine wpAny_mono (ht.run [] s1 (start N vs) H _ I hq) (fun fl s' z => ?_) (fun _ _ z => z)
    cases fl with
    | ret u => obtain ⟨v, σ', H', J, r, q⟩ := z; exact ⟨v, H', J.os, J.bare, J.base, J.hok, r, q⟩
    | next => obtain ⟨σ', H', J, q⟩ := z; exact ⟨V.non, H', J.os, J.bare, J.base, J.hok, rfl, q⟩
    | brk => obtain ⟨_, _, _, q⟩ := z; exact q.elim
    | cont => obtain ⟨_, _, _, q⟩ := z; exact q.elim
section
variable {X : Cx} {j : Nat} {f Ca : Addr} {fd : FuncData} {ps : List Str} {sp : Sp} {Wx : WX} {x mn : Str} {p pos apos : Pos} {e o : Expr} {es : List Expr} {ta : TE} {t : TA}
/-- the callee runs -/
theorem runG {pins : List (Addr × PySem.Obj)} {σ : L2.St} {H : Hp} {s : Shared} {Q : VK} {us : List Value} {vs : List V} (F : FnG X.prog X.w X.K X.mg X.base (L2.CX X.prog X.w) j f fd ps sp) (hg : X.A.guards = some []) (hr : Room j X.A) (hb : Binds X.K fd ps [])
    (tk : Takes X Wx) (I : Inv X pins σ H s) (rv : Vals vs us) (h : sp vs H Q (WE Wx σ)) : wpAny (model X.prog X.w) X.A (call (.ref f) us) (EP X pins σ Q) X.xe s := by
  have hl : (us ++ []).length = ps.length := by
    rw [List.append_nil, ← rv.length]
    exact F.len _ _ _ _ h
  have hb' := hb s us I.kIn hl
  rw [List.append_nil] at hb'
  refine wpAny_call (codeAny_mono (F.go X.A X.stack s H _ us vs Q _ hg hr I.env0 hb' rv h) fun r s' z => ?_)
  match r, z with
  | .ok (.ret u), z => exact I.after z
  | .error e, z => exact passAt tk σ pins H s e s' I z
theorem pe_callG (F : FnG X.prog X.w X.K X.mg X.base (L2.CX X.prog X.w) j f fd ps sp) (gd : X.A.guards = some []) (hr : Room j X.A) (hg : Gl X x) (hm : X.mg x = some (.ref f)) (hk : PySem.W.keepIn X.K (.ref f) = true) (hb : Binds X.K fd ps [])
    (tk : Takes X Wx) (ha : PA X (e :: es) t) (hdb : (x == ("__debug__" : Str)) = false) (he : starEach (e :: es) X.env = (false, eval e X.env) :: starEach es X.env) (hpl : (backTo pos (starEach es X.env)).any (·.1) = false) :
    PE X (.Call (.Name x p) (e :: es) [] pos) (fun σ H Q => t σ H fun vs H1 => sp vs H1 Q (WE Wx σ)) :=
  ⟨fun pins s σ H Q I h => wpAny_Call_Name_kw (ld_glob I hg hm (PySem.W.callWith_K (h₀ := X.base) I.ok.mod.kin hk (thn (ha.run pos pins s σ H _ I h) fun us s1 ⟨vs, H1, I1, r, q⟩ => ⟨I1.kIn, runG F gd hr hb tk I1 r q⟩) he hpl) hdb)⟩
theorem pe_callG0 (F : FnG X.prog X.w X.K X.mg X.base (L2.CX X.prog X.w) j f fd ps sp) (gd : X.A.guards = some []) (hr : Room j X.A) (hg : Gl X x) (hm : X.mg x = some (.ref f)) (hk : PySem.W.keepIn X.K (.ref f) = true) (hb : Binds X.K fd ps [])
    (tk : Takes X Wx) (hdb : (x == ("__debug__" : Str)) = false) : PE X (.Call (.Name x p) [] [] pos) (fun σ H Q => sp [] H Q (WE Wx σ)) :=
  ⟨fun pins s σ H Q I h => wpAny_Call_Name_kw (ld_glob I hg hm (PySem.W.callWith_K0 I.kIn hk (runG (us := []) F gd hr hb tk I .nil h)) hdb)⟩
/-- how a method's call is read -/
structure MCall (X : Cx) (o : Expr) (mn : Str) (ap pos : Pos) (es : List Expr) : Prop where
  base : attributeBase o mn X.env (eval o X.env) = eval o X.env
  few : methodCallForm (es.length + ([] : List Keyword).length) (backTo pos (starEach es X.env)) (backToKw pos (keywordEach [] X.env)) = true
  line : (ap.endLine == pos.line) = true
theorem mcall_wp {o : Expr} {mn : Str} {ap pos : Pos} {es : List Expr} {A : Around} {E : Value → Shared → Prop} {s : Shared} {Q : Value → Shared → Prop} (hc : MCall X o mn ap pos es)
    (h : wpAny (model X.prog X.w) A (eval o X.env) (fun ov s1 => ∀ pl, wpAny (model X.prog X.w) A (getMethod ov mn pl) (fun fx s2 => wpAny (model X.prog X.w) A (callWith pos fx.1 fx.2 (backTo pos (starEach es X.env)) (backToKw pos (keywordEach [] X.env))) Q E s2) E s1) E s) :
    wpAny (model X.prog X.w) A (eval (.Call (.Attribute o mn ap) es [] pos) X.env) Q E s := by
  have hp : methodCallPos true o X.env ap pos = pure pos := by
    unfold methodCallPos
    simp [hc.line]
  rw [arm_eval_Call, hc.base]
  refine wpAny_bind (wpAny_mono h (fun ov s1 z => wpAny_bind (wpAny_standAt ?_)) fun _ _ e => e)
  unfold methodCall
  rw [hc.few]
  exact wpAny_bind (wpAny_holding (wpAny_mono (z _) (fun fx s2 y => wpAny_bind (wpAny_of_eq hp y)) fun _ _ e => e))
/-- o.m(e, ..): what stands at o tells the class, and so the def -/
def tMthG (K : PySem.W.Frag) (R : Addr → Sp → Prop) (Wx : WX) (mn : Str) (ta : TE) (t : TA) : TE := fun σ H Q => ta σ H fun x H1 => ∃ a Ca dx fs f sp, x = .ref a ∧ H1 a = some (.ins Ca dx fs) ∧ fs.lookup mn = none ∧ Cls K Ca ∧ Meth K Ca mn f ∧ R f sp ∧
  t σ H1 fun vs H2 => sp (x :: vs) H2 Q (WE Wx σ)
theorem pe_methG {R : Addr → Sp → Prop} (he : PE X o ta) (gd : X.A.guards = some []) (hr : Room j X.A) (FR : ∀ f sp, R f sp → ∃ fd ps, FnG X.prog X.w X.K X.mg X.base (L2.CX X.prog X.w) j f fd ps sp ∧ Binds X.K fd ps [])
    (tk : Takes X Wx) (ha : PA X (e :: es) t) (hst : starEach (e :: es) X.env = (false, eval e X.env) :: starEach es X.env) (hpl : (backTo pos (starEach es X.env)).any (·.1) = false) (hc : MCall X o mn apos pos (e :: es)) :
    PE X (.Call (.Attribute o mn apos) (e :: es) [] pos) (tMthG X.K R Wx mn ta t) := by
  refine ⟨fun pins s σ H Q I h => mcall_wp hc (thn (he.run pins s σ H _ I h) fun u s1 ⟨x, H1, I1, rx, a, Ca, dx, fs, f, sp, ex, ea, l, c, m, fr, q⟩ pl => ?_)⟩
  subst ex
  cases (show u = Value.ref a from rx)
  obtain ⟨fd, ps, F, hb⟩ := FR f sp fr
  exact getmeth_ok I1 ea c m l (PySem.W.callWith_K (first := [.ref a]) (h₀ := X.base) I.ok.mod.kin m.kp (thn (ha.run pos pins s1 σ H1 _ I1 q) fun us s2 ⟨vs, H2, I2, r, q2⟩ => ⟨I2.kIn, runG (us := .ref a :: us) (vs := .ref a :: vs) F gd hr hb tk I2 (.cons rfl r) q2⟩) hst hpl)
theorem pe_methG0 {R : Addr → Sp → Prop} (he : PE X o ta) (gd : X.A.guards = some []) (hr : Room j X.A) (FR : ∀ f sp, R f sp → ∃ fd ps, FnG X.prog X.w X.K X.mg X.base (L2.CX X.prog X.w) j f fd ps sp ∧ Binds X.K fd ps [])
    (tk : Takes X Wx) (hc : MCall X o mn apos pos []) : PE X (.Call (.Attribute o mn apos) [] [] pos) (tMthG X.K R Wx mn ta tNil) := by
  refine ⟨fun pins s σ H Q I h => mcall_wp hc (thn (he.run pins s σ H _ I h) fun u s1 ⟨x, H1, I1, rx, a, Ca, dx, fs, f, sp, ex, ea, l, c, m, fr, q⟩ pl => ?_)⟩
  subst ex
  cases (show u = Value.ref a from rx)
  obtain ⟨fd, ps, F, hb⟩ := FR f sp fr
  exact getmeth_ok I1 ea c m l (PySem.W.callWith_K0 (first := [.ref a]) I1.kIn m.kp (runG (us := [.ref a]) (vs := [.ref a]) F gd hr hb tk I1 (.cons rfl .nil) q))
theorem make_guards {A : Around} {C : Addr} {us : List Value} {kw : List (Str × Value)} : (A.under (.builtin "type.__call__" ⟨.ref C :: us, kw⟩)).guards = A.guards := by
  first
    | rfl
    | simp [Around.under, Code.guards, Code.isGuard, pushGuards, guardIds]
/-- C(e, ..) -/
def tMakeG (Ca : Addr) (sp : Sp) (Wx : WX) (t : TA) : TE := fun σ H Q => t σ H fun vs H1 => ∀ x dx, H1 x = none → H1 dx = none → dx ≠ x →
  sp (.ref x :: vs) (upd (upd H1 dx (.own x)) x (.ins Ca dx [])) (fun v H2 => v = .non ∧ Q (.ref x) H2) (WE Wx σ)
theorem runMk {pins : List (Addr × PySem.Obj)} {σ : L2.St} {H : Hp} {s : Shared} {Q : VK} {us : List Value} {vs : List V} (M : Mk X.K Ca f) (F : FnG X.prog X.w X.K X.mg X.base (L2.CX X.prog X.w) j f fd ps sp) (gd : X.A.guards = some []) (hr : Room (j + 1) X.A) (hb : Binds X.K fd ps [])
    (tk : Takes X Wx) (I : Inv X pins σ H s) (rv : Vals vs us)
    (h : ∀ x dx, H x = none → H dx = none → dx ≠ x → sp (.ref x :: vs) (upd (upd H dx (.own x)) x (.ins Ca dx [])) (fun v H2 => v = .non ∧ Q (.ref x) H2) (WE Wx σ)) :
    wpAny (model X.prog X.w) X.A (call (.ref Ca) us) (EP X pins σ Q) X.xe s := by
  generalize hn : s.heap.objs.size = n at *
  have f1 : H (n + 1) = none := I.hok.fresh (by rw [hn]; exact Nat.le_succ _)
  have f0 : H n = none := I.hok.fresh (by rw [hn]; exact Nat.le_refl _)
  have hq := h (n + 1) n f1 f0 (Nat.ne_of_lt (Nat.lt_succ_self _))
  have I2 := Inv.made (C := Ca) I
  rw [hn] at I2
  have r2 : Vals (V.ref (n + 1) :: vs) (Value.ref (n + 1) :: us) := .cons rfl rv
  have hl : ((Value.ref (n + 1) :: us) ++ []).length = ps.length := by
    rw [List.append_nil, ← r2.length]
    exact F.len _ _ _ _ hq
  have hb' := hb _ (Value.ref (n + 1) :: us) I2.kIn hl
  rw [List.append_nil] at hb'
  refine wpAny_call (make_map (f := f) I.kIn M.makes M.init (beq_iff_eq.mp M.fn) ?_)
  rw [hn]
  refine codeAny_mono (F.go _ X.stack _ _ _ _ _ _ (WE Wx σ) (make_guards.trans gd) (hr.make Ca us []) (I2.env0.make Ca us []) hb' r2 hq) fun r s' z => ?_
  match r, z with
  | .ok (.ret u), z =>
    obtain ⟨v, H', I3, r3, ev, q3⟩ := I2.after z
    subst ev
    exact ⟨r3, ⟨V.ref (n + 1), H', I3, rfl, q3⟩⟩
  | .error e, z => exact passAt tk σ pins _ _ e s' I2 z
theorem pe_makeG (M : Mk X.K Ca f) (F : FnG X.prog X.w X.K X.mg X.base (L2.CX X.prog X.w) j f fd ps sp) (gd : X.A.guards = some []) (hr : Room (j + 1) X.A) (hg : Gl X x) (hm : X.mg x = some (.ref Ca)) (hb : Binds X.K fd ps [])
    (tk : Takes X Wx) (ha : PA X (e :: es) t) (hdb : (x == ("__debug__" : Str)) = false) (he : starEach (e :: es) X.env = (false, eval e X.env) :: starEach es X.env) (hpl : (backTo pos (starEach es X.env)).any (·.1) = false) :
    PE X (.Call (.Name x p) (e :: es) [] pos) (tMakeG Ca sp Wx t) :=
  ⟨fun pins s σ H Q I h => wpAny_Call_Name_kw (ld_glob I hg hm (PySem.W.callWith_K (h₀ := X.base) I.ok.mod.kin M.kp (thn (ha.run pos pins s σ H _ I h) fun us s1 ⟨vs, H1, I1, r, q⟩ => ⟨I1.kIn, runMk M F gd hr hb tk I1 r q⟩) he hpl) hdb)⟩
/-! ### errors with one field: X(e), its __init__ stores it -/
/-- what the written part says of an error's class at Ca, its field fn -/
structure ExC (K : PySem.W.Frag) (Ca : Addr) : Prop where
  ex : PySem.W.subIn K (.ref Ca) (.type "BaseException") = some true
  ty : PySem.W.typeIn K (.ref Ca) = some (.type "type")
  kp : PySem.W.keepIn K (.ref Ca) = true
  is : ExcC K Ca
/-- .. without an __init__ of its own -/
structure Ex0 (K : PySem.W.Frag) (Ca : Addr) : Prop where
  new : PySem.W.excIn K Ca [.type "ValueError", .type "Exception", .type "BaseException", .type "object"] "ValueError.__new__" = true
theorem mk0 {Ca : Addr} {pos : Pos} (h : ExC X.K Ca) (h0 : Ex0 X.K Ca) (hg : Gl X x) (hm : X.mg x = some (.ref Ca)) (hdb : (x == ("__debug__" : Str)) = false) : PMk X (.Call (.Name x p) [] [] pos) (fun _ H Q => Q (.ref Ca) none H) := by
  intro pins s σ H Q I q
  refine wpAny_Call_Name_kw (ld_glob I hg hm (PySem.W.callWith_K0 I.kIn h.kp ?_) hdb)
  obtain ⟨bm, N, nm, qn, bs, hdct, sn, sub, ab, col, dd, k0, k1, k2, k3, k5, mN, hC, hN, hni, T⟩ := exc_obj I.kIn h0.new
  exact wpAny_call_exc_subT F.excBase_ValueError T hC hN hni (fun h' e hm => mk_of I hm (raises_own h.ex h.ty) q (I.hok.gone hm.new)) (Nat.zero_le _)
/-- .. with an __init__ that stores its one argument -/
structure Ex1 (K : PySem.W.Frag) (Ca : Addr) (fn : Str) : Prop where
  ox : OexC K Ca
  no : PySem.W.findIn K (.ref Ca) fn = some none
  xf : XfC K Ca
  init : ∃ fI fd qual st p1 p2 p3 p4, PySem.W.findIn K (.ref Ca) "__init__" = some (some (.ref fI)) ∧ PySem.W.typeIn K (.ref fI) = some (.type "function") ∧ Fun K "__init__" qual st fI fd ∧ FnScope ["self", fn] ["self", fn] (defScope st) ∧
    defBody st = [.Assign [.Attribute (.Name "self" p1) fn p2] (.Name fn p3) p4] ∧ Binds K fd ["self", fn] [] ∧ (fn == ("__debug__" : Str)) = false ∧ (fn == ("__classdict__" : Str)) = false
def spInit (K : PySem.W.Frag) (Ca : Addr) (fn : Str) : Sp := fun vs H Q _ => ∃ (a : Addr) (y : V), vs = [.ref a, y] ∧ H a = some (exo a Ca none) ∧ ∀ dx, H dx = none → dx ≠ a → Q .non (upd (upd H dx (exd dx [(fn, y)])) a (exo a Ca (some dx)))
theorem init_fn {P : Program} {w : World} {K : PySem.W.Frag} {mg : Str → Option Value} {base : PySem.Heap} {fI : Addr} {fd : FuncData} {qual fn : Str} {st : Stmt} {p1 p2 p3 p4 : Pos} (T : OexC K Ca) (no : PySem.W.findIn K (.ref Ca) fn = some none) (F : Fun K "__init__" qual st fI fd)
    (S : FnScope ["self", fn] ["self", fn] (defScope st)) (hb : defBody st = [.Assign [.Attribute (.Name "self" p1) fn p2] (.Name fn p3) p4]) (d1 : (fn == ("__debug__" : Str)) = false) (d2 : (fn == ("__classdict__" : Str)) = false) :
    FnOk P w K mg base (L2.CX P w) 1 fI fd ["self", fn] (spInit K Ca fn) := by
  refine F.okX (k := 0) S (fun vs H Q E ⟨a, y, z, _⟩ => by rw [z]; rfl) fun cdv A outer s H vs Q E hr h => ?_
  obtain ⟨a, y, rfl, ea, q⟩ := h
  have vis : ∀ x : Str, x ∈ (["self", fn] : List Str) → Vis (defScope st) x := fun x hx => by
    rcases S.par x hx with z | z
    · exact .inl z
    · exact .inr (.inl z)
  rw [hb]
  refine ⟨_, pss_one (ps_ost (X := cxOf (L2.CX P w) P w K mg base ["self", fn] qual (defScope st) fI cdv A outer s H E) (pe_var (i := 0) rfl (vis _ (by simp))) (pe_var (i := 1) rfl (vis _ (by simp)) d1 d2)), ?_⟩
  exact ⟨y, rfl, .ref a, rfl, a, Ca, rfl, T, no, .inl ⟨ea, q⟩⟩
theorem mk1_post {Ca : Addr} {K : PySem.W.Frag} {fn : Str} {vs : List V} {H1 : Hp} {Q : XK} (h : ∃ y, vs = [y] ∧ ∀ d, H1 d = none → Q (.ref Ca) (some d) (upd H1 d (.xd [(fn, y)]))) :
    vs.length ≤ 1000 ∧ ∀ a, H1 a = none → spInit K Ca fn (.ref a :: (vs ++ [])) (upd H1 a (exo a Ca none)) (fun v H2 => v = .non ∧ ∃ (d : Addr) (fs : List (Str × V)), H2 a = some (exo a Ca (some d)) ∧ H2 d = some (exd d fs) ∧ H1 d = none ∧ Q (.ref Ca) (some d) (upd (del H2 a) d (.xd fs))) (fun _ _ _ => False) := by
  obtain ⟨y, rfl, z⟩ := h
  refine ⟨by show 1 ≤ 1000; decide, fun a na => ⟨a, y, rfl, upd_same, fun dx nd ne => ⟨rfl, dx, [(fn, y)], upd_same, ?_, ?_, ?_⟩⟩⟩
  · rw [upd_ne ne, upd_same]
  · rw [upd_ne ne] at nd
    exact nd
  · rw [upd_ne ne] at nd
    have ef : upd (del (upd (upd (upd H1 a (exo a Ca none)) dx (exd dx [(fn, y)])) a (exo a Ca (some dx))) a) dx (.xd [(fn, y)]) = upd H1 dx (.xd [(fn, y)]) := by
      funext b
      by_cases hb : b = dx
      · rw [hb, upd_same, upd_same]
      · rw [upd_ne hb, upd_ne hb]
        by_cases hc : b = a
        · rw [hc, del_same, na]
        · rw [del_ne hc, upd_ne hc, upd_ne hb, upd_ne hc]
    rw [ef]
    exact z dx nd
theorem mk1 {Ca : Addr} {fn : Str} {pos : Pos} (h1 : Ex1 X.K Ca fn) (hr : Room 2 X.A) (tk : Takes X Wx) (hg : Gl X x) (hm : X.mg x = some (.ref Ca)) (ha : PA X [e] t) (hdb : (x == ("__debug__" : Str)) = false)
    (he : starEach [e] X.env = (false, eval e X.env) :: starEach [] X.env) : PMk X (.Call (.Name x p) [e] [] pos) (tMkO Ca (spInit X.K Ca fn) [] t) := by
  obtain ⟨fI, fd, qual, st, p1, p2, p3, p4, i1, i2, i3, i4, i5, i6, i7, i8⟩ := h1.init
  exact pmk_oex (p := p) (pos := pos) (es := []) (dvs := []) h1.ox i1 i2 (init_fn (P := X.prog) (w := X.w) (mg := X.mg) (base := X.base) h1.ox h1.no i3 i4 i5 i7 i8) hr i6 .nil (passes_call tk (E := fun _ _ _ => False) fun _ _ _ _ z => z.elim) hg hm ha hdb he rfl
end
/-! ### the law's end -/
theorem law_callG {P : Program} {w : World} {K : PySem.W.Frag} {mg mb : Str → Option Value} {k : Nat} {fa a : Addr} {fd : FuncData} {x : Str} {sp : Sp} {s₁ : Shared} {vs : List Value} {ns : List Int}
    (KX : K.In s₁.heap) (hns : s₁.heap.Ns mainGlobals mg) (hb : s₁.heap.Ns builtinsNs mb) (hbb : ∀ x : Str, x ≠ "__name__" → mb x = bootBuiltins x) (lim : s₁.heap.NoLimit) (hg : s₁.gens = #[])
    (ha : s₁.heap.get? a = some { cls := .type "list", data := .seq vs.toArray }) (hi : IntsAre vs ns) (hl : ns.length ≤ sizeLine) (hr : Room k callerA)
    (Fn : ∀ base : PySem.Heap, K.In base → base.Ns mainGlobals mg → FnG P w K mg base (L2.CX P w) k fa fd [x] sp) (bind : ∀ (s : Shared) (u : Value), BindsTo s fd ⟨[u], []⟩ [(x, u)])
    (hsp : ∀ H : Hp, Only H → SqL K H a (ns.map V.int) → sp [.ref a] H (fun v _ => v = .bl true) fun _ _ _ => False) :
    codeAny (model P w) callerA (.call (.ref fa) ⟨[.ref a], []⟩) (fun r s' => r = .ok (.ret (.bool true)) ∧ OldK s₁.heap s'.heap ∧ s'.os = s₁.os ∧ AllBare s'.gens) s₁ := by
  have key : ∀ H : Hp, Only H → SqL K H a (ns.map V.int) → HOk P w H s₁.heap → (∀ b u, H b = some u → b = a) → (∀ u, H a = some u → K.lookup a = none) →
      codeAny (model P w) callerA (.call (.ref fa) ⟨[.ref a], []⟩) (fun r s' => r = .ok (.ret (.bool true)) ∧ OldK s₁.heap s'.heap ∧ s'.os = s₁.os ∧ AllBare s'.gens) s₁ := by
    intro H only sq hok sole off
    have free : ∀ {b : Addr}, b ≠ a → H b = none := fun {b} nb => by
      cases z : H b with
      | none => rfl
      | some u => exact absurd (sole b u z) nb
    have dic : ∀ {b : Addr} {m : Str → Option Value}, s₁.heap.Ns b m → (hidT s₁.heap H).Ns b m := fun {b m} hm => by
      obtain ⟨o, es, ep, e1, e2, e3⟩ := hm
      refine ⟨o, es, ep, hidT_get e1 (free fun z => ?_), e2, e3⟩
      rw [z, ha] at e1
      cases e1
      cases e2
    have kin : K.In (hidT s₁.heap H) := fun b o e => hidT_get (KX b o e) (by
      cases z : H b with
      | none => rfl
      | some u =>
        have eb := sole b u z
        subst eb
        rw [off u z] at e
        cases e)
    have md : Mod K mg (hidT s₁.heap H) := ⟨kin, dic hns, ⟨mb, dic hb, hbb⟩, by
      obtain ⟨mc, l1, l2⟩ := lim
      exact ⟨mc, dic l1, l2⟩⟩
    have e0 : Env0 P w K mg (hidT s₁.heap H) callerA [] s₁ H := ⟨rfl, md, fun b o e => of_hidT e, Nat.le_of_eq (hidT_size _ _), trivial, (fun b hb => by cases hb), hok, .of_eq hg⟩
    refine codeAny_mono ((Fn _ kin (dic hns)).go callerA [] s₁ H _ [.ref a] [.ref a] _ _ rfl hr e0 (bind s₁ (.ref a)) (.cons rfl .nil) (hsp H only sq)) fun r s' z => ?_
    match r, z with
    | .error e, z =>
      obtain ⟨_, _, _, _, _, _, _, _, _, _, _, _, y⟩ := z
      exact y.elim
    | .ok (.ret u), z =>
      obtain ⟨v, H', os, bare, un, hok', rv, ev⟩ := z
      have ev : v = .bl true := ev
      subst ev
      cases (show u = Value.bool true from rv)
      refine ⟨rfl, OldK.of_keep fun b o e => ?_, os, bare⟩
      rcases only b with y | ⟨ob, xs, y⟩
      · exact un.keep b o e y (fun q => by cases q) (by simp)
      · have e1 := (hok b _ y).1
        have e2 := (hok' b _ (un.frzs b ob _ y)).1
        rw [e] at e1
        cases e1
        exact e2
  have rv := vals_ints hi
  cases hk : K.lookup a with
  | some o =>
    have e := KX a o hk
    rw [ha] at e
    cases e
    refine key (fun _ => none) (fun _ => .inl rfl) (.inr ⟨_, vs.toArray, _, hk, rfl, rfl, rfl, ?_, by simpa using rv⟩) (fun _ _ z => by cases z) (fun _ _ z => by cases z) (fun _ z => by cases z)
    rw [List.size_toArray, hi.length]
    exact hl
  | none =>
    have here : ∀ b u, (if b = a then some (HO.frz { cls := .type "list", data := .seq vs.toArray } (.lst (ns.map V.int))) else none) = some u → b = a ∧ u = .frz { cls := .type "list", data := .seq vs.toArray } (.lst (ns.map V.int)) := fun b u z => by
      by_cases hb : b = a
      · rw [if_pos hb] at z
        exact ⟨hb, (Option.some.inj z).symm⟩
      · rw [if_neg hb] at z
        cases z
    refine key (fun b => if b = a then some (.frz { cls := .type "list", data := .seq vs.toArray } (.lst (ns.map V.int))) else none) (fun b => ?_) (.inl (.inr ⟨_, if_pos rfl⟩)) (fun b u z => ?_) (fun b u z => (here b u z).1) fun _ _ => hk
    · by_cases hb : b = a
      · exact .inr ⟨_, _, if_pos hb⟩
      · exact .inl (if_neg hb)
    · obtain ⟨rfl, rfl⟩ := here b u z
      exact ⟨ha, by rw [List.length_map]; exact hl, vs, _, rv, ha⟩
theorem walk_G {l : PySem.W.OpenLaw} {n k : Nat} {q : Program} {loose : List Str} {XP : (Str → Option Value) → PySem.Heap → Prop} {YP : World → PySem.Heap → Prop} {d : DefRec} {K : Params → PySem.W.Frag} {x : Str}
    (hn : l.most = some n) (hn2 : n ≤ sizeLine) (hdf : d.params.defaults = []) (hr : Room k callerA) (hY : ∀ (w : World) (h : PySem.Heap), YP w h → (K w.params).In h)
    (Fn : ∀ (w : World) (mg : Str → Option Value) (fa : Addr) (h : PySem.Heap), (K w.params).In h → h.Ns mainGlobals mg → mg d.name = some (.ref fa) → ∃ fd : FuncData, (∀ (s : Shared) (u : Value), BindsTo s fd ⟨[u], []⟩ [(x, u)]) ∧
      ∃ sp : Sp, (∀ base : PySem.Heap, (K w.params).In base → base.Ns mainGlobals mg → FnG l.prog w (K w.params) mg base (L2.CX l.prog w) k fa fd [x] sp) ∧
      ∀ (H : Hp) (a : Addr) (ns : List Int), ns.length ≤ n → (∀ z ∈ ns, Builtin.Int.intBits z ≤ 1048576) → Only H → SqL (K w.params) H a (ns.map V.int) → sp [.ref a] H (fun v _ => v = .bl true) fun _ _ _ => False) :
    PySem.W.WalkO q loose XP YP l.row.toRowW d [] (fun f vs => PySem.call f vs) := by
  refine Att.attach_callB hn hdf fun w s₀ s₁ mg mb fa o pm cd doc a vs ns G Y ho hd hcd hmg hobj hints hlen hbits hg => ?_
  obtain ⟨fd, hb, sp, hF, hsp⟩ := Fn w mg fa _ (hY w _ Y) G.T.g hmg
  exact law_callG (hY w _ Y) G.T.g G.T.b G.T.builtins G.T.nolimit hg hobj hints (Nat.le_trans hlen hn2) hr hF hb fun H hO hS => hsp H a ns hlen hbits hO hS
end MP
/-! MP, expressions: the text that an expression of the small language is read from, and that the layer's reading of this text follows its run. -/
namespace MP
open PySem L2

/-- what stands in the text: the slots' names, the names of the block, the defs' names, built-in names that the module leaves alone -/
structure Stc where
  N : List Str
  ns : List (Str × NameKind)
  tn : List (Str × NameKind)
  fn : List Str
  bn : List Str
  gl : List Str
  cn : List Str
  hot : Bool
  xi : Option Nat

def visB (ns : List (Str × NameKind)) (x : Str) : Bool := match ns.lookup x with
  | some .local => true
  | some .cell => true
  | some .free => true
  | _ => false
def locB (ns : List (Str × NameKind)) (x : Str) : Bool := match ns.lookup x with
  | some .local => true
  | _ => false
def gloB (ns : List (Str × NameKind)) (x : Str) : Bool := match ns.lookup x with
  | some .globalImplicit => true
  | _ => false
def nameOk (x : Str) : Bool := !(x == ("__debug__" : Str)) && !(x == ("__classdict__" : Str)) && !(x == ("__name__" : Str)) && !(x == ("" : Str))
def notStar : Expr → Bool
  | .Starred _ _ => false
  | _ => true
def noSuper : Expr → Bool
  | .Call (.Name id _) [] [] _ => id != "super"
  | _ => true
/-- a test that is asked as a value -/
def valTest : Expr → Bool
  | .Name _ _ => true
  | .Call _ _ _ _ => true
  | .Subscript _ _ _ => true
  | .Attribute _ _ _ => true
  | _ => false
def plainIx : Expr → Bool
  | .Slice _ _ _ _ => false
  | _ => true
def bmName : Bm → Str
  | .bits => "bit_length" | .reverse => "reverse" | .append => "append" | .extend => "extend" | .join => "join"

/-- parts of a text that is put together -/
def okJ : E → Bool
  | .nl => true
  | .cs (.fmt _) r => okJ r
  | .cs (.con (.str s)) r => decide (s.length ≤ 1000000) && okJ r
  | _ => false
def cntJ : E → Nat
  | .cs _ r => cntJ r + 1
  | _ => 0
def tmName : Tm → Str
  | .startswith => "startswith" | .split => "split" | .find => "find" | .index => "index"
/-- methods without an argument -/
def bm0 : Bm → Bool
  | .bits => true | .reverse => true | _ => false
/-- a written scalar -/
def chkC (v : Val) (x : Expr) : Bool := match v, x with
  | .int i, .Constant (.int j) _ _ => decide (i = j)
  | .str i, .Constant (.str j) _ _ => decide (i = j)
  | .bl i, .Constant (.bool j) _ _ => decide (i = j)
  | .non, .Constant .none _ _ => true
  | _, _ => false
def chkK (k : L2.Key) (x : Expr) : Bool := match k, x with
  | .inl i, .Constant (.int j) _ _ => decide (i = j)
  | .inr i, .Constant (.str j) _ _ => decide (i = j)
  | _, _ => false
def noMark : CmpOp → Expr → Bool
  | _, .Set _ _ _ => false
  | _, _ => true
def locCB (ns : List (Str × NameKind)) (x : Str) : Bool := match ns.lookup x with
  | some .local => true
  | some .cell => true
  | _ => false
/-- a comprehension's names, as they are read in its block -/
def relab (ns names : List (Str × NameKind)) : List (Str × NameKind) := names.map fun (n, k) => if (k == NameKind.free && ns.lookup n == some .cell) then (n, NameKind.cell) else (n, k)
mutual
def chkTg (g : Stc) : T → Expr → Bool
  | .nm i, x => match x with
    | .Name n _ => decide (g.N[i]? = some n) && locCB g.tn n
    | _ => false
  | .tup ts, x => match x with
    | .Tuple xs _ _ => !g.hot && chkTgs g ts xs
    | _ => false
  | _, _ => false
termination_by structural t => t
def chkTgs (g : Stc) : T → List Expr → Bool
  | .nl, [] => true
  | .cs t r, y :: ys => notStar y && chkTg g t y && chkTgs g r ys
  | _, _ => false
termination_by structural t => t
end
mutual
/-- the slots of a target -/
def tgSlots : T → List Nat
  | .nm i => [i]
  | .nl => []
  | .cs t r => tgSlots t ++ tgSlots r
  | .tup ts => tgSlots ts
end
/-- pairs are walked by a tuple of names -/
def tgTup : E → Expr → Bool
  | .iZip _, .Tuple _ _ _ => true
  | .iZip _, _ => false
  | .iEnu _, .Tuple _ _ _ => true
  | .iEnu _, _ => false
  | _, _ => true
def notSet : Expr → Bool
  | .Set _ _ _ => false
  | _ => true
mutual
def chkE (g : Stc) : E → Expr → Bool
  | .var i, x => match x with
    | .Name n _ => decide (g.N[i]? = some n) && visB g.ns n && nameOk n
    | _ => false
  | .con v, x => chkC v x
  | .glo y, x => match x with
    | .Name n _ => decide (y = n) && gloB g.ns n && nameOk n && g.gl.contains n
    | _ => false
  | .d0, x => match x with
    | .Dict [] [] _ => true
    | _ => false
  | .d1 k v, x => match x with
    | .Dict [some y] [z] _ => chkK k y && chkC v z
    | _ => false
  | .chn o1 o2 a b d, x => match x with
    | .Compare y [p1, p2] [z, w] _ => decide (o1 = p1) && decide (o2 = p2) && noMark p1 z && noMark p2 w && chkE g a y && chkE g b z && chkE g d w
    | _ => false
  | .sl a lo hi, x => match x with
    | .Subscript y (.Slice p q none _) _ => chkE g a y && chkO g lo p && chkO g hi q
    | _ => false
  | .lc _ t own it cd elt, x => match x with
    | .ListComp z [⟨tg, itx, ifs, 0⟩] sc _ => !g.hot && tgTup it tg && L2.blkC g.N ⟨.function, g.ns, false, false, []⟩ sc (own.map fun i => (g.N.getD i (Str.ofString ""), i)) && (own.all fun i => decide (i < g.N.length)) && ((tgSlots t).all fun i => own.contains i)
        && notSet itx && chkI g it itx && chkTg ⟨g.N, relab g.ns sc.names, sc.names, g.fn, g.bn, g.gl, g.cn, g.hot, g.xi⟩ t tg && chkIfs ⟨g.N, relab g.ns sc.names, sc.names, g.fn, g.bn, g.gl, g.cn, g.hot, g.xi⟩ cd ifs && chkE ⟨g.N, relab g.ns sc.names, sc.names, g.fn, g.bn, g.gl, g.cn, g.hot, g.xi⟩ elt z
    | _ => false
  | .bt t, x => match x with
    | .Name n _ => gloB g.ns n && nameOk n && g.bn.contains n && decide (bootBuiltins n = some (.type t))
    | _ => false
  | .tup es, x => match x with
    | .Tuple xs _ _ => chkEs g es xs
    | _ => false
  | .lst _ es, x => match x with
    | .List xs _ => chkEs g es xs
    | _ => false
  | .bin op a b, x => match x with
    | .BinOp y o z _ => decide (op = o) && chkE g a y && chkE g b z
    | _ => false
  | .neg a, x => match x with
    | .UnaryOp .USub y _ => chkE g a y
    | _ => false
  | .cmp op a b, x => match x with
    | .Compare y [o] [z] _ => decide (op = o) && noMark o z && chkE g a y && chkE g b z
    | _ => false
  | .and a b, x => match x with
    | .BoolOp .And (y :: ys) p => chkE g a y && (match ys with
      | [] => false
      | [z] => chkE g b z
      | _ => chkE g b (.BoolOp .And ys p))
    | _ => false
  | .or a b, x => match x with
    | .BoolOp .Or (y :: ys) p => chkE g a y && (match ys with
      | [] => false
      | [z] => chkE g b z
      | _ => chkE g b (.BoolOp .Or ys p))
    | _ => false
  | .not a, x => match x with
    | .UnaryOp .Not y _ => chkE g a y
    | _ => false
  | .rev a s, x => match x with
    | .Subscript y (.Slice none none (some z) _) _ => chkE g a y && chkE g s z
    | _ => false
  | .ife t a b, x => match x with
    | .IfExp c y z _ => chkT g t c && chkE g a y && chkE g b z
    | _ => false
  | .cal f es, x => match x with
    | .Call (.Name n _) ys [] _ => !g.hot && decide (g.fn[f]? = some n) && gloB g.ns n && nameOk n && chkEs g es ys
    | _ => false
  | .bi f es, x => match x with
    | .Call (.Name n _) (y :: ys) [] _ => (!g.hot || !biCalm f) && decide (biName f = n) && gloB g.ns n && g.bn.contains n && chkEs g es (y :: ys)
    | _ => false
  | .bm m o es, x => match es, x with
    | .nl, .Call (.Attribute y n ap) [] [] cp => !g.hot && decide (bmName m = n) && noSuper y && (ap.endLine == cp.line) && bm0 m && chkE g o y
    | .cs a r, .Call (.Attribute y n ap) (z :: zs) [] cp => !g.hot && decide (bmName m = n) && noSuper y && (ap.endLine == cp.line) && !bm0 m && decide (zs.length < 28) && chkE g o y && (notStar z && chkE g a z && chkEs g r zs)
    | _, _ => false
  | .ix a b, x => match x with
    | .Subscript y z _ => plainIx z && chkE g a y && chkE g b z
    | _ => false
  | .cl i, x => match x with
    | .Name n _ => decide (g.cn[i]? = some n) && gloB g.ns n && nameOk n
    | _ => false
  | .new _ j es, x => match x with
    | .Call (.Name n _) (y :: ys) [] _ => !g.hot && decide (g.cn[j]? = some n) && gloB g.ns n && nameOk n && chkEs g es (y :: ys)
    | _ => false
  | .fld o f, x => match x with
    | .Attribute y n _ => decide (f = n) && noSuper y && chkE g o y
    | _ => false
  | .mth m o es, x => match x with
    | .Call (.Attribute y n ap) zs [] cp => !g.hot && decide (m = n) && noSuper y && (ap.endLine == cp.line) && decide (zs.length < 28) && chkE g o y && chkEs g es zs
    | _ => false
  | .xf i f, x => match x with
    | .Attribute (.Name y _) n _ => g.hot && decide (g.xi = some i) && decide (f = n) && decide (g.N[i]? = some y) && visB g.ns y && nameOk y
    | _ => false
  | .xi i j, x => match x with
    | .Call (.Name w _) [.Name y _, .Name z _] [] _ => g.hot && decide (g.xi = some i) && decide (w = ("isinstance" : Str)) && gloB g.ns w && g.bn.contains w && decide (g.N[i]? = some y) && visB g.ns y && nameOk y && decide (g.cn[j]? = some z) && gloB g.ns z && nameOk z
    | _ => false
  | .tm m o a, x => match x with
    | .Call (.Attribute y n ap) [z] [] cp => decide (tmName m = n) && noSuper y && (ap.endLine == cp.line) && notStar z && chkE g o y && chkE g a z
    | _ => false
  | .itx a, x => match x with
    | .Call (.Name w _) [y] [] _ => decide (w = ("int" : Str)) && gloB g.ns w && g.bn.contains w && notStar y && chkE g a y
    | _ => false
  | .fmt a, x => match x with
    | .FormattedValue y (-1) none _ => chkE g a y
    | _ => false
  | .fst es, x => match x with
    | .JoinedStr (y :: z :: zs) _ => okJ es && decide (cntJ es ≤ 15) && chkEs g es (y :: z :: zs)
    | _ => false
  | .lH a, x => match x with
    | .Call (.Name w _) [y] [] _ => decide (w = ("list" : Str)) && gloB g.ns w && g.bn.contains w && notStar y && chkE g a y
    | _ => false
  | .isC a j, x => match x with
    | .Call (.Name w _) [y, .Name z _] [] _ => !g.hot && decide (w = ("isinstance" : Str)) && gloB g.ns w && g.bn.contains w && decide (g.cn[j]? = some z) && gloB g.ns z && nameOk z && notStar y && chkE g a y
    | _ => false
  | .xiT i e, x => match x with
    | .Call (.Name w _) [.Name y _, z] [] _ => g.hot && decide (g.xi = some i) && decide (w = ("isinstance" : Str)) && gloB g.ns w && g.bn.contains w && decide (g.N[i]? = some y) && visB g.ns y && nameOk y && notStar z && chkE g e z
    | _ => false
  | .xt i t, x => match x with
    | .Call (.Name w _) [.Name y _, .Name z _] [] _ => g.hot && decide (g.xi = some i) && decide (w = ("isinstance" : Str)) && gloB g.ns w && g.bn.contains w && decide (g.N[i]? = some y) && visB g.ns y && nameOk y && gloB g.ns z && nameOk z && g.bn.contains z && decide (bootBuiltins z = some (.type t))
    | _ => false
  | _, _ => false
termination_by structural e => e
def chkEs (g : Stc) : E → List Expr → Bool
  | .nl, [] => true
  | .cs a r, y :: ys => notStar y && chkE g a y && chkEs g r ys
  | _, _ => false
termination_by structural e => e
def chkO (g : Stc) : E → Option Expr → Bool
  | .nl, none => true
  | .cs a .nl, some y => chkE g a y
  | _, _ => false
termination_by structural e => e
def chkI (g : Stc) : E → Expr → Bool
  | .iSeq e, x => chkE g e x
  | .iRng es, x => match x with
    | .Call (.Name n _) ys [] _ => decide (n = ("range" : Str)) && gloB g.ns n && g.bn.contains n && (decide (ys.length = 1) || decide (ys.length = 2)) && chkEs g es ys
    | _ => false
  | .iZip es, x => match x with
    | .Call (.Name n _) [y, z] [] _ => decide (n = ("zip" : Str)) && gloB g.ns n && g.bn.contains n && chkEs g es [y, z]
    | _ => false
  | .iEnu es, x => match x with
    | .Call (.Name n _) [y] [] _ => decide (n = ("enumerate" : Str)) && gloB g.ns n && g.bn.contains n && chkEs g es [y]
    | _ => false
  | _, _ => false
termination_by structural e => e
def chkIfs (g : Stc) : E → List Expr → Bool
  | .nl, [] => true
  | .tst e, [x] => valTest x && chkE g e x
  | .cmp op a b, [x] => match x with
    | .Compare y [o] [z] _ => decide (op = o) && noMark o z && chkE g a y && chkE g b z
    | _ => false
  | .not a, [x] => match x with
    | .UnaryOp .Not y _ => chkT g a y
    | _ => false
  | _, _ => false
termination_by structural e => e
def chkT (g : Stc) : E → Expr → Bool
  | .tst e, x => valTest x && chkE g e x
  | .chn o1 o2 a b d, x => match x with
    | .Compare y [p1, p2] [z, w] _ => decide (o1 = p1) && decide (o2 = p2) && noMark p1 z && noMark p2 w && chkE g a y && chkE g b z && chkE g d w
    | _ => false
  | .cmp op a b, x => match x with
    | .Compare y [o] [z] _ => decide (op = o) && noMark o z && chkE g a y && chkE g b z
    | _ => false
  | .and a b, x => match x with
    | .BoolOp .And (y :: ys) p => chkT g a y && (match ys with
      | [] => false
      | [z] => chkT g b z
      | _ => chkT g b (.BoolOp .And ys p))
    | _ => false
  | .or a b, x => match x with
    | .BoolOp .Or (y :: ys) p => chkT g a y && (match ys with
      | [] => false
      | [z] => chkT g b z
      | _ => chkT g b (.BoolOp .Or ys p))
    | _ => false
  | .not a, x => match x with
    | .UnaryOp .Not y _ => chkT g a y
    | _ => false
  | _, _ => false
termination_by structural e => e
end
end MP
/-! MP, expressions: the layer's reading of the text follows the run. -/
namespace MP
open PySem L2

/-- the promise of the i-th def by its run -/
def spI (C : Gc) (call : Nat → List Val → Heap → Res Val) (i n : Nat) : Sp := fun vs H Q E => vs.length = n ∧ ∃ m h args, HpOk C m h H ∧ RepL C.g m H args vs ∧
  RP C (fun cls d _ H' => E cls d H') m H [] (call i args h) fun v h' m' H' => ∀ x, RepV C.g m' H' v x → Q x H'

/-- nothing is handled -/
def gc0 (G : Gk) : Gc := ⟨G, fun _ _ => True, fun _ _ _ _ _ _ => trivial, none⟩
/-- what the written part says of the classes -/
structure Wd (G : Gk) : Prop where
  cls : ∀ i, G.t.isC i = true → Cls G.K (G.ca i) ∧ ∀ f ∈ G.t.fl i, NoAttr G.K (G.ca i) f
  mt : ∀ i m f, G.t.isC i = true → G.t.mt i m = some f → Meth G.K (G.ca i) m (G.fa f)
  mks : ∀ i f, G.t.mt i "__init__" = some f → Mk G.K (G.ca i) (G.fa f) ∧ (G.t.fl i).Nodup
  ex : ∀ i, G.t.isX i = true → ExC G.K (G.ca i) ∧ (G.t.xf i = none → Ex0 G.K (G.ca i)) ∧ ∀ f, G.t.xf i = some f → Ex1 G.K (G.ca i) f
  sub : ∀ i j, G.t.isX i = true → G.t.isX j = true → PySem.W.exmOne G.K (.ref (G.ca i)) (.ref (G.ca j)) = some (G.t.sub i j) ∧ PySem.W.kitOne G.K (.ref (G.ca i)) (.ref (G.ca j)) = some (G.t.sub i j)
  clsT : ∀ i, G.t.isC i = true → G.t.isI i = true → PySem.W.findIn G.K (.ref (G.ca i)) "__class__" = some (some (.builtin "object.__class__")) ∧ PySem.W.specialIn G.K (.builtin "object.__class__") "__get__" = some (some (.builtin "getset_descriptor.__get__")) ∧ PySem.W.takesIn G.K (.builtin "object.__class__") = some true ∧ PySem.W.mroIn G.K (G.ca i) (.type "object") = some true
  subC : ∀ i j, G.t.isC i = true → G.t.isI i = true → G.t.isC j = true → G.t.isI j = true → PySem.W.kitOne G.K (.ref (G.ca i)) (.ref (G.ca j)) = some (G.t.sub i j)
  subB : ∀ T j, G.t.isC j = true → G.t.isI j = true → ["NoneType", "bool", "int", "str", "tuple", "list", "dict"].contains T = true → PySem.W.kitOne G.K (.type T) (.ref (G.ca j)) = some false
  subT : ∀ i T, G.t.isX i = true → G.t.bt T = true → PySem.W.kitOne G.K (.ref (G.ca i)) (.type T) = some (G.t.subT i T)
/-- the error that is handled: its place, class, dict; its field's value as it stood when the suite began -/
structure Hx (g : Stc) (C : Gc) (c : Cf) (X : Cx) : Prop where
  ex : ∃ (X0 : Cx) (a : Addr) (oe : PySem.Obj) (d : Option Addr) (pn : List (Addr × PySem.Obj)) (cc : Nat) (v : Val) (m0 : List Addr) (H0 : Hp), X = X0.suite a ((a, oe) :: pn) ∧ Zc (.ref (C.g.ca cc)) d oe ∧ (∃ vs, oe.data = .fields vs) ∧
    C.xs = g.xi.map (fun i => (i, a)) ∧ c.exn = some (cc, v) ∧ (∀ m H, C.J m H → Evo m0 H0 m H) ∧ XAt C.g m0 H0 cc v d
/-- where one stands in the text -/
structure Cok (g : Stc) (C : Gc) (Wx : WX) (k : Nat) (c : Cf) (X : Cx) : Prop where
  K : X.K = C.g.K
  N : X.N = g.N
  nd : g.N.Nodup
  ns : X.env.scope.names = g.ns
  kd : X.env.scope.kind = .function
  calm : g.hot = false → X.calm = true
  un : X.A.units + 65 < cLine
  room : g.hot = false → Room k X.A
  gd : X.A.guards = some []
  tk : Takes X Wx
  po : PassesOwn (model X.prog X.w) X.A X.env X.xe
  fnc : ∀ x, locCB g.tn x = true → L2.Loc X.env.scope x ∧ (X.fn x = true ∨ X.env.scope.names.lookup x = some .local)
  bn : ∀ x, g.bn.contains x = true → X.mg x = none
  tb : c.t = C.g.t
  lv : c.lv = k
  gl : ∀ x v, g.gl.contains x = true → c.t.gv x = some v → ∃ y u, X.mg x = some u ∧ RelV y u ∧ ∀ m H h, HpOk C m h H → RepV C.g m H v y
  c0 : g.hot = false → C = gc0 C.g
  wd : Wd C.g
  cn : ∀ (i : Nat) (x : Str), g.cn[i]? = some x → X.mg x = some (.ref (C.g.ca i))
  fn : ∀ (i : Nat) (x : Str), g.fn[i]? = some x → x ≠ "" → X.mg x = some (.ref (C.g.fa i)) ∧ PySem.W.keepIn X.K (.ref (C.g.fa i)) = true
  fok : ∀ i : Nat, i < g.fn.length → ∃ fd ps, Binds X.K fd ps [] ∧ (∀ args h, c.call i args h = .bad ∨ args.length = ps.length) ∧ FnG X.prog X.w X.K X.mg X.base (L2.CX X.prog X.w) k (C.g.fa i) fd ps (spI (gc0 C.g) c.call i ps.length)
  fok1 : ∀ i : Nat, i < g.fn.length → k ≠ 0 → ∃ j fd ps, k = j + 1 ∧ Binds X.K fd ps [] ∧ (∀ args h, c.call1 i args h = .bad ∨ args.length = ps.length) ∧ FnG X.prog X.w X.K X.mg X.base (L2.CX X.prog X.w) j (C.g.fa i) fd ps (spI (gc0 C.g) c.call1 i ps.length)
  mtl : ∀ i m f, C.g.t.mt i m = some f → f < g.fn.length
  hx : g.hot = true → Hx g C c X

def tE (C : Gc) (Wx : WX) (c : Cf) (e : E) : TE := fun s H Q => ∃ m l h, HpOk C m h H ∧ LocOk C m H l s ∧ RP C Wx m H s (evalE c e l h) fun v h' m' H' => ∀ x, RepV C.g m' H' v x → Q x H'
def tEs (C : Gc) (Wx : WX) (c : Cf) (e : E) : TA := fun s H Q => ∃ m l h, HpOk C m h H ∧ LocOk C m H l s ∧ RP C Wx m H s (evalEs c e l h) fun v h' m' H' => ∀ x, RepL C.g m' H' v x → Q x H'
def tT (C : Gc) (Wx : WX) (c : Cf) (e : E) : TT := fun s H Q => ∃ m l h, HpOk C m h H ∧ LocOk C m H l s ∧ RP C Wx m H s (evalT c e l h) fun v h' m' H' => Q v H'

theorem star_of {y : Expr} {ys : List Expr} {env : Env} (h : notStar y = true) : starEach (y :: ys) env = (false, eval y env) :: starEach ys env := by
  cases y <;> first | rfl | cases h
theorem chkEs_star {g : Stc} {env : Env} : ∀ {es : E} {ys : List Expr}, chkEs g es ys = true → ∀ pos, (backTo pos (starEach ys env)).any (·.1) = false
  | .nl, [], _, pos => rfl
  | .cs a r, y :: ys, h, pos => by
    have h2 : (notStar y && chkE g a y && chkEs g r ys) = true := h
    simp only [Bool.and_eq_true] at h2
    rw [star_of h2.1.1]
    show (false || (backTo pos (starEach ys env)).any (·.1)) = false
    rw [chkEs_star h2.2 pos]
    rfl
theorem chkEs_cons {g : Stc} {env : Env} {es : E} {y : Expr} {ys : List Expr} (h : chkEs g es (y :: ys) = true) : starEach (y :: ys) env = (false, eval y env) :: starEach ys env ∧ ∀ pos, (backTo pos (starEach ys env)).any (·.1) = false := by
  cases es with
  | cs a r =>
    have h2 : (notStar y && chkE g a y && chkEs g r ys) = true := h
    simp only [Bool.and_eq_true] at h2
    exact ⟨star_of h2.1.1, chkEs_star h2.2⟩
  | _ => cases h
theorem nameOk_d {x : Str} (h : nameOk x = true) : (x == ("__debug__" : Str)) = false ∧ (x == ("__classdict__" : Str)) = false ∧ x ≠ "__name__" := by
  unfold nameOk at h
  simp only [Bool.and_eq_true, Bool.not_eq_true'] at h
  exact ⟨h.1.1.1, h.1.1.2, fun z => by rw [z] at h; simp at h⟩
theorem nameOk_e {x : Str} (h : nameOk x = true) : x ≠ "" := by
  unfold nameOk at h
  simp only [Bool.and_eq_true, Bool.not_eq_true'] at h
  exact fun z => by rw [z] at h; simp at h
theorem base_of {o : Expr} {n : Str} {env : Env} (h : noSuper o = true) : attributeBase o n env (eval o env) = eval o env := by
  unfold attributeBase
  split
  · rename_i id p pos
    have z : (id != "super") = true := h
    rw [z]
    rfl
  · rfl

section
variable {C : Gc} {m m1 : List Addr} {H H1 : Hp} {s : St}
/-- what was made is forgotten -/
theorem trim_ok {h h1 : Heap} {l1 : Loc} (hx : C.xs = none) (e : Evo m H m1 H1) (hp : HpOk C m h H) (hp1 : HpOk C m1 h1 H1) (lo : LocOk C m1 H1 l1 s) : Evo m H m H1 ∧ HpOk C m (h1.take h.length) H1 ∧ LocOk C m H1 (trimL h.length l1) s := by
  obtain ⟨n, en⟩ := e.pre
  have sub : ∀ a o, H1 a = some o → a ∉ m1 → a ∉ m := fun a o _ na z => na (by rw [en]; exact List.mem_append_left _ z)
  have ix : ∀ (k : Nat) a, k < h.length → m1[k]? = some a → m[k]? = some a := fun k a hk q => by
    rw [en, List.getElem?_append_left (by rw [hp.len]; exact hk)] at q
    exact q
  have ev : Evo m H m H1 := ⟨⟨[], by simp⟩, fun a ha na => absurd ha na, e.keep⟩
  refine ⟨ev, ⟨?_, hp.nd, fun k o a hk ha => ?_, C.Jm _ _ _ _ hp.j ev⟩, ⟨?_, fun i v q => ?_, fun i a z => by rw [hx] at z; cases z⟩⟩
  · have z := hp1.len
    rw [en, List.length_append] at z
    rw [List.length_take, hp.len]
    have := hp.len
    omega
  · have hl : k < h.length := by
      rw [← hp.len]
      exact (List.getElem?_eq_some_iff.mp ha).1
    rw [List.getElem?_take_of_lt hl] at hk
    have ha1 : m1[k]? = some a := by
      rw [en, List.getElem?_append_left (by rw [hp.len]; exact hl)]
      exact ha
    have z := hp1.obj k o a hk ha1
    cases o with
    | lst xs =>
      obtain ⟨vs, e1, r1, p1⟩ := z
      exact ⟨vs, e1, r1.place sub (fun n a hn => absurd hn (Nat.not_lt_zero n)) p1, p1⟩
    | ins c xs =>
      obtain ⟨dx, vs, e1, l1, n1, r1, p1⟩ := z
      exact ⟨dx, vs, e1, l1, n1, r1.place sub (fun n a hn => absurd hn (Nat.not_lt_zero n)) p1, p1⟩
  · unfold trimL
    rw [List.length_map]
    exact lo.len
  · unfold trimL at q
    rw [List.getElem?_map] at q
    cases q1 : l1[i]? with
    | none => rw [q1] at q; cases q
    | some w =>
      rw [q1] at q
      cases w with
      | none => cases q
      | some u =>
        have q : some (if refsLt h.length u = true then some u else none) = some (some v) := q
        by_cases hu : refsLt h.length u = true
        · rw [if_pos hu] at q
          cases q
          obtain ⟨x, h1, h2⟩ := lo.get i _ q1
          exact ⟨x, h1, h2.place sub ix hu⟩
        · rw [if_neg hu] at q
          cases q
end
/-- an iterator of the layer walks the items xs -/
def Walks (C : Gc) (m : List Addr) (H : Hp) (J : It) (xs : List Val) : Prop := ∀ m' H', Evo m H m' H' → ∀ i : Nat, (xs.length = i → J.stop i H') ∧
  ∀ v, xs[i]? = some v → J.go i H' ∧ ∀ x H2, J.yld i H' x H2 → Evo m' H' m' H2 ∧ ∀ h, HpOk C m' h H' → HpOk C m' h H2 ∧ RepV C.g m' H2 v x
def tI (C : Gc) (Wx : WX) (c : Cf) (e : E) : TI := fun s H R => ∃ m l h, HpOk C m h H ∧ LocOk C m H l s ∧ RP C Wx m H s (evalI c e l h) fun xs _ m' H' => ∀ J, Walks C m' H' J xs → R J H'
theorem rangeL_len : ∀ (n : Nat) (lo : Int), (rangeL lo n).length = n
  | 0, _ => rfl
  | n + 1, lo => by show (rangeL (lo + 1) n).length + 1 = n + 1; rw [rangeL_len n]
theorem rangeL_get : ∀ (n : Nat) (lo : Int) (i : Nat), i < n → (rangeL lo n)[i]? = some (.int (lo + i))
  | n + 1, lo, 0, _ => by show some (Val.int lo) = _; simp
  | n + 1, lo, i + 1, h => by
    show (rangeL (lo + 1) n)[i]? = _
    rw [rangeL_get n (lo + 1) i (by omega)]
    have e : lo + 1 + (i : Int) = lo + ((i + 1 : Nat) : Int) := by omega
    rw [e]
section
variable {g : Stc} {C : Gc} {Wx : WX} {k : Nat} {c : Cf} {X : Cx}

theorem Cok.vis (ok : Cok g C Wx k c X) {x : Str} (h : visB g.ns x = true) : Vis X.env.scope x := by
  unfold visB at h
  rw [← ok.ns] at h
  unfold Vis
  split at h
  · exact .inl (by assumption)
  · exact .inr (.inl (by assumption))
  · exact .inr (.inr (by assumption))
  · cases h
theorem Cok.glo (ok : Cok g C Wx k c X) {x : Str} (h : gloB g.ns x = true) : Gl X x := by
  unfold gloB at h
  rw [← ok.ns] at h
  show X.env.scope.names.lookup x = some .globalImplicit
  split at h
  · assumption
  · cases h

/-! ### targets -/
theorem wipe_set {s : St} {i : Nat} {o : Option V} : ∀ {vs : List Nat}, i ∈ vs → wipe (s.set i o) vs = wipe s vs
  | [], h => by cases h
  | v :: vs, h => by
    show (wipe (s.set i o) vs).set v none = (wipe s vs).set v none
    by_cases hv : i ∈ vs
    · rw [wipe_set hv]
    · have e : i = v := by
        rcases List.mem_cons.mp h with z | z
        · exact z
        · exact absurd z hv
      subst e
      refine List.ext_getElem? fun j => ?_
      by_cases hj : i = j
      · subst hj
        by_cases hl : i < s.length
        · rw [List.getElem?_set_self (by rw [wipe_length, List.length_set]; exact hl), List.getElem?_set_self (by rw [wipe_length]; exact hl)]
        · rw [List.getElem?_eq_none (by rw [List.length_set, wipe_length, List.length_set]; omega), List.getElem?_eq_none (by rw [List.length_set, wipe_length]; omega)]
      · rw [List.getElem?_set_ne hj, List.getElem?_set_ne hj]
        by_cases hjv : j ∈ vs
        · have z1 : ∀ (t : St) (us : List Nat), j ∈ us → (wipe t us)[j]? = if j < t.length then some none else none := by
            intro t us hu
            induction us with
            | nil => cases hu
            | cons u us ih =>
              show ((wipe t us).set u none)[j]? = _
              by_cases hu2 : u = j
              · subst hu2
                by_cases hl : u < t.length
                · rw [List.getElem?_set_self (by rw [wipe_length]; exact hl), if_pos hl]
                · rw [List.getElem?_eq_none (by rw [List.length_set, wipe_length]; omega), if_neg hl]
              · rw [List.getElem?_set_ne hu2]
                rcases List.mem_cons.mp hu with z | z
                · exact absurd z.symm hu2
                · exact ih z
          rw [z1 _ vs hjv, z1 _ vs hjv, List.length_set]
        · rw [wipe_out hjv, wipe_out hjv, List.getElem?_set_ne hj]
/-- a store changes nothing but the target's slots -/
abbrev Only (t : T) (s s' : St) : Prop := ∀ vs : List Nat, (∀ i ∈ tgSlots t, i ∈ vs) → wipe s' vs = wipe s vs
def gT (C : Gc) (t : T) : TG := fun x s H Q => ∃ m l v l', LocOk C m H l s ∧ RepV C.g m H v x ∧ store t v l = some l' ∧ ∀ s', LocOk C m H l' s' → Only t s s' → Q s' H
def gTs (C : Gc) (t : T) : TGs := fun xs s H Q => ∃ m l vs l', LocOk C m H l s ∧ RepL C.g m H vs xs ∧ storeL t vs l = some l' ∧ ∀ s', LocOk C m H l' s' → Only t s s' → Q s' H
theorem PG.imp {tg : Expr} {t t' : TG} (h : PG X tg t) (f : ∀ v s H Q, t' v s H Q → t v s H Q) : PG X tg t' := ⟨fun pins s σ H v u Q I r q => h.run pins s σ H v u Q I r (f _ _ _ _ q)⟩
theorem PGs.imp {tg : List Expr} {t t' : TGs} (h : PGs X tg t) (f : ∀ v s H Q, t' v s H Q → t v s H Q) : PGs X tg t' := ⟨fun pins s σ H v u Q I r q => h.run pins s σ H v u Q I r (f _ _ _ _ q)⟩
theorem each_of {y : Expr} {ys : List Expr} {env : Env} (h : notStar y = true) : assignEach (y :: ys) env = (false, assign y env) :: assignEach ys env := by
  cases y <;> first | rfl | cases h
theorem chkTgs_each {env : Env} : ∀ {ts : T} {ys : List Expr}, chkTgs g ts ys = true → (assignEach ys env).findIdx? (·.1) = none ∧ (assignEach ys env).length = ys.length
  | .nl, [], _ => ⟨rfl, rfl⟩
  | .cs t r, y :: ys, h => by
    have h2 : (notStar y && chkTg g t y && chkTgs g r ys) = true := h
    simp only [Bool.and_eq_true] at h2
    obtain ⟨a, b⟩ := chkTgs_each (env := env) h2.2
    rw [each_of h2.1.1]
    exact ⟨by rw [List.findIdx?_cons]; simp [a], by simp [b]⟩
theorem storeL_len : ∀ {t : T} {vs : List Val} {l l' : Loc} {ys : List Expr}, storeL t vs l = some l' → chkTgs g t ys = true → vs.length = ys.length
  | .nl, vs, l, l', ys, e, h => by
    cases ys with
    | nil =>
      cases vs with
      | nil => rfl
      | cons _ _ => cases e
    | cons _ _ => cases h
  | .cs t r, vs, l, l', ys, e, h => by
    cases ys with
    | nil => cases h
    | cons y ys =>
      cases vs with
      | nil => cases e
      | cons v vs =>
        have h2 : (notStar y && chkTg g t y && chkTgs g r ys) = true := h
        simp only [Bool.and_eq_true] at h2
        have e : (store t v l).bind (fun l1 => storeL r vs l1) = some l' := e
        cases q : store t v l with
        | none => rw [q] at e; cases e
        | some l1 =>
          rw [q] at e
          show vs.length + 1 = ys.length + 1
          rw [storeL_len (t := r) e h2.2]
  | .nm _, vs, l, l', ys, e, h => by cases h
  | .tup _, vs, l, l', ys, e, h => by cases h
mutual
theorem sndTg (ok : Cok g C Wx k c X) : ∀ (t : T) (x : Expr), chkTg g t x = true → PG X x (gT C t)
  | .nm i, x, h => by
    unfold chkTg at h
    split at h
    · rename_i n p
      simp only [Bool.and_eq_true, decide_eq_true_eq] at h
      obtain ⟨h1, h2⟩ := h
      have hL := ok.fnc n h2
      refine PG.imp (pg_name (i := i) (by rw [ok.N]; exact ok.nd) (by rw [ok.N]; exact h1) hL.1 hL.2) fun v s H Q => ?_
      rintro ⟨m, l, w, l', lo, r, e, q⟩
      cases e
      exact q _ (lo.set i r) fun vs hv => wipe_set (hv i (by simp [tgSlots]))
    · cases h
  | .tup ts, x, h => by
    unfold chkTg at h
    split at h
    · rename_i xs n p
      rw [Bool.and_eq_true, Bool.not_eq_true'] at h
      obtain ⟨h0, h⟩ := h
      obtain ⟨a, b⟩ := chkTgs_each (env := X.env) h
      refine PG.imp (pg_tup (ok.calm h0) (sndTgs ok ts xs h) b a) fun v s H Q => ?_
      rintro ⟨m, l, w, l', lo, r, e, q⟩
      cases w with
      | tup vs =>
        obtain ⟨ad, ys, rfl, ha, hr⟩ := r
        have e : storeL ts vs l = some l' := e
        exact ⟨ad, ys, rfl, by rw [ok.K]; exact ha.sq, by rw [hr.length, storeL_len e h], m, l, vs, l', lo, hr, e, fun s' lo' o => q s' lo' fun us hu => o us (by simpa [tgSlots] using hu)⟩
      | _ => cases e
    · cases h
  | .nl, x, h => by cases h
  | .cs _ _, x, h => by cases h
theorem sndTgs (ok : Cok g C Wx k c X) : ∀ (t : T) (x : List Expr), chkTgs g t x = true → PGs X x (gTs C t)
  | .nl, x, h => by
    cases x with
    | nil =>
      refine PGs.imp pgs_nil fun v s H Q => ?_
      rintro ⟨m, l, w, l', lo, r, e, q⟩
      cases w with
      | nil =>
        cases e
        exact ⟨r, q s lo fun _ _ => rfl⟩
      | cons _ _ => cases e
    | cons _ _ => cases h
  | .cs t r, x, h => by
    cases x with
    | nil => cases h
    | cons y ys =>
      have h2 : (notStar y && chkTg g t y && chkTgs g r ys) = true := h
      simp only [Bool.and_eq_true] at h2
      refine PGs.imp (pgs_cons (sndTg ok t y h2.1.2) (sndTgs ok r ys h2.2) (by rw [each_of h2.1.1]; rfl)) fun v s H Q => ?_
      rintro ⟨m, l, w, l', lo, rr, e, q⟩
      cases w with
      | nil => cases e
      | cons v0 vs =>
        obtain ⟨x0, xs, rfl, r1, r2⟩ := rr
        have e : (store t v0 l).bind (fun l1 => storeL r vs l1) = some l' := e
        cases q1 : store t v0 l with
        | none => rw [q1] at e; cases e
        | some l1 =>
          rw [q1] at e
          exact ⟨x0, xs, rfl, m, l, v0, l1, lo, r1, q1, fun s1 lo1 o1 => ⟨m, l1, vs, l', lo1, r2, e, fun s2 lo2 o2 => q s2 lo2 fun us hu => (o2 us fun i hi => hu i (by simp [tgSlots]; exact .inr hi)).trans (o1 us fun i hi => hu i (by simp [tgSlots]; exact .inl hi))⟩⟩
  | .nm _, x, h => by cases h
  | .tup _, x, h => by cases h
end
theorem fold_no {x : Expr} {env : Env} (h : notSet x = true) (y : Value) : foldedSetIterable x env y = pure y := by cases x <;> first | rfl | cases h
theorem walks_list {m : List Addr} {H : Hp} {a : Addr} {vs : List V} {xs : List Val} (ha : LAt C.g m H a vs) (r : RepL C.g m H xs vs) : Walks C m H (Itl C.g.K a) xs := by
  intro m' H' ev i
  have h1 := (ev.lat ha).sq
  have h2 := r.mono ev
  refine ⟨fun hi => ⟨vs, h1, by rw [h2.length]; exact Nat.le_of_eq hi⟩, fun v hv => ?_⟩
  obtain ⟨x, hx, rx⟩ := h2.get hv
  refine ⟨⟨vs, x, h1, hx⟩, fun y H2 ⟨e, f⟩ => ?_⟩
  subst e
  have e2 : x = y := Option.some.inj (hx.symm.trans (f vs h1))
  subst e2
  exact ⟨Evo.refl _ _, fun h q => ⟨q, rx⟩⟩
theorem walks_tup {m : List Addr} {H : Hp} {a : Addr} {vs : List V} {xs : List Val} (ha : TAt C.g m H a vs) (r : RepL C.g m H xs vs) : Walks C m H (Itt C.g.K a) xs := by
  intro m' H' ev i
  have h1 := (ev.tat ha).sq
  have h2 := r.mono ev
  refine ⟨fun hi => ⟨vs, h1, by rw [h2.length]; exact Nat.le_of_eq hi⟩, fun v hv => ?_⟩
  obtain ⟨x, hx, rx⟩ := h2.get hv
  refine ⟨⟨vs, x, h1, hx⟩, fun y H2 ⟨e, f⟩ => ?_⟩
  subst e
  have e2 : x = y := Option.some.inj (hx.symm.trans (f vs h1))
  subst e2
  exact ⟨Evo.refl _ _, fun h q => ⟨q, rx⟩⟩
theorem walks_range {m : List Addr} {H : Hp} {n : Nat} {lo : Int} : Walks C m H (Itr lo n) (rangeL lo n) := by
  intro m' H' ev i
  refine ⟨fun hi => by rw [rangeL_len] at hi; exact Nat.le_of_eq hi, fun v hv => ?_⟩
  have hl : i < n := by
    have z := (List.getElem?_eq_some_iff.mp hv).1
    rw [rangeL_len] at z
    exact z
  rw [rangeL_get n lo i hl] at hv
  cases hv
  refine ⟨hl, fun y H2 ⟨e, f⟩ => ?_⟩
  subst e f
  exact ⟨Evo.refl _ _, fun h q => ⟨q, rfl⟩⟩
theorem walks_str {m : List Addr} {H : Hp} {x : Str} : Walks C m H (Its x) (x.cps.toList.map fun d => Val.str ⟨#[d]⟩) := by
  intro m' H' ev i
  refine ⟨fun hi => (show x.cps.size ≤ i from Nat.le_of_eq (by simpa using hi)), fun v hv => ?_⟩
  rw [List.getElem?_map] at hv
  cases e : x.cps.toList[i]? with
  | none => rw [e] at hv; cases hv
  | some d =>
    rw [e] at hv
    cases hv
    have e2 : x.cps[i]? = some d := by simpa using e
    refine ⟨?_, fun y H2 hy => ?_⟩
    · show i < x.cps.size
      exact (Array.getElem?_eq_some_iff.mp e2).1
    · obtain ⟨e3, d2, e4, e5⟩ := hy
      subst e3 e5
      rw [e2] at e4
      cases e4
      exact ⟨Evo.refl _ _, fun h q => ⟨q, rfl⟩⟩
theorem pi_or {tg it : Expr} {t t' : TI} (h : PI X tg it t) (h' : PI X tg it t') : PI X tg it (fun s H R => t s H R ∨ t' s H R) := ⟨fun pins s σ H R I q => by
  rcases q with q | q
  · exact h.run pins s σ H R I q
  · exact h'.run pins s σ H R I q⟩
theorem s_var (ok : Cok g C Wx k c X) {i : Nat} {x : Str} {pos : Pos} (h : (decide (g.N[i]? = some x) && visB g.ns x && nameOk x) = true) : PE X (.Name x pos) (tE C Wx c (.var i)) := by
  simp only [Bool.and_eq_true, decide_eq_true_eq] at h
  obtain ⟨⟨h1, h2⟩, h3⟩ := h
  obtain ⟨d1, d2, _⟩ := nameOk_d h3
  refine PE.imp (pe_var (i := i) (by rw [ok.N]; exact h1) (ok.vis h2) d1 d2) fun s H Q => ?_
  rintro ⟨m, l, h, hp, lo, r⟩
  unfold evalE at r
  split at r
  · rename_i v e
    obtain ⟨x, h1, h2⟩ := lo.get i v e
    exact ⟨x, h1, r.now hp x h2⟩
  · exact r.elim
theorem s_con (ok : Cok g C Wx k c X) {v : Val} {x : Expr} (h : chkC v x = true) : PE X x (tE C Wx c (.con v)) := by
  have fin : ∀ {y : V} (s : St) (H : Hp) (Q : VK), (∀ m, RepV C.g m H v y) → tE C Wx c (.con v) s H Q → tC y s H Q := by
    rintro y s H Q hr ⟨m, l, h, hp, lo, r⟩
    exact r.now hp y (hr m)
  unfold chkC at h
  split at h
  · have e := of_decide_eq_true h
    subst e
    exact PE.imp pe_int fun s H Q => fin s H Q fun m => rfl
  · have e := of_decide_eq_true h
    subst e
    exact PE.imp pe_str fun s H Q => fin s H Q fun m => rfl
  · have e := of_decide_eq_true h
    subst e
    exact PE.imp pe_bl fun s H Q => fin s H Q fun m => rfl
  · exact PE.imp pe_non fun s H Q => fin s H Q fun m => rfl
  · cases h
theorem s_bt (ok : Cok g C Wx k c X) {t : String} {n : Str} {p : Pos} (h : (gloB g.ns n && nameOk n && g.bn.contains n && decide (bootBuiltins n = some (.type t))) = true) : PE X (.Name n p) (tE C Wx c (.bt t)) := by
  simp only [Bool.and_eq_true, decide_eq_true_eq] at h
  obtain ⟨⟨⟨h1, h2⟩, h3⟩, h4⟩ := h
  obtain ⟨d1, d2, d3⟩ := nameOk_d h2
  refine PE.imp (pe_bltn (v := .ty t) (ok.glo h1) (ok.bn n h3) h4 rfl d3 d1) fun s H Q => ?_
  rintro ⟨m, l, h, hp, lo, r⟩
  exact r.now hp (.ty t) rfl
theorem s_nl : PA X [] (tEs C Wx c .nl) := PA.imp pa_nil fun s H Q => by
  rintro ⟨m, l, h, hp, lo, r⟩
  exact r.now hp [] rfl
theorem s_cs {a r : E} {y : Expr} {ys : List Expr} (h : notStar y = true) (ha : PE X y (tE C Wx c a)) (hr : PA X ys (tEs C Wx c r)) : PA X (y :: ys) (tEs C Wx c (.cs a r)) :=
  PA.imp (pa_cons ha hr (star_of h)) fun s H Q => by
    rintro ⟨m, l, h, hp, lo, r⟩
    unfold evalEs at r
    refine ⟨m, l, h, hp, lo, r.bind.imp fun v h1 m1 H1 ev hp1 q x rx => ?_⟩
    refine ⟨m1, l, h1, hp1, lo.mono ev, q.bind.imp fun vs h2 m2 H2 ev2 hp2 q2 xs rxs => ?_⟩
    exact q2.now hp2 (x :: xs) ⟨x, xs, rfl, rx.mono ev2, rxs⟩
theorem s_tup {es : E} {ys : List Expr} {n : Nat} {p : Pos} (ha : PA X ys (tEs C Wx c es)) : PE X (.Tuple ys n p) (tE C Wx c (.tup es)) :=
  PE.imp (pe_tup ha) fun s H Q => by
    rintro ⟨m, l, h, hp, lo, r⟩
    unfold evalE at r
    refine ⟨m, l, h, hp, lo, r.bind.imp fun vs h1 m1 H1 ev hp1 q xs rx => ?_⟩
    by_cases hl : vs.length ≤ 1000
    · rw [if_pos hl] at q
      refine ⟨Nat.le_trans (by rw [rx.length]; exact hl) (by decide), fun a ha => ?_⟩
      obtain ⟨hp2, ev2⟩ := hp1.lay (u := .tup xs) ha
      exact q _ _ ev2 hp2 _ ⟨a, xs, rfl, .inl ⟨hp1.notIn ha, upd_same⟩, rx.mono ev2⟩
    · rw [if_neg hl] at q
      exact q.elim
theorem s_lst {b : Bool} {es : E} {ys : List Expr} {p : Pos} (ha : PA X ys (tEs C Wx c es)) : PE X (.List ys p) (tE C Wx c (.lst b es)) :=
  PE.imp (pe_lst ha) fun s H Q => by
    rintro ⟨m, l, h, hp, lo, r⟩
    unfold evalE at r
    refine ⟨m, l, h, hp, lo, r.bind.imp fun vs h1 m1 H1 ev hp1 q xs rx => ?_⟩
    by_cases hl : vs.length ≤ 1000
    · rw [if_pos hl] at q
      refine ⟨Nat.le_trans (by rw [rx.length]; exact hl) (by decide), fun a ha => ?_⟩
      cases b with
      | false =>
        obtain ⟨hp2, ev2⟩ := hp1.lay (u := .lst xs) ha
        rw [if_neg Bool.false_ne_true] at q
        exact q _ _ ev2 hp2 _ ⟨a, xs, rfl, ⟨hp1.notIn ha, upd_same⟩, rx.mono ev2⟩
      | true =>
        rw [if_pos rfl] at q
        by_cases hpu : pureL vs = true
        · rw [if_pos hpu] at q
          obtain ⟨hp2, ev2⟩ := hp1.grow ha rx hpu
          refine q _ _ ev2 hp2 _ ⟨a, rfl, ?_⟩
          rw [← hp1.len]
          simp
        · rw [if_neg hpu] at q
          exact q.elim
    · rw [if_neg hl] at q
      exact q.elim
theorem s_bin (ok : Cok g C Wx k c X) {op : Operator} {a b : E} {y z : Expr} {p : Pos} (ha : PE X y (tE C Wx c a)) (hb : PE X z (tE C Wx c b)) : PE X (.BinOp y op z p) (tE C Wx c (.bin op a b)) :=
  PE.imp (pe_op (op_bin ok.K op) ha hb) fun s H Q => by
    rintro ⟨m, l, h, hp, lo, r⟩
    unfold evalE at r
    refine ⟨m, l, h, hp, lo, r.bind.imp fun v h1 m1 H1 ev hp1 q x rx => ?_⟩
    refine ⟨m1, l, h1, hp1, lo.mono ev, q.bind.imp fun w h2 m2 H2 ev2 hp2 q2 y ry => ?_⟩
    cases e : binop h2 op v w with
    | none =>
      rw [e] at q2
      exact q2.elim
    | some u =>
      rw [e] at q2
      exact ⟨m2, h2, v, w, u, hp2, rx.mono ev2, ry, e, fun z H3 ev3 hp3 rz => (show RP C Wx m2 H2 s (.ok u h2) _ from q2) _ _ ev3 hp3 z rz⟩
theorem s_neg {a : E} {y : Expr} {p : Pos} (ha : PE X y (tE C Wx c a)) : PE X (.UnaryOp .USub y p) (tE C Wx c (.neg a)) :=
  PE.imp (pe_un un_neg ha) fun s H Q => by
    rintro ⟨m, l, h, hp, lo, r⟩
    unfold evalE at r
    refine ⟨m, l, h, hp, lo, r.bind.imp fun v h1 m1 H1 ev hp1 q x rx => ?_⟩
    cases v with
    | int i =>
      cases (show x = V.int i from rx)
      exact ⟨i, rfl, fin1 q hp1 rfl⟩
    | _ => exact (show False from q).elim
theorem mark_no {op : CmpOp} {z : Expr} (h : noMark op z = true) : behindInMarks op z = false := by cases z <;> first | rfl | cases h
theorem s_cmp (ok : Cok g C Wx k c X) {op : CmpOp} {a b : E} {y z : Expr} {p : Pos} (n1 : noMark op z = true) (ha : PE X y (tE C Wx c a)) (hb : PE X z (tE C Wx c b)) : PE X (.Compare y [op] [z] p) (tE C Wx c (.cmp op a b)) :=
  PE.imp (pe_cmpR (op_cmp ok.K ok.un op) ha hb (mark_no n1)) fun s H Q => by
    rintro ⟨m, l, h, hp, lo, r⟩
    unfold evalE at r
    refine ⟨m, l, h, hp, lo, r.bind.imp fun v h1 m1 H1 ev hp1 q x rx => ?_⟩
    refine ⟨m1, l, h1, hp1, lo.mono ev, q.bind.imp fun w h2 m2 H2 ev2 hp2 q2 y ry => ?_⟩
    cases e : cmpop h2 op v w with
    | none =>
      rw [e] at q2
      exact q2.elim
    | some u =>
      rw [e] at q2
      exact ⟨m2, h2, v, w, u, hp2, rx.mono ev2, ry, e, fin1 q2 hp2 rfl⟩
theorem s_cmpT (ok : Cok g C Wx k c X) {op : CmpOp} {a b : E} {y z : Expr} {p : Pos} (n1 : noMark op z = true) (ha : PE X y (tE C Wx c a)) (hb : PE X z (tE C Wx c b)) : PT X (.Compare y [op] [z] p) (tT C Wx c (.cmp op a b)) :=
  PT.imp (pt_cmpR (op_cmp ok.K ok.un op) ha hb (mark_no n1)) fun s H Q => by
    rintro ⟨m, l, h, hp, lo, r⟩
    unfold evalT at r
    refine ⟨m, l, h, hp, lo, r.bind.imp fun v h1 m1 H1 ev hp1 q x rx => ?_⟩
    refine ⟨m1, l, h1, hp1, lo.mono ev, q.bind.imp fun w h2 m2 H2 ev2 hp2 q2 y ry => ?_⟩
    cases e : cmpop h2 op v w with
    | none =>
      rw [e] at q2
      exact q2.elim
    | some u =>
      rw [e] at q2
      exact ⟨m2, h2, v, w, u, hp2, rx.mono ev2, ry, e, u, rfl, (show RP C Wx m2 H2 s (.ok u h2) _ from q2).now hp2⟩
theorem last_no {o1 o2 : CmpOp} {z w : Expr} (h : noMark o2 w = true) : lastMarks [o1, o2] [z, w] = false := mark_no h
theorem chn_sub {o1 o2 : CmpOp} {a b d : E} (s : St) (H : Hp) (Q : VK) (z : tE C Wx c (.chn o1 o2 a b d) s H Q) : tChain (rCmp C o1) (rCmp C o2) (tE C Wx c a) (tE C Wx c b) (tE C Wx c d) s H Q := by
  obtain ⟨m, l, h, hp, lo, r⟩ := z
  unfold evalE at r
  refine ⟨m, l, h, hp, lo, r.bind.imp fun v h1 m1 H1 ev hp1 q x rx => ?_⟩
  refine ⟨m1, l, h1, hp1, lo.mono ev, q.bind.imp fun w h2 m2 H2 ev2 hp2 q2 y ry => ?_⟩
  cases e : cmpop h2 o1 v w with
  | none =>
    rw [e] at q2
    exact q2.elim
  | some u =>
    rw [e] at q2
    refine ⟨m2, h2, v, w, u, hp2, rx.mono ev2, ry, e, u, rfl, ?_⟩
    cases u with
    | false => exact fin1 (show RP C Wx m2 H2 s (.ok (.bl false) h2) _ from q2) hp2 rfl
    | true =>
      have q2 : RP C Wx m2 H2 s ((evalE c d l h2).bind fun z h3 => Res.opt (cmpop h3 o2 w z) fun w => .ok (Val.bl w) h3) _ := q2
      refine ⟨m2, l, h2, hp2, (lo.mono ev).mono ev2, q2.bind.imp fun w2 h3 m3 H3 ev3 hp3 q3 y3 ry3 => ?_⟩
      cases e3 : cmpop h3 o2 w w2 with
      | none =>
        rw [e3] at q3
        exact q3.elim
      | some u3 =>
        rw [e3] at q3
        exact ⟨m3, h3, w, w2, u3, hp3, ry.mono ev3, ry3, e3, fin1 q3 hp3 rfl⟩
theorem s_chn (ok : Cok g C Wx k c X) {o1 o2 : CmpOp} {a b d : E} {y z w : Expr} {p : Pos} (n1 : noMark o2 w = true) (ha : PE X y (tE C Wx c a)) (hb : PE X z (tE C Wx c b)) (hd : PE X w (tE C Wx c d)) : PE X (.Compare y [o1, o2] [z, w] p) (tE C Wx c (.chn o1 o2 a b d)) :=
  PE.imp (pe_chain (op_cmp ok.K ok.un o1) (op_cmp ok.K ok.un o2) ha hb hd (last_no n1)) chn_sub
theorem s_chnT (ok : Cok g C Wx k c X) {o1 o2 : CmpOp} {a b d : E} {y z w : Expr} {p : Pos} (n1 : noMark o2 w = true) (ha : PE X y (tE C Wx c a)) (hb : PE X z (tE C Wx c b)) (hd : PE X w (tE C Wx c d)) : PT X (.Compare y [o1, o2] [z, w] p) (tT C Wx c (.chn o1 o2 a b d)) :=
  PT.imp (pt_chain (op_cmp ok.K ok.un o1) (op_cmp ok.K ok.un o2) ha hb hd (last_no n1)) fun s H Q => by
    rintro ⟨m, l, h, hp, lo, r⟩
    unfold evalT at r
    refine ⟨m, l, h, hp, lo, r.bind.imp fun v h1 m1 H1 ev hp1 q x rx => ?_⟩
    refine ⟨m1, l, h1, hp1, lo.mono ev, q.bind.imp fun w h2 m2 H2 ev2 hp2 q2 y ry => ?_⟩
    cases e : cmpop h2 o1 v w with
    | none =>
      rw [e] at q2
      exact q2.elim
    | some u =>
      rw [e] at q2
      refine ⟨m2, h2, v, w, u, hp2, rx.mono ev2, ry, e, u, rfl, ?_⟩
      cases u with
      | false => exact ⟨false, rfl, (show RP C Wx m2 H2 s (.ok false h2) _ from q2).now hp2⟩
      | true =>
        have q2 : RP C Wx m2 H2 s ((evalE c d l h2).bind fun z h3 => Res.opt (cmpop h3 o2 w z) fun w => .ok w h3) _ := q2
        refine ⟨m2, l, h2, hp2, (lo.mono ev).mono ev2, q2.bind.imp fun w2 h3 m3 H3 ev3 hp3 q3 y3 ry3 => ?_⟩
        cases e3 : cmpop h3 o2 w w2 with
        | none =>
          rw [e3] at q3
          exact q3.elim
        | some u3 =>
          rw [e3] at q3
          exact ⟨m3, h3, w, w2, u3, hp3, ry.mono ev3, ry3, e3, u3, rfl, (show RP C Wx m3 H3 s (.ok u3 h3) _ from q3).now hp3⟩
theorem s_glo (ok : Cok g C Wx k c X) {y n : Str} {p : Pos} (h : (decide (y = n) && gloB g.ns n && nameOk n && g.gl.contains n) = true) : PE X (.Name n p) (tE C Wx c (.glo y)) := by
  simp only [Bool.and_eq_true, decide_eq_true_eq] at h
  obtain ⟨⟨⟨h1, h2⟩, h3⟩, h4⟩ := h
  subst h1
  obtain ⟨d1, d2, d3⟩ := nameOk_d h3
  cases e : c.t.gv y with
  | none =>
    refine ⟨fun pins s σ H Q I q => ?_⟩
    obtain ⟨m, l, h, hp, lo, r⟩ := q
    unfold evalE at r
    rw [e] at r
    exact r.elim
  | some v =>
    obtain ⟨x, u, hm, rx, hr⟩ := ok.gl y v h4 e
    refine PE.imp (pe_glob (ok.glo h2) hm rx d1) fun s H Q => ?_
    rintro ⟨m, l, h, hp, lo, r⟩
    unfold evalE at r
    rw [e] at r
    exact fin1 r hp (hr m H h hp)
theorem s_d0 {p : Pos} : PE X (.Dict [] [] p) (tE C Wx c .d0) :=
  PE.imp pe_dnewK fun s H Q => by
    rintro ⟨m, l, h, hp, lo, r⟩
    intro a ha
    obtain ⟨hp2, ev2⟩ := hp.lay (u := .dK []) ha
    exact fin2 r ev2 hp2 ⟨a, [], rfl, ⟨hp.notIn ha, upd_same⟩, rfl, rfl⟩
theorem k_con {k : L2.Key} {x : Expr} (h : chkK k x = true) : PE X x (tC (kV k)) := by
  unfold chkK at h
  split at h
  · have e := of_decide_eq_true h
    subst e
    exact pe_int
  · have e := of_decide_eq_true h
    subst e
    exact pe_str
  · cases h
theorem v_con {v : Val} {x : Expr} (h : chkC v x = true) : ∃ y, PE X x (tC y) ∧ ∀ m H, RepV C.g m H v y := by
  unfold chkC at h
  split at h
  · have e := of_decide_eq_true h
    subst e
    exact ⟨_, pe_int, fun m H => rfl⟩
  · have e := of_decide_eq_true h
    subst e
    exact ⟨_, pe_str, fun m H => rfl⟩
  · have e := of_decide_eq_true h
    subst e
    exact ⟨_, pe_bl, fun m H => rfl⟩
  · exact ⟨_, pe_non, fun m H => rfl⟩
  · cases h
theorem s_d1 {kk : L2.Key} {v : Val} {y z : Expr} {p : Pos} (h1 : chkK kk y = true) (h2 : chkC v z = true) : PE X (.Dict [some y] [z] p) (tE C Wx c (.d1 kk v)) := by
  obtain ⟨w, hw, rw'⟩ := v_con (C := C) (X := X) h2
  refine PE.imp (pe_disp (pps_cons (k_con h1) hw pps_nil) rfl rfl (by simp) (by simp)) fun s H Q => ?_
  rintro ⟨m, l, h, hp, lo, r⟩
  intro a ha
  obtain ⟨hp2, ev2⟩ := hp.lay (u := .dK [(kk, w)]) ha
  refine ⟨upd_same, [(kk, w)], rfl, by simp, ?_⟩
  have e : upd (upd H a (.dK [])) a (.dK (mergeK [] [(kk, w)])) = upd H a (.dK [(kk, w)]) := by
    funext b
    by_cases hb : b = a
    · subst hb
      rw [upd_same, upd_same]
      rfl
    · rw [upd_ne hb, upd_ne hb, upd_ne hb]
  rw [e]
  exact fin2 r ev2 hp2 ⟨a, _, rfl, ⟨hp.notIn ha, upd_same⟩, rfl, ⟨w, [], rfl, rw' _ _, rfl⟩⟩
theorem s_and {a b : E} {y z : Expr} {r : List Expr} {p : Pos} (ha : PE X y (tE C Wx c a)) (hb : PE X (.BoolOp .And (z :: r) p) (tE C Wx c b)) : PE X (.BoolOp .And (y :: z :: r) p) (tE C Wx c (.and a b)) :=
  PE.imp (pe_and ha hb) fun s H Q => by
    rintro ⟨m, l, h, hp, lo, r⟩
    unfold evalE at r
    refine ⟨m, l, h, hp, lo, r.bind.imp fun v h1 m1 H1 ev hp1 q x rx => ?_⟩
    cases v with
    | bl t =>
      cases (show x = V.bl t from rx)
      cases t with
      | true => exact ⟨true, rfl, by rw [if_pos rfl]; exact ⟨m1, l, h1, hp1, lo.mono ev, q⟩⟩
      | false => exact ⟨false, rfl, by rw [if_neg Bool.false_ne_true]; exact fin1 q hp1 rfl⟩
    | _ => exact (show False from q).elim
theorem s_or {a b : E} {y z : Expr} {r : List Expr} {p : Pos} (ha : PE X y (tE C Wx c a)) (hb : PE X (.BoolOp .Or (z :: r) p) (tE C Wx c b)) : PE X (.BoolOp .Or (y :: z :: r) p) (tE C Wx c (.or a b)) :=
  PE.imp (pe_or ha hb) fun s H Q => by
    rintro ⟨m, l, h, hp, lo, r⟩
    unfold evalE at r
    refine ⟨m, l, h, hp, lo, r.bind.imp fun v h1 m1 H1 ev hp1 q x rx => ?_⟩
    cases v with
    | bl t =>
      cases (show x = V.bl t from rx)
      cases t with
      | false => exact ⟨false, rfl, by rw [if_neg Bool.false_ne_true]; exact ⟨m1, l, h1, hp1, lo.mono ev, q⟩⟩
      | true => exact ⟨true, rfl, by rw [if_pos rfl]; exact fin1 q hp1 rfl⟩
    | _ => exact (show False from q).elim
theorem s_not {a : E} {y : Expr} {p : Pos} (ha : PE X y (tE C Wx c a)) : PE X (.UnaryOp .Not y p) (tE C Wx c (.not a)) :=
  PE.imp (pe_not ha) fun s H Q => by
    rintro ⟨m, l, h, hp, lo, r⟩
    unfold evalE at r
    refine ⟨m, l, h, hp, lo, r.bind.imp fun v h1 m1 H1 ev hp1 q x rx => ?_⟩
    cases v with
    | bl t =>
      cases (show x = V.bl t from rx)
      exact ⟨t, rfl, fin1 q hp1 rfl⟩
    | _ => exact (show False from q).elim
theorem s_ife {t a b : E} {x y z : Expr} {p : Pos} (ht : PT X x (tT C Wx c t)) (ha : PE X y (tE C Wx c a)) (hb : PE X z (tE C Wx c b)) : PE X (.IfExp x y z p) (tE C Wx c (.ife t a b)) :=
  PE.imp (pe_ifExp ht ha hb) fun s H Q => by
    rintro ⟨m, l, h, hp, lo, r⟩
    unfold evalE at r
    refine ⟨m, l, h, hp, lo, r.bind.imp fun v h1 m1 H1 ev hp1 q => ?_⟩
    cases v with
    | true => rw [if_pos rfl]; exact ⟨m1, l, h1, hp1, lo.mono ev, q⟩
    | false => rw [if_neg Bool.false_ne_true]; exact ⟨m1, l, h1, hp1, lo.mono ev, q⟩
theorem pe_callS0 {CX : CXT} {j : Nat} {f : Addr} {fd : FuncData} {ps : List Str} {sp : Sp} {E : St → XK} {x : Str} {p pos : Pos} (F : FnOk X.prog X.w X.K X.mg X.base CX j f fd ps sp) (hr : Room j X.A) (hg : Gl X x) (hm : X.mg x = some (.ref f)) (hk : PySem.W.keepIn X.K (.ref f) = true) (hb : Binds X.K fd ps []) (hx : ∀ σ, PassesAt CX X σ (E σ))
    (hdb : (x == ("__debug__" : Str)) = false) : PE X (.Call (.Name x p) [] [] pos) (tCallS sp E tNil) := by
  refine ⟨fun pins s σ H Q I h => ?_⟩
  refine PySem.wpAny_Call_Name_kw (ld_glob I hg hm ?_ hdb)
  exact PySem.W.callWith_K0 I.kIn hk (run_fnS (us := []) F hr hb (hx σ) I .nil h)
/-- the promise of a def from its run -/
theorem sp_of {call : Nat → List Val → Heap → Res Val} {f n : Nat} {m : List Addr} {h : Heap} {s : St} {H : Hp} {Q : VK} {vs : List Val} {xs : List V} (c0 : C = gc0 C.g) (ar : call f vs h = .bad ∨ vs.length = n) (hp : HpOk C m h H) (rx : RepL C.g m H vs xs)
    (q : RP C Wx m H s (call f vs h) (fun v _ m' H' => ∀ x, RepV C.g m' H' v x → Q x H')) : spI (gc0 C.g) call f n xs H Q (WE Wx s) := by
  have hp0 : ∀ {m h H}, HpOk (gc0 C.g) m h H → HpOk C m h H := fun {m h H} z => by
    rw [c0]
    exact z
  refine ⟨?_, m, h, vs, by rw [← c0]; exact hp, rx, ?_⟩
  · rcases ar with z | z
    · rw [z] at q
      exact q.elim
    · rw [rx.length]
      exact z
  · cases e : call f vs h with
    | ok a h2 =>
      rw [e] at q
      exact fun m' H' ev hp' => q m' H' ev (hp0 hp')
    | exc c2 v h2 =>
      rw [e] at q
      exact fun m' H' d ev hp' xa => q m' H' d ev (hp0 hp') xa
    | bad =>
      rw [e] at q
      exact q.elim
theorem s_cal (ok : Cok g C Wx k c X) {f : Nat} {es : E} {n : Str} {ys : List Expr} {p p2 : Pos} (h : (!g.hot && decide (g.fn[f]? = some n) && gloB g.ns n && nameOk n) = true) (he : chkEs g es ys = true) (ha : PA X ys (tEs C Wx c es)) :
    PE X (.Call (.Name n p) ys [] p2) (tE C Wx c (.cal f es)) := by
  simp only [Bool.and_eq_true, decide_eq_true_eq, Bool.not_eq_true'] at h
  obtain ⟨⟨⟨h0, h1⟩, h2⟩, h3⟩ := h
  obtain ⟨d1, d2, d3⟩ := nameOk_d h3
  obtain ⟨hm, hk⟩ := ok.fn f n h1 (nameOk_e h3)
  have c0 := ok.c0 h0
  obtain ⟨fd, ps, hb, ar, F⟩ := ok.fok f (List.getElem?_eq_some_iff.mp h1).1
  cases ys with
  | nil =>
    cases es with
    | nl =>
      refine PE.imp (pe_callG0 (Wx := Wx) F ok.gd (ok.room h0) (ok.glo h2) hm hk hb ok.tk d1) fun s H Q => ?_
      rintro ⟨m, l, h, hp, lo, r⟩
      have r : RP C Wx m H s (c.call f [] h) _ := r
      exact sp_of c0 (ar _ _) hp (show RepL C.g m H [] [] from rfl) r
    | _ => cases he
  | cons y ys =>
    obtain ⟨st, sr⟩ := chkEs_cons (env := X.env) he
    refine PE.imp (pe_callG (Wx := Wx) F ok.gd (ok.room h0) (ok.glo h2) hm hk hb ok.tk ha d1 st (sr _)) fun s H Q => ?_
    rintro ⟨m, l, h, hp, lo, r⟩
    unfold evalE at r
    exact ⟨m, l, h, hp, lo, r.bind.imp fun vs h1 m1 H1 ev hp1 q xs rx => sp_of c0 (ar _ _) hp1 rx q⟩
theorem s_bi (ok : Cok g C Wx k c X) {f : Bi} {es : E} {n : Str} {y : Expr} {ys : List Expr} {p p2 : Pos} (h : ((!g.hot || !biCalm f) && decide (biName f = n) && gloB g.ns n && g.bn.contains n) = true) (he : chkEs g es (y :: ys) = true) (ha : PA X (y :: ys) (tEs C Wx c es)) :
    PE X (.Call (.Name n p) (y :: ys) [] p2) (tE C Wx c (.bi f es)) := by
  simp only [Bool.and_eq_true, Bool.or_eq_true, Bool.not_eq_true', decide_eq_true_eq] at h
  obtain ⟨⟨⟨h0, h1⟩, h2⟩, h3⟩ := h
  subst h1
  have hc : biCalm f = true → X.calm = true := fun z => ok.calm (by
    rcases h0 with h0 | h0
    · exact h0
    · rw [h0] at z
      cases z)
  obtain ⟨st, sr⟩ := chkEs_cons (env := X.env) he
  have fin : ∀ s H Q, tE C Wx c (.bi f es) s H Q → tCB (rBi C f) (tEs C Wx c es) s H Q := by
    rintro s H Q ⟨m, l, h, hp, lo, r⟩
    unfold evalE at r
    refine ⟨m, l, h, hp, lo, r.bind.imp fun vs h1 m1 H1 ev hp1 q xs rx => ?_⟩
    cases e : biF h1 f vs with
    | none =>
      rw [e] at q
      exact q.elim
    | some u =>
      rw [e] at q
      exact ⟨m1, h1, vs, u, hp1, rx, e, fun z H3 ev3 hp3 rz => (show RP C Wx m1 H1 s (.ok u h1) _ from q) _ _ ev3 hp3 z rz⟩
  have hm := ok.bn _ h3
  have hg := ok.glo h2
  cases f with
  | abs => exact PE.imp (pe_callB (call_bi ok.K .abs hc ok.gd ok.un) hg hm PyProof.Rows.boot_abs ha (by decide) (by decide) st (sr _)) fin
  | max2 => exact PE.imp (pe_callB (call_bi ok.K .max2 hc ok.gd ok.un) hg hm PyProof.Rows.boot_max ha (by decide) (by decide) st (sr _)) fin
  | min2 => exact PE.imp (pe_callB (call_bi ok.K .min2 hc ok.gd ok.un) hg hm PyProof.Rows.boot_min ha (by decide) (by decide) st (sr _)) fin
  | len => exact PE.imp (pe_callB (call_bi ok.K .len hc ok.gd ok.un) hg hm PySem.boot_len ha (by decide) (by decide) st (sr _)) fin
  | int => exact PE.imp (pe_callTy (call_bi ok.K .int hc ok.gd ok.un) hg hm PyProof.Rows.boot_int ha (by decide) (by decide) st (sr _)) fin
  | isi => exact PE.imp (pe_callB (call_bi ok.K .isi hc ok.gd ok.un) hg hm PyProof.Rows.boot_isinstance ha (by decide) (by decide) st (sr _)) fin
  | any => exact PE.imp (pe_callB (call_bi ok.K .any hc ok.gd ok.un) hg hm (by decide +kernel) ha (by decide) (by decide) st (sr _)) fin
  | all => exact PE.imp (pe_callB (call_bi ok.K .all hc ok.gd ok.un) hg hm (by decide +kernel) ha (by decide) (by decide) st (sr _)) fin
  | tup => exact PE.imp (pe_callTy (call_bi ok.K .tup hc ok.gd ok.un) hg hm (by decide +kernel) ha (by decide) (by decide) st (sr _)) fin
  | lst => exact PE.imp (pe_callTy (call_bi ok.K .lst hc ok.gd ok.un) hg hm (by decide +kernel) ha (by decide) (by decide) st (sr _)) fin
  | repr => exact PE.imp (pe_callB (call_bi ok.K .repr hc ok.gd ok.un) hg hm (by decide +kernel) ha (by decide) (by decide) st (sr _)) fin
  | sum => exact PE.imp (pe_callB (call_bi ok.K .sum hc ok.gd ok.un) hg hm (by decide +kernel) ha (by decide) (by decide) st (sr _)) fin
  | str => exact PE.imp (pe_callTy (call_bi ok.K .str hc ok.gd ok.un) hg hm (by decide +kernel) ha (by decide) (by decide) st (sr _)) fin
theorem ref_obj {m : List Addr} {h : Heap} {H : Hp} {n : Nat} {x : V} (hp : HpOk C m h H) (r : RepV C.g m H (.ref n) x) (hv : isLstO h[n]? = true) : ∃ a vs, x = .ref a ∧ m[n]? = some a ∧ H a = some (.lst vs) := by
  obtain ⟨a, rfl, ha⟩ := r
  have hl : n < h.length := by
    rw [← hp.len]
    exact (List.getElem?_eq_some_iff.mp ha).1
  rw [List.getElem?_eq_getElem hl] at hv
  have z := hp.obj n h[n] a (List.getElem?_eq_getElem hl) ha
  generalize h[n] = o at z hv
  cases o with
  | lst xs =>
    obtain ⟨vs, e, _⟩ := z
    exact ⟨a, vs, rfl, ha, e⟩
  | ins _ _ => cases hv
theorem app_in {m : List Addr} {h h2 : Heap} {H : Hp} {n : Nat} {a : Addr} {v : Val} {y : V} (hp : HpOk C m h H) (ha : m[n]? = some a) (rv : RepV C.g m H v y) (e : appO h n v = some h2) :
    ∃ vs, H a = some (.lst vs) ∧ vs.length < 100000 ∧ HpOk C m h2 (upd H a (.lst (vs ++ [y]))) := by
  unfold appO at e
  split at e
  · rename_i xs hx
    by_cases hc : pure0 v = true ∧ xs.length < 100000
    · rw [if_pos hc] at e
      cases e
      obtain ⟨vs, e1, r1, p1⟩ := hp.obj n _ a hx ha
      refine ⟨vs, e1, by rw [r1.length]; exact hc.2, (hp.put (o := .lst (xs ++ [v])) ha (RepO.put ha (r1.append ⟨y, [], rfl, rv, rfl⟩) (refsLtL_mem.mpr fun x hx => ?_))).1⟩
      rcases List.mem_append.mp hx with z | z
      · exact refsLtL_mem.mp p1 x z
      · have z : x = v := by simpa using z
        rw [z]
        exact hc.1
    · rw [if_neg hc] at e
      cases e
  · cases e
theorem ext_in {m : List Addr} {h h2 : Heap} {H : Hp} {n : Nat} {a : Addr} {ys : List Val} {y : V} (hp : HpOk C m h H) (ha : m[n]? = some a) (rv : RepV C.g m H (.lst ys) y) (e : extO h n ys = some h2) :
    ∃ vs zs b, y = .ref b ∧ H a = some (.lst vs) ∧ H b = some (.lst zs) ∧ vs.length + zs.length ≤ 100000 ∧ HpOk C m h2 (upd H a (.lst (vs ++ zs))) := by
  obtain ⟨b, zs, rfl, ⟨_, hb⟩, hr⟩ := rv
  unfold extO at e
  split at e
  · rename_i xs hx
    by_cases hc : refsLtL 0 ys = true ∧ xs.length + ys.length ≤ 100000
    · rw [if_pos hc] at e
      cases e
      obtain ⟨vs, e1, r1, p1⟩ := hp.obj n _ a hx ha
      refine ⟨vs, zs, b, rfl, e1, hb, by rw [r1.length, hr.length]; exact hc.2, (hp.put (o := .lst (xs ++ ys)) ha (RepO.put ha (r1.append hr) (refsLtL_mem.mpr fun x hx => ?_))).1⟩
      rcases List.mem_append.mp hx with z | z
      · exact refsLtL_mem.mp p1 x z
      · exact refsLtL_mem.mp hc.1 x z
    · rw [if_neg hc] at e
      cases e
  · cases e
theorem strs_rep {m : List Addr} {H : Hp} : ∀ {vs : List Val} {xs : List V} {ys : List Str}, RepL C.g m H vs xs → strsOf vs = some ys → xs = ys.map V.str
  | [], xs, ys, r, e => by cases e; exact r
  | v :: vs, xs, ys, r, e => by
    obtain ⟨x0, r0, rfl, r1, r2⟩ := r
    cases v with
    | str z =>
      have e : ((strsOf vs).map fun ys => z :: ys) = some ys := e
      cases q : strsOf vs with
      | none => rw [q] at e; cases e
      | some zs =>
        rw [q] at e
        cases e
        cases (show x0 = V.str z from r1)
        rw [strs_rep r2 q]
        rfl
    | _ => cases e
theorem s_bm (ok : Cok g C Wx k c X) {b : Bm} {o : E} {n : Str} {y : Expr} {ap cp : Pos} (h : (decide (bmName b = n) && noSuper y && (ap.endLine == cp.line)) = true) (h0 : bm0 b = true) (ha : PE X y (tE C Wx c o)) :
    PE X (.Call (.Attribute y n ap) [] [] cp) (tE C Wx c (.bm b o .nl)) := by
  simp only [Bool.and_eq_true, decide_eq_true_eq] at h
  obtain ⟨⟨h1, h2⟩, h3⟩ := h
  subst h1
  have nil : ∀ {T id : String} {r : V → List V → Hp → VK → Prop}, PlainAttrs T → Slot T (bmName b) id → typeOf (.builtin id) = pure (.type "method_descriptor") → MtR X id r → (∀ m h H x v, bmTy h b v = true → HpOk C m h H → RepV C.g m H v x → tyV X.K T x H) →
      (∀ m h H x v p Q, HpOk C m h H → RepV C.g m H v x → bmF h b v [] = some p → (∀ z H', Evo m H m H' → HpOk C m p.2 H' → RepV C.g m H' p.1 z → Q z H') → r x [] H Q) → PE X (.Call (.Attribute y (bmName b) ap) [] [] cp) (tE C Wx c (.bm b o .nl)) := by
    intro T id r pa sl ht hm hty hr
    refine PE.imp (pe_bm0 pa sl ht hm ha (base_of h2) h3) fun s H Q => ?_
    rintro ⟨m, l, h, hp, lo, q⟩
    unfold evalE at q
    refine ⟨m, l, h, hp, lo, q.bind.imp fun v h1 m1 H1 ev hp1 q x rx => ?_⟩
    by_cases hv : bmTy h1 b v = true
    · rw [if_pos hv] at q
      refine ⟨hty m1 h1 H1 x v hv hp1 rx, ?_⟩
      have q : RP C Wx m1 H1 s (Res.opt (bmF h1 b v []) fun p => .ok p.1 p.2) _ := q
      cases e : bmF h1 b v [] with
      | none => rw [e] at q; exact q.elim
      | some p =>
        rw [e] at q
        exact hr m1 h1 H1 x v p Q hp1 rx e fun z H' ev' hp' rz => fin2 q ev' hp' rz
    · rw [if_neg hv] at q
      exact q.elim
  cases b with
  | bits =>
    refine PE.imp (pe_bits ha (base_of h2) h3) fun s H Q => ?_
    rintro ⟨m, l, h, hp, lo, r⟩
    unfold evalE at r
    refine ⟨m, l, h, hp, lo, r.bind.imp fun v h1 m1 H1 ev hp1 q x rx => ?_⟩
    cases v with
    | int i =>
      cases (show x = V.int i from rx)
      exact ⟨i, rfl, fin1 q hp1 rfl⟩
    | _ => exact (show False from q).elim
  | reverse =>
    refine nil PySem.F.plainAttrs_list PySem.F.slot_list_reverse PySem.F.type_list_reverse mt_reverse (fun m h H x v hv hp rx => ?_) (fun m h H x v p Q hp rx e q => ?_)
    · cases v with
      | ref n =>
        obtain ⟨a, vs, rfl, _, e⟩ := ref_obj hp rx hv
        exact .inl ⟨rfl, vs, SqL.of e⟩
      | _ => cases hv
    · cases v with
      | ref n =>
        obtain ⟨a, rfl, ha⟩ := rx
        have e : (match h[n]? with | some (.lst xs) => some (Val.non, h.set n (.lst xs.reverse)) | _ => none) = some p := e
        cases e9 : h[n]? with
        | none => rw [e9] at e; cases e
        | some ob =>
          cases ob with
          | lst xs =>
            rw [e9] at e
            cases e
            obtain ⟨vs, e1, r1, p1⟩ := hp.obj n _ a e9 ha
            refine ⟨a, vs, rfl, rfl, e1, ?_⟩
            exact q _ _ (Evo.put ha) (hp.put (o := .lst xs.reverse) (u := .lst vs.reverse) ha (RepO.put ha r1.reverse (refsLtL_mem.mpr fun x hx => refsLtL_mem.mp p1 x (List.mem_reverse.mp hx)))).1 rfl
          | ins _ _ => rw [e9] at e; cases e
      | _ => cases e
  | append => cases h0
  | extend => cases h0
  | join => cases h0
theorem few_of {es : E} {z : Expr} {zs : List Expr} {cp : Pos} {env : Env} (h : chkEs g es (z :: zs) = true) (hl : zs.length < 28) :
    ((backTo cp (starEach (z :: zs) env)).all (fun x => !x.1) && (backToKw cp (keywordEach [] env)).all (fun x => x.1.isSome)
      && decide ((z :: zs).length + ([] : List Keyword).length + (if ([] : List Keyword).isEmpty then 0 else 1) < 30)) = true := by
  have h1 := chkEs_star (env := env) h cp
  have h2 : (backTo cp (starEach (z :: zs) env)).all (fun x => !x.1) = true := by
    rw [List.all_eq_true]
    intro x hx
    rw [List.any_eq_false] at h1
    simpa using h1 x hx
  rw [h2]
  have h3 : (backToKw cp (keywordEach [] env)).all (fun x => x.1.isSome) = true := rfl
  rw [h3]
  simp
  omega
theorem s_bm1 (ok : Cok g C Wx k c X) {b : Bm} {o es : E} {n : Str} {y z : Expr} {zs : List Expr} {ap cp : Pos} (h : (decide (bmName b = n) && noSuper y && (ap.endLine == cp.line)) = true) (h0 : bm0 b = false) (hl : zs.length < 28) (ha : PE X y (tE C Wx c o)) (he : chkEs g es (z :: zs) = true)
    (hb : PA X (z :: zs) (tEs C Wx c es)) : PE X (.Call (.Attribute y n ap) (z :: zs) [] cp) (tE C Wx c (.bm b o es)) := by
  simp only [Bool.and_eq_true, decide_eq_true_eq] at h
  obtain ⟨⟨h1, h2⟩, h3⟩ := h
  subst h1
  obtain ⟨st, sr⟩ := chkEs_cons (env := X.env) he
  have any : ∀ {T id : String} {r : V → List V → Hp → VK → Prop}, PlainAttrs T → Slot T (bmName b) id → typeOf (.builtin id) = pure (.type "method_descriptor") → MtR X id r → (∀ m h H x v, bmTy h b v = true → HpOk C m h H → RepV C.g m H v x → tyV X.K T x H) →
      (∀ m h H x v vs xs p Q, HpOk C m h H → RepV C.g m H v x → RepL C.g m H vs xs → bmF h b v vs = some p → (∀ z H', Evo m H m H' → HpOk C m p.2 H' → RepV C.g m H' p.1 z → Q z H') → r x xs H Q) → PE X (.Call (.Attribute y (bmName b) ap) (z :: zs) [] cp) (tE C Wx c (.bm b o es)) := by
    intro T id r pa sl ht hm hty hr
    refine PE.imp (pe_bm pa sl ht hm ha hb (base_of h2) (few_of he hl) h3 st (sr _)) fun s H Q => ?_
    rintro ⟨m, l, h, hp, lo, q⟩
    unfold evalE at q
    refine ⟨m, l, h, hp, lo, q.bind.imp fun v h1 m1 H1 ev hp1 q x rx => ?_⟩
    by_cases hv : bmTy h1 b v = true
    · rw [if_pos hv] at q
      refine ⟨hty m1 h1 H1 x v hv hp1 rx, m1, l, h1, hp1, lo.mono ev, q.bind.imp fun vs h2 m2 H2 ev2 hp2 q xs rxs => ?_⟩
      cases e : bmF h2 b v vs with
      | none => rw [e] at q; exact q.elim
      | some p =>
        rw [e] at q
        exact hr m2 h2 H2 x v vs xs p Q hp2 (rx.mono ev2) rxs e fun z H' ev' hp' rz => fin2 q ev' hp' rz
    · rw [if_neg hv] at q
      exact q.elim
  cases b with
  | bits => cases h0
  | reverse => cases h0
  | append =>
    refine any PySem.F.plainAttrs_list PySem.F.slot_list_append PySem.F.type_list_append mt_append (fun m h H x v hv hp rx => ?_) (fun m h H x v vs xs p Q hp rx rxs e q => ?_)
    · cases v with
      | ref n =>
        obtain ⟨a, vs, rfl, _, e⟩ := ref_obj hp rx hv
        exact .inl ⟨rfl, vs, SqL.of e⟩
      | _ => cases hv
    · unfold bmF at e
      split at e
      · rename_i e8; cases e8
      · rename_i e8; cases e8
      · rename_i n w _
        cases e9 : appO h n w with
        | none => rw [e9] at e; cases e
        | some h5 =>
          rw [e9] at e
          cases e
          obtain ⟨a, rfl, ha⟩ := rx
          obtain ⟨x1, r1, rfl, rw1, rfl⟩ := rxs
          obtain ⟨us, u1, u2, u3⟩ := app_in hp ha rw1 e9
          exact ⟨a, us, x1, rfl, rfl, u1, Nat.lt_of_lt_of_le u2 (by decide), q _ _ (Evo.put ha) u3 rfl⟩
      · rename_i e8; cases e8
      · rename_i e8; cases e8
      · cases e
  | extend =>
    refine any PySem.F.plainAttrs_list PySem.F.slot_list_extend PySem.F.type_list_extend mt_extend (fun m h H x v hv hp rx => ?_) (fun m h H x v vs xs p Q hp rx rxs e q => ?_)
    · cases v with
      | ref n =>
        obtain ⟨a, vs, rfl, _, e⟩ := ref_obj hp rx hv
        exact .inl ⟨rfl, vs, SqL.of e⟩
      | _ => cases hv
    · unfold bmF at e
      split at e
      · rename_i e8; cases e8
      · rename_i e8; cases e8
      · rename_i e8; cases e8
      · rename_i n ys _
        cases e9 : extO h n ys with
        | none => rw [e9] at e; cases e
        | some h5 =>
          rw [e9] at e
          cases e
          obtain ⟨a, rfl, ha⟩ := rx
          obtain ⟨x1, r1, rfl, rw1, rfl⟩ := rxs
          obtain ⟨us, zs, b, rfl, u1, ub, u2, u3⟩ := ext_in hp ha rw1 e9
          exact ⟨a, b, us, zs, rfl, rfl, u1, ub, line_of u2, q _ _ (Evo.put ha) u3 rfl⟩
      · rename_i e8; cases e8
      · cases e
  | join =>
    refine any PySem.F.plainAttrs_str PySem.F.slot_str_join PySem.F.type_str_join mt_join (fun m h H x v hv hp rx => ?_) (fun m h H x v vs xs p Q hp rx rxs e q => ?_)
    · cases v with
      | str n =>
        cases (show x = V.str n from rx)
        rfl
      | _ => cases hv
    · unfold bmF at e
      split at e
      · rename_i e8; cases e8
      · rename_i e8; cases e8
      · rename_i e8; cases e8
      · rename_i e8; cases e8
      · rename_i a w _
        cases (show x = V.str a from rx)
        split at e
        · rename_i ys hy
          by_cases hc : (ys.map (·.length)).sum + ys.length * a.length ≤ 16777216
          · rw [if_pos hc] at e
            cases e
            obtain ⟨x1, r1, rfl, rw1, rfl⟩ := rxs
            cases q1 : asSeq h w with
            | none => rw [q1] at hy; cases hy
            | some ws =>
              rw [q1] at hy
              obtain ⟨ad, us, rfl, hs, hr⟩ := seq_at hp rw1 q1
              rw [strs_rep hr hy] at hs
              refine ⟨a, ad, ys, rfl, rfl, by rw [ok.K]; exact hs, hc, q _ _ (Evo.refl _ _) hp rfl⟩
          · rw [if_neg hc] at e
            cases e
        · cases e
      · cases e
theorem ix_at {xs : List Val} {vs : List V} {m : List Addr} {H : Hp} {i : Int} {v : Val} (r : RepL C.g m H xs vs) (e : atI xs i = some v) : ∃ x, atI vs i = some x ∧ RepV C.g m H v x := by
  unfold atI at e ⊢
  rw [r.length]
  cases q : ixN xs.length i with
  | none =>
    rw [q] at e
    cases e
  | some j =>
    rw [q] at e
    obtain ⟨x, h1, h2⟩ := r.get (i := j) (v := v) e
    exact ⟨x, h1, h2⟩
theorem s_ix (ok : Cok g C Wx k c X) {a b : E} {y z : Expr} {p : Pos} (hz : plainIx z = true) (ha : PE X y (tE C Wx c a)) (hb : PE X z (tE C Wx c b)) : PE X (.Subscript y z p) (tE C Wx c (.ix a b)) :=
  PE.imp (pe_ix ix_seq ha hb (fun o i => by cases z <;> first | rfl | cases hz)) fun s H Q => by
    rintro ⟨m, l, h, hp, lo, r⟩
    unfold evalE at r
    refine ⟨m, l, h, hp, lo, r.bind.imp fun v h1 m1 H1 ev hp1 q x rx => ?_⟩
    refine ⟨m1, l, h1, hp1, lo.mono ev, q.bind.imp fun w h2 m2 H2 ev2 hp2 q2 y ry => ?_⟩
    cases w with
    | int i =>
      cases (show y = V.int i from ry)
      have seqs : RP C Wx m2 H2 s (Res.opt ((asSeq h2 v).bind fun xs => atI xs i) fun v => .ok v h2) (fun v _ m' H' => ∀ x, RepV C.g m' H' v x → Q x H') → rIx X.K x (.int i) H2 Q := fun q2 => by
        cases e : asSeq h2 v with
        | none =>
          rw [e] at q2
          exact q2.elim
        | some xs =>
          rw [e] at q2
          have q2 : RP C Wx m2 H2 s (Res.opt (atI xs i) fun v => .ok v h2) _ := q2
          cases e2 : atI xs i with
          | none =>
            rw [e2] at q2
            exact q2.elim
          | some u =>
            rw [e2] at q2
            obtain ⟨ad, vs, rfl, hs, hr⟩ := seq_at hp2 (rx.mono ev2) e
            rw [← ok.K] at hs
            obtain ⟨t, t1, t2⟩ := ix_at hr e2
            have q3 := fin1 q2 hp2 t2
            rcases hs with hs | hs
            · exact .inl ⟨ad, vs, i, t, rfl, rfl, hs, t1, q3⟩
            · exact .inr (.inl ⟨ad, vs, i, t, rfl, rfl, hs, t1, q3⟩)
      cases v with
      | str z =>
        cases (show x = V.str z from rx)
        have q2 : RP C Wx m2 H2 s (if z.length ≤ 16777216 then Res.opt (atI z.cps.toList i) fun d => .ok (Val.str ⟨#[d]⟩) h2 else .bad) _ := q2
        by_cases hz : z.length ≤ 16777216
        · rw [if_pos hz] at q2
          cases e2 : atI z.cps.toList i with
          | none =>
            rw [e2] at q2
            exact q2.elim
          | some d =>
            rw [e2] at q2
            exact .inr (.inr ⟨z, i, d, rfl, rfl, hz, e2, fin1 q2 hp2 rfl⟩)
        · rw [if_neg hz] at q2
          exact q2.elim
      | non => exact seqs q2
      | bl _ => exact seqs q2
      | int _ => exact seqs q2
      | tup _ => exact seqs q2
      | lst _ => exact seqs q2
      | rol _ => exact seqs q2
      | dct _ _ => exact seqs q2
      | ref _ => exact seqs q2
      | ty _ => exact seqs q2
      | cls _ => exact seqs q2
      | ins _ _ => exact seqs q2
    | _ => exact (show False from q2).elim

/-! ### tests -/
theorem tru_at {m : List Addr} {h : Heap} {H : Hp} {v : Val} {x : V} {b : Bool} (hK : X.K = C.g.K) (hp : HpOk C m h H) (r : RepV C.g m H v x) (e : truO h v = some b) : TruV X.K x H b := by
  have em : ∀ {xs : List Val} {vs : List V}, RepL C.g m H xs vs → (!vs.isEmpty) = !xs.isEmpty := fun {xs vs} r => by
    cases xs with
    | nil => cases (show vs = [] from r); rfl
    | cons _ _ => obtain ⟨_, _, rfl, _⟩ := r; rfl
  rw [hK]
  cases v with
  | non => cases e; cases (show x = V.non from r); rfl
  | bl t => cases (show x = V.bl t from r); cases e; rfl
  | int i =>
    cases (show x = V.int i from r)
    cases e
    show decide (i ≠ 0) = (i != 0)
    by_cases hi : i = 0 <;> simp [hi]
  | str z =>
    cases (show x = V.str z from r)
    have e : (if z.length ≤ 16777216 then some (decide (z.length ≠ 0)) else none) = some b := e
    by_cases hz : z.length ≤ 16777216
    · rw [if_pos hz] at e
      cases e
      refine ⟨hz, ?_⟩
      by_cases hi : z.length = 0 <;> simp [hi]
    · rw [if_neg hz] at e
      cases e
  | tup xs =>
    cases e
    obtain ⟨a, vs, rfl, ha, hr⟩ := r
    exact .inr (.inl ⟨vs, ha.sq, (em hr).symm⟩)
  | lst xs =>
    cases e
    obtain ⟨a, vs, rfl, ⟨_, ha⟩, hr⟩ := r
    exact .inl ⟨vs, SqL.of ha, (em hr).symm⟩
  | rol xs =>
    cases e
    obtain ⟨a, vs, rfl, ha, hr⟩ := r
    exact .inl ⟨vs, ha.sq, (em hr).symm⟩
  | dct _ _ => cases e
  | ty _ => cases e
  | cls _ => cases e
  | ins _ _ => cases e
  | ref n =>
    obtain ⟨a, rfl, ha⟩ := r
    have e : (match h[n]? with | some (.lst xs) => some (!xs.isEmpty) | _ => none) = some b := e
    cases q : h[n]? with
    | none => rw [q] at e; cases e
    | some o =>
      rw [q] at e
      cases o with
      | lst xs =>
        cases e
        obtain ⟨vs, e1, r1, _⟩ := hp.obj n _ a q ha
        exact .inl ⟨vs, SqL.of e1, (em r1).symm⟩
      | ins _ _ => cases e
theorem s_tst (ok : Cok g C Wx k c X) {e : E} {y : Expr} (h : valTest y = true) (ha : PE X y (tE C Wx c e)) : PT X y (tT C Wx c (.tst e)) := by
  refine PT.imp (pt_truth ha (fun w => by cases y <;> first | rfl | cases h)) fun s H Q => ?_
  rintro ⟨m, l, h, hp, lo, r⟩
  unfold evalT at r
  refine ⟨m, l, h, hp, lo, r.bind.imp fun v h1 m1 H1 ev hp1 q x rx => ?_⟩
  cases e : truO h1 v with
  | none => rw [e] at q; exact q.elim
  | some b =>
    rw [e] at q
    exact ⟨b, tru_at ok.K hp1 rx e, (show RP C Wx m1 H1 s (.ok b h1) _ from q).now hp1⟩
theorem s_notT {e : E} {y : Expr} {p : Pos} (ha : PT X y (tT C Wx c e)) : PT X (.UnaryOp .Not y p) (tT C Wx c (.not e)) :=
  PT.imp (pt_not ha) fun s H Q => by
    rintro ⟨m, l, h, hp, lo, r⟩
    unfold evalT at r
    refine ⟨m, l, h, hp, lo, r.bind.imp fun v h1 m1 H1 ev hp1 q => ?_⟩
    exact (show RP C Wx m1 H1 s (.ok (!v) h1) _ from q).now hp1
theorem and_sub {a b : E} (s : St) (H : Hp) (Q : Bool → Hp → Prop) (z : tT C Wx c (.and a b) s H Q) : tAnd (tT C Wx c a) (tT C Wx c b) s H Q := by
  obtain ⟨m, l, h, hp, lo, r⟩ := z
  unfold evalT at r
  refine ⟨m, l, h, hp, lo, r.bind.imp fun v h1 m1 H1 ev hp1 q => ?_⟩
  cases v with
  | true => rw [if_pos rfl]; exact ⟨m1, l, h1, hp1, lo.mono ev, q⟩
  | false => rw [if_neg Bool.false_ne_true]; exact (show RP C Wx m1 H1 s (.ok false h1) _ from q).now hp1
theorem or_sub {a b : E} (s : St) (H : Hp) (Q : Bool → Hp → Prop) (z : tT C Wx c (.or a b) s H Q) : tOr (tT C Wx c a) (tT C Wx c b) s H Q := by
  obtain ⟨m, l, h, hp, lo, r⟩ := z
  unfold evalT at r
  refine ⟨m, l, h, hp, lo, r.bind.imp fun v h1 m1 H1 ev hp1 q => ?_⟩
  cases v with
  | false => rw [if_neg Bool.false_ne_true]; exact ⟨m1, l, h1, hp1, lo.mono ev, q⟩
  | true => rw [if_pos rfl]; exact (show RP C Wx m1 H1 s (.ok true h1) _ from q).now hp1

end
end MP
/-! MP, texts: methods of one text, int of a text, texts put together of parts. -/
namespace MP
open PySem L2
section
variable {g : Stc} {C : Gc} {Wx : WX} {k : Nat} {c : Cf} {X : Cx}
/-- a text's place of a part that stands in it -/
theorem mt_index1 : MtR X "str.index" (fun x xs H Q => ∃ (a b : Str) (k : Nat), x = .str a ∧ xs = [.str b] ∧ Txt.index0 a b = some k ∧ Q (.int (k : Nat)) H) := by
  intro pins s σ H x xs v us Q I rx rs h
  obtain ⟨a, b, k, rfl, rfl, hk, q⟩ := h
  obtain ⟨t, rfl⟩ := rx
  cases rs with
  | cons r1 rs =>
    cases rs
    obtain ⟨u, rfl⟩ := r1
    cases e : Builtin.Str.occurrences a b 0 a.length 1 with
    | nil =>
      unfold Txt.index0 at hk
      rw [e] at hk
      cases hk
    | cons j rest =>
      have : j = k := by
        unfold Txt.index0 at hk
        rw [e] at hk
        exact Option.some.inj hk
      subst this
      exact PySem.SC.index e ⟨.int (j : Nat), H, I.tok _, ⟨_, rfl⟩, q⟩
theorem str_rep {m : List Addr} {H : Hp} {v : Val} {x : V} {s : Str} (r : RepV C.g m H v x) (e : strV v = some s) : x = .str s := by
  cases v with
  | str y =>
    cases e
    exact r
  | _ => cases e
theorem strl_rep {G : Gk} {m : List Addr} {H : Hp} : ∀ ys : List Str, RepL G m H (ys.map Val.str) (ys.map V.str)
  | [] => rfl
  | y :: ys => ⟨.str y, ys.map V.str, rfl, rfl, strl_rep ys⟩
theorem s_tm (ok : Cok g C Wx k c X) {b : Tm} {o a : E} {n : Str} {y z : Expr} {ap cp : Pos} (h : (decide (tmName b = n) && noSuper y && (ap.endLine == cp.line) && notStar z) = true) (ho : PE X y (tE C Wx c o)) (ha : PE X z (tE C Wx c a)) :
    PE X (.Call (.Attribute y n ap) [z] [] cp) (tE C Wx c (.tm b o a)) := by
  simp only [Bool.and_eq_true, decide_eq_true_eq] at h
  obtain ⟨⟨⟨h1, h2⟩, h3⟩, h4⟩ := h
  subst h1
  have any : ∀ {id : String} {r : V → List V → Hp → VK → Prop}, Slot "str" (tmName b) id → typeOf (.builtin id) = pure (.type "method_descriptor") → MtR X id r →
      (∀ m h H s t v Q, HpOk C m h H → tmF b s t = some v → (∀ z H', Evo m H m H' → HpOk C m h H' → RepV C.g m H' v z → Q z H') → r (.str s) [.str t] H Q) → PE X (.Call (.Attribute y (tmName b) ap) [z] [] cp) (tE C Wx c (.tm b o a)) := by
    intro id r sl ht hm hr
    refine PE.imp (pe_m1 sl ht hm ho ha (star_of h4) (base_of h2) h3) fun s H Q => ?_
    rintro ⟨m, l, h, hp, lo, q⟩
    unfold evalE at q
    refine ⟨m, l, h, hp, lo, q.bind.imp fun v h1 m1 H1 ev hp1 q x rx => ?_⟩
    cases e1 : strV v with
    | none => rw [e1] at q; exact q.elim
    | some x1 =>
      rw [e1] at q
      have q : RP C Wx m1 H1 s ((evalE c a l h1).bind fun y h2 => Res.opt (strV y) fun t => Res.opt (tmF b x1 t) fun v => .ok v h2) _ := q
      refine ⟨⟨x1, str_rep rx e1⟩, m1, l, h1, hp1, lo.mono ev, q.bind.imp fun w h2 m2 H2 ev2 hp2 q x' rx' => ?_⟩
      cases e2 : strV w with
      | none => rw [e2] at q; exact q.elim
      | some x2 =>
        rw [e2] at q
        have q : RP C Wx m2 H2 s (Res.opt (tmF b x1 x2) fun v => .ok v h2) _ := q
        cases e3 : tmF b x1 x2 with
        | none => rw [e3] at q; exact q.elim
        | some u =>
          rw [e3] at q
          rw [str_rep rx e1, str_rep rx' e2]
          exact hr m2 h2 H2 x1 x2 u Q hp2 e3 fun z H' ev' hp' rz => fin2 q ev' hp' rz
  cases b with
  | startswith =>
    refine any PySem.F.slot_str_startswith PySem.F.type_str_startswith mt_startswith fun m h H s t v Q hp e q => ?_
    cases e
    exact ⟨s, t, rfl, rfl, q _ _ (Evo.refl m H) hp rfl⟩
  | find =>
    refine any PySem.F.slot_str_find PySem.F.type_str_find mt_find fun m h H s t v Q hp e q => ?_
    cases e
    exact ⟨s, t, rfl, rfl, q _ _ (Evo.refl m H) hp rfl⟩
  | index =>
    refine any PySem.F.slot_str_index PySem.F.type_str_index mt_index1 fun m h H s t v Q hp e q => ?_
    have e : (Txt.index0 s t).map (fun k => Val.int (k : Nat)) = some v := e
    cases e1 : Txt.index0 s t with
    | none => rw [e1] at e; cases e
    | some j =>
      rw [e1] at e
      cases e
      exact ⟨s, t, j, rfl, rfl, e1, q _ _ (Evo.refl m H) hp rfl⟩
  | split =>
    refine any PySem.F.slot_str_split PySem.F.type_str_split mt_split fun m h H s t v Q hp e q => ?_
    have e : (if t.length ≠ 0 ∧ s.length ≤ 100000 then some (Val.lst ((Txt.split s t).map .str)) else none) = some v := e
    by_cases hc : t.length ≠ 0 ∧ s.length ≤ 100000
    · rw [if_pos hc] at e
      cases e
      refine ⟨s, t, rfl, rfl, by simpa using hc.1, Nat.le_trans (show s.length + 2 ≤ 100002 by omega) (by decide), fun p hn => ?_⟩
      obtain ⟨hp2, ev2⟩ := hp.lay (u := .lst ((Txt.split s t).map V.str)) hn
      exact q _ _ ev2 hp2 ⟨p, _, rfl, ⟨hp.notIn hn, upd_same⟩, strl_rep _⟩
    · rw [if_neg hc] at e
      cases e
/-- int(text) -/
theorem s_itx (ok : Cok g C Wx k c X) {a : E} {w : Str} {y : Expr} {p pw : Pos} (h : (decide (w = ("int" : Str)) && gloB g.ns w && g.bn.contains w && notStar y) = true) (ha : PE X y (tE C Wx c a)) :
    PE X (.Call (.Name w pw) [y] [] p) (tE C Wx c (.itx a)) := by
  simp only [Bool.and_eq_true, decide_eq_true_eq] at h
  obtain ⟨⟨⟨rfl, h3⟩, h4⟩, h8⟩ := h
  have hg := ok.glo h3
  have hm := ok.bn _ h4
  refine PE.imp (pe_callTy call_int_str hg hm PyProof.Rows.boot_int (pa_cons ha pa_nil (star_of h8)) (by decide) (by decide) (star_of h8) rfl) fun s H Q => ?_
  rintro ⟨m, l, h, hp, lo, r⟩
  unfold evalE at r
  refine ⟨m, l, h, hp, lo, r.bind.imp fun v h1 m1 H1 ev hp1 q x rx => ?_⟩
  cases e1 : strV v with
  | none => rw [e1] at q; exact q.elim
  | some x1 =>
    rw [e1] at q
    have q : RP C Wx m1 H1 s (Res.opt (itxO x1) fun i => .ok (Val.int i) h1) _ := q
    cases e2 : itxO x1 with
    | none => rw [e2] at q; exact q.elim
    | some i =>
      rw [e2] at q
      rw [str_rep rx e1]
      unfold itxO at e2
      by_cases hc : x1.length ≤ 640
      · rw [if_pos hc] at e2
        exact ⟨x1, i, rfl, e2, hc, fin1 q hp1 rfl⟩
      · rw [if_neg hc] at e2
        cases e2
/-- {x} -/
theorem s_fmt {a : E} {y : Expr} {p : Pos} (ha : PE X y (tE C Wx c a)) : PE X (.FormattedValue y (-1) none p) (tE C Wx c (.fmt a)) := by
  refine PE.imp (pe_fmt ha) fun s H Q => ?_
  rintro ⟨m, l, h, hp, lo, r⟩
  unfold evalE at r
  refine ⟨m, l, h, hp, lo, r.bind.imp fun v h1 m1 H1 ev hp1 q x rx => ?_⟩
  cases v with
  | str y =>
    have q : RP C Wx m1 H1 s (Res.opt (fmtO (.str y)) fun x => .ok (Val.str x) h1) _ := q
    cases (show x = .str y from rx)
    by_cases hc : y.length ≤ 1000000
    · have e : fmtO (.str y) = some y := if_pos hc
      rw [e] at q
      exact .inl ⟨y, rfl, Nat.le_trans hc (by decide), fin1 q hp1 rfl⟩
    · have e : fmtO (.str y) = none := if_neg hc
      rw [e] at q
      exact q.elim
  | int i =>
    have q : RP C Wx m1 H1 s (Res.opt (fmtO (.int i)) fun x => .ok (Val.str x) h1) _ := q
    cases (show x = .int i from rx)
    by_cases hc : i.natAbs.log2 < 1920 ∧ (Str.ofString (toString i)).length ≤ 1000000
    · have e : fmtO (.int i) = some (Str.ofString (toString i)) := if_pos hc
      rw [e] at q
      exact .inr ⟨i, rfl, hc.1, fin1 q hp1 rfl⟩
    · have e : fmtO (.int i) = none := if_neg hc
      rw [e] at q
      exact q.elim
  | _ => exact (show False from q).elim
/-- the parts -/
def tsE (C : Gc) (Wx : WX) (c : Cf) : E → List TE
  | .cs a r => tE C Wx c a :: tsE C Wx c r
  | _ => []
theorem RP.eq {A : Type} {m : List Addr} {H : Hp} {s : St} {r : Res A} {Q : A → Heap → List Addr → Hp → Prop} (x : RP C Wx m H s r Q) : RP C Wx m H s r fun a h m' H' => r = .ok a h ∧ Q a h m' H' := by
  cases r with
  | ok a h => exact fun m' H' ev hp => ⟨rfl, x m' H' ev hp⟩
  | exc _ _ _ => exact x
  | bad => exact x
theorem fmt_ok {a : E} {l : Loc} {h h1 : Heap} {v : Val} (e : evalE c (.fmt a) l h = .ok v h1) : ∃ y, v = .str y ∧ y.length ≤ 1000000 := by
  unfold evalE at e
  cases e1 : evalE c a l h with
  | ok x h2 =>
    rw [e1] at e
    have e : Res.opt (fmtO x) (fun s => Res.ok (Val.str s) h2) = .ok v h1 := e
    cases e2 : fmtO x with
    | none => rw [e2] at e; cases e
    | some y =>
      rw [e2] at e
      have e : Res.ok (Val.str y) h2 = .ok v h1 := e
      cases e
      refine ⟨y, rfl, ?_⟩
      unfold fmtO at e2
      split at e2
      · split at e2
        · cases e2; assumption
        · cases e2
      · split at e2
        · rename_i hc
          cases e2
          exact hc.2
        · cases e2
      · cases e2
  | exc _ _ _ => rw [e1] at e; cases e
  | bad => rw [e1] at e; cases e
theorem part_ok {a r : E} {l : Loc} {h h1 : Heap} {v : Val} (ok : okJ (.cs a r) = true) (e : evalE c a l h = .ok v h1) : ∃ y, v = .str y ∧ y.length ≤ 1000000 := by
  unfold okJ at ok
  split at ok
  · rename_i z; cases z
  · rename_i z
    cases z
    exact fmt_ok e
  · rename_i z
    cases z
    rw [Bool.and_eq_true, decide_eq_true_eq] at ok
    unfold evalE at e
    cases e
    exact ⟨_, rfl, ok.1⟩
  · cases ok
theorem okJ_r {a r : E} (ok : okJ (.cs a r) = true) : okJ r = true := by
  unfold okJ at ok
  split at ok
  · rename_i z; cases z
  · rename_i z
    cases z
    exact ok
  · rename_i z
    cases z
    rw [Bool.and_eq_true] at ok
    exact ok.2
  · cases ok
theorem app_len (a b : Str) : (a ++ b).length = a.length + b.length := by
  show (a.cps ++ b.cps).size = a.cps.size + b.cps.size
  exact Array.size_append
theorem js_of {s : St} {l : Loc} : ∀ (es : E) (acc : Str) (m : List Addr) (h : Heap) (H : Hp) (Q : Str → Hp → Prop), okJ es = true → acc.length + 1000000 * cntJ es ≤ 16000000 → HpOk C m h H → LocOk C m H l s →
    RP C Wx m H s (evalEs c es l h) (fun vs h' m' H' => ∃ ys, strsOf vs = some ys ∧ Q (ys.foldl (· ++ ·) acc) H') → tJs (tsE C Wx c es) acc s H Q
  | .nl, acc, m, h, H, Q, _, _, hp, lo, r => by
    unfold evalEs at r
    obtain ⟨ys, e, q⟩ := r.now hp
    cases e
    exact q
  | .cs a r, acc, m, h, H, Q, ok, hl, hp, lo, q => by
    unfold evalEs at q
    refine ⟨m, l, h, hp, lo, q.bind.eq.imp fun v h1 m1 H1 ev hp1 q x rx => ?_⟩
    obtain ⟨e, q⟩ := q
    obtain ⟨y, rfl, hy⟩ := part_ok ok e
    cases (show x = .str y from rx)
    have hl : acc.length + 1000000 * (cntJ r + 1) ≤ 16000000 := hl
    have la := app_len acc y
    refine ⟨y, rfl, Nat.le_trans (show (acc ++ y).length ≤ 16000000 by omega) (by decide), js_of r (acc ++ y) m1 h1 H1 Q (okJ_r ok) (by omega) hp1 (lo.mono ev) (q.bind.imp fun vs h2 m2 H2 ev2 hp2 q2 => ?_)⟩
    obtain ⟨ys, e, hq⟩ := q2.now hp2
    have e : (strsOf vs).map (fun ys => y :: ys) = some ys := e
    cases e1 : strsOf vs with
    | none => rw [e1] at e; cases e
    | some zs =>
      rw [e1] at e
      cases e
      exact ⟨zs, rfl, hq⟩
  | .var _, _, _, _, _, _, ok, _, _, _, _ | .con _, _, _, _, _, _, ok, _, _, _, _ | .bt _, _, _, _, _, _, ok, _, _, _, _ | .glo _, _, _, _, _, _, ok, _, _, _, _ => by cases ok
  | .tup _, _, _, _, _, _, ok, _, _, _, _ | .lst _ _, _, _, _, _, _, ok, _, _, _, _ | .bin _ _ _, _, _, _, _, _, ok, _, _, _, _ | .neg _, _, _, _, _, _, ok, _, _, _, _ | .cmp _ _ _, _, _, _, _, _, ok, _, _, _, _ | .chn _ _ _ _ _, _, _, _, _, _, ok, _, _, _, _ => by cases ok
  | .d0, _, _, _, _, _, ok, _, _, _, _ | .d1 _ _, _, _, _, _, _, ok, _, _, _, _ | .sl _ _ _, _, _, _, _, _, ok, _, _, _, _ | .lc _ _ _ _ _ _, _, _, _, _, _, ok, _, _, _, _ | .and _ _, _, _, _, _, _, ok, _, _, _, _ | .or _ _, _, _, _, _, _, ok, _, _, _, _ => by cases ok
  | .not _, _, _, _, _, _, ok, _, _, _, _ | .tst _, _, _, _, _, _, ok, _, _, _, _ | .ife _ _ _, _, _, _, _, _, ok, _, _, _, _ | .cal _ _, _, _, _, _, _, ok, _, _, _, _ | .bi _ _, _, _, _, _, _, ok, _, _, _, _ | .bm _ _ _, _, _, _, _, _, ok, _, _, _, _ => by cases ok
  | .ix _ _, _, _, _, _, _, ok, _, _, _, _ | .iSeq _, _, _, _, _, _, ok, _, _, _, _ | .iRng _, _, _, _, _, _, ok, _, _, _, _ | .cl _, _, _, _, _, _, ok, _, _, _, _ | .new _ _ _, _, _, _, _, _, ok, _, _, _, _ | .fld _ _, _, _, _, _, _, ok, _, _, _, _ => by cases ok
  | .mth _ _ _, _, _, _, _, _, ok, _, _, _, _ | .xf _ _, _, _, _, _, _, ok, _, _, _, _ | .xi _ _, _, _, _, _, _, ok, _, _, _, _ | .xt _ _, _, _, _, _, _, ok, _, _, _, _ | .iZip _, _, _, _, _, _, ok, _, _, _, _ | .iEnu _, _, _, _, _, _, ok, _, _, _, _ => by cases ok
  | .rev _ _, _, _, _, _, _, ok, _, _, _, _ | .isC _ _, _, _, _, _, _, ok, _, _, _, _ | .xiT _ _, _, _, _, _, _, ok, _, _, _, _ | .lH _, _, _, _, _, _, ok, _, _, _, _ | .tm _ _ _, _, _, _, _, _, ok, _, _, _, _ | .itx _, _, _, _, _, _, ok, _, _, _, _ | .fmt _, _, _, _, _, _, ok, _, _, _, _ | .fst _, _, _, _, _, _, ok, _, _, _, _ => by cases ok
theorem s_fst {es : E} {y z : Expr} {zs : List Expr} {p : Pos} (h : (okJ es && decide (cntJ es ≤ 15)) = true) (hj : PJ X (y :: z :: zs) (tsE C Wx c es)) : PE X (.JoinedStr (y :: z :: zs) p) (tE C Wx c (.fst es)) := by
  rw [Bool.and_eq_true, decide_eq_true_eq] at h
  refine PE.imp (pe_joined hj) fun s H Q => ?_
  rintro ⟨m, l, h', hp, lo, r⟩
  unfold evalE at r
  refine js_of es Str.empty m h' H _ h.1 (by have : Str.empty.length = 0 := rfl; omega) hp lo (r.bind.imp fun vs h1 m1 H1 ev hp1 q => ?_)
  have q : RP C Wx m1 H1 s (Res.opt (fstO vs) fun s => .ok (Val.str s) h1) _ := q
  unfold fstO at q
  cases e : strsOf vs with
  | none => rw [e] at q; exact q.elim
  | some ys =>
    rw [e] at q
    exact ⟨ys, rfl, (show RP C Wx m1 H1 s (.ok (Val.str (ys.foldl (· ++ ·) Str.empty)) h1) _ from q).now hp1 _ rfl⟩
end
end MP
/-! MP, pairs of a tuple and a list that are walked together. -/
namespace MP
open PySem PySem.Spec PyProof.Rows L2
/-- a tuple (at a) and a list (at b), side by side -/
def Itm (K : PySem.W.Frag) (a b : Addr) : It where
  go := fun i H => ∃ (us ws : List V) (u w : V), SqT K H a us ∧ SqL K H b ws ∧ us[i]? = some u ∧ ws[i]? = some w
  yld := fun i H v H' => ∃ N u w, v = .ref N ∧ H N = none ∧ H' = upd H N (.tup [u, w]) ∧ (∀ us, SqT K H a us → us[i]? = some u) ∧ ∀ ws, SqL K H b ws → ws[i]? = some w
  stop := fun i H => ∃ us ws : List V, SqT K H a us ∧ SqL K H b ws ∧ (us.length = i ∧ i ≤ ws.length ∨ ws.length = i ∧ i ≤ us.length)
/-- what stands behind a zip of both -/
structure Zst (a b Z I O j1 j2 : Addr) (i : Nat) (h : PySem.Heap) : Prop where
  zip : IsZip h Z I O .none
  its : IsTupOf2 h I (.ref j1) (.ref j2)
  out : ∃ u w, IsTupOf2 h O u w
  it1 : h.IsTupleIter j1 a i
  it2 : h.IsListIter j2 b i
theorem five {c Z I O j1 j2 : Addr} (h : c ∈ [Z, I, O, j1, j2]) : c = Z ∨ c = I ∨ c = O ∨ c = j1 ∨ c = j2 := by simpa using h
theorem Zst.lt {a b Z I O j1 j2 : Addr} {i : Nat} {h : PySem.Heap} (t : Zst a b Z I O j1 j2 i h) {c : Addr} (hc : c ∈ [Z, I, O, j1, j2]) : c < h.objs.size := by
  obtain ⟨u, w, eo⟩ := t.out
  obtain ⟨o1, e1, _⟩ := t.it1
  obtain ⟨o2, e2, _⟩ := t.it2
  rcases five hc with e | e | e | e | e <;> rw [e]
  · exact Heap.lt_size t.zip
  · exact Heap.lt_size t.its
  · exact Heap.lt_size eo
  · exact Heap.lt_size e1
  · exact Heap.lt_size e2
theorem turn_zm {P : Program} {w : World} {K : PySem.W.Frag} {elts : List Expr} {kk : Nat} {tp : Pos} {a b Z I O j1 j2 : Addr} (S : ZipSep2 Z I O j1 j2 [j1, a] [j2, b]) :
    Turn P w K (.Tuple elts kk tp) (Itm K a b) [Z, I, O, j1, j2] Z (Zst a b Z I O j1 j2) where
  mem := List.mem_cons_self
  obj := fun i h t c hc => by
    obtain ⟨u, w, eo⟩ := t.out
    obtain ⟨o1, e1, _, f1⟩ := t.it1
    obtain ⟨o2, e2, _, f2⟩ := t.it2
    rcases five hc with e | e | e | e | e <;> rw [e]
    · exact ⟨_, t.zip, fun _ y => nomatch y⟩
    · exact ⟨_, t.its, fun _ y => nomatch y⟩
    · exact ⟨_, eo, fun _ y => nomatch y⟩
    · exact ⟨o1, e1, fun _ y => by rw [f1] at y; cases y⟩
    · exact ⟨o2, e2, fun _ y => by rw [f2] at y; cases y⟩
  keep := fun i h h' t st => by
    obtain ⟨u, w, eo⟩ := t.out
    exact ⟨st Z (by simp) _ t.zip, st I (by simp) _ t.its, ⟨u, w, st O (by simp) _ eo⟩, t.it1.at fun o e => st j1 (by simp) o e, t.it2.at fun o e => st j2 (by simp) o e⟩
  item := by
    intro X hP hw hK hc i pins s σ H E J hf t hg
    subst hP hw hK
    obtain ⟨us, ws, u, w, qu, qw, gu, gw⟩ := hg
    obtain ⟨l1, r1, p1, _⟩ := J.tuple qu
    obtain ⟨l2, r2, p2, _⟩ := J.list qw
    obtain ⟨y1, k1, v1⟩ := r1.get gu
    obtain ⟨y2, k2, v2⟩ := r2.get gw
    obtain ⟨x0, y0, eo⟩ := t.out
    have hd : X.A.in1.handled = none := J.ok.hd hc
    have zl := t.lt (c := Z) (by simp)
    have aj : a ≠ j1 := fun e => by
      obtain ⟨o1, e1, c1, _⟩ := t.it1
      obtain ⟨o2, e2, c2, _⟩ := p1
      rw [e, e1] at e2
      cases e2
      rw [c1] at c2
      exact absurd c2 (by decide)
    have bj : b ≠ j2 := fun e => by
      obtain ⟨o1, e1, c1, _⟩ := t.it2
      obtain ⟨o2, e2, c2, _⟩ := p2.isList
      rw [e, e1] at e2
      cases e2
      rw [c1] at c2
      exact absurd c2 (by decide)
    have i1 : i < l1.toArray.size := by
      obtain ⟨q, _⟩ := List.getElem?_eq_some_iff.mp k1
      simpa using q
    have i2 : i < l2.toArray.size := by
      obtain ⟨q, _⟩ := List.getElem?_eq_some_iff.mp k2
      simpa using q
    refine wpAny_pyNext_zipD2_item S (Draws.tuple hd j1 a aj l1.toArray) (Draws.list hd j2 b bj l2.toArray) t.zip t.its eo ⟨t.it1, p1⟩ ⟨t.it2, p2.isList⟩ i1 i2 fun x1 x2 h' tk g1 g2 nz no n1 n2 nT nS nk => ?_
    have ex1 : y1 = x1 := by
      have g1 : l1[i]? = some x1 := by simpa using g1
      rw [k1] at g1
      exact Option.some.inj g1
    have ex2 : y2 = x2 := by
      have g2 : l2[i]? = some x2 := by simpa using g2
      rw [k2] at g2
      exact Option.some.inj g2
    subst ex1 ex2
    refine ⟨_, rfl, wpAny_letOwnedTupleGo_zip (s := { s with heap := h', toks := tk }) nz fun h2 mz sb => ?_⟩
    have tT : h2.get? s.heap.objs.size = some { cls := .type "tuple", data := .seq #[y1, y2] } := (sb.2 _ (Nat.ne_of_gt zl)).trans nT
    have neu : ObjOk X.prog X.w (upd H s.heap.objs.size (.tup [u, w])) h2 s.heap.objs.size (.tup [u, w]) := ⟨by show 2 ≤ sizeLine; decide, [y1, y2], .cons v1 (.cons v2 .nil), ⟨_, tT, rfl, _, rfl⟩⟩
    have J1 : Inv X pins σ (upd H s.heap.objs.size (.tup [u, w])) { s with heap := h2, toks := tk } :=
      J.turnedNew (t' := tk) (ch := [Z, I, O, j1, j2]) (fun c o nb e => by
        simp only [List.mem_cons, List.not_mem_nil, or_false, not_or] at nb
        exact (sb.2 c nb.1).trans (nk c o nb.1 nb.2.2.1 nb.2.2.2.1 nb.2.2.2.2 e)) hf (Nat.le_refl _) neu
    refine ⟨.ref s.heap.objs.size, _, J1, rfl, ⟨_, u, w, rfl, J.hok.fresh (Nat.le_refl _), rfl, fun l hl => by rw [J.tuple_inj hl qu]; exact gu, fun l hl => by rw [J.list_inj hl qw]; exact gw⟩, ⟨mz, ?_, ⟨y1, y2, ?_⟩, ?_, ?_⟩, fun c cm => ?_⟩
    · exact (sb.2 _ S.TIz).trans (nk _ _ S.TIz S.TITO S.TIi1 S.TIi2 t.its)
    · exact (sb.2 _ S.TOz).trans no
    · exact n1.1.at fun o e => (sb.2 _ S.zi1.symm).trans e
    · exact n2.1.at fun o e => (sb.2 _ S.zi2.symm).trans e
    · rw [upd_ne (Nat.ne_of_lt (t.lt cm))]
      exact (hf c cm).1
  done := by
    intro X hP hw hK hc i pins s σ H E J hf t hg
    subst hP hw hK
    obtain ⟨us, ws, qu, qw, hend⟩ := hg
    obtain ⟨l1, r1, p1, _⟩ := J.tuple qu
    obtain ⟨l2, r2, p2, _⟩ := J.list qw
    obtain ⟨x0, y0, eo⟩ := t.out
    have hd : X.A.in1.handled = none := J.ok.hd hc
    have m1 := r1.length
    have m2 := r2.length
    have aj : a ≠ j1 := fun e => by
      obtain ⟨o1, e1, c1, _⟩ := t.it1
      obtain ⟨o2, e2, c2, _⟩ := p1
      rw [e, e1] at e2
      cases e2
      rw [c1] at c2
      exact absurd c2 (by decide)
    have bj : b ≠ j2 := fun e => by
      obtain ⟨o1, e1, c1, _⟩ := t.it2
      obtain ⟨o2, e2, c2, _⟩ := p2.isList
      rw [e, e1] at e2
      cases e2
      rw [c1] at c2
      exact absurd c2 (by decide)
    have z1 : l1.toArray.size = l1.length := by simp
    have z2 : l2.toArray.size = l2.length := by simp
    refine wpAny_pyNext_zipD2_end S (Draws.tuple hd j1 a aj l1.toArray) (Draws.list hd j2 b bj l2.toArray) t.zip t.its eo ⟨t.it1, p1⟩ ⟨t.it2, p2.isList⟩ (by omega) (by omega) (by omega) fun h' tk nk => ⟨rfl, J.turnedL (t' := tk) (ch := [Z, I, O, j1, j2]) (fun c o nb e => by
      simp only [List.mem_cons, List.not_mem_nil, or_false, not_or] at nb
      exact nk c o nb.1 nb.2.2.1 nb.2.2.2.1 nb.2.2.2.2 e) hf⟩
  self := fun A i s Q E t h => wpAny_pyIter_zip t.zip h
/-- zip of two lists, of two tuples, of a tuple and a list -/
def iZip3 (K : PySem.W.Frag) (ta : TA) : TI := fun σ H R => ta σ H fun vs H1 => ∃ a b us ws, vs = [.ref a, .ref b] ∧
  ((SqL K H1 a us ∧ SqL K H1 b ws ∧ R (Itz K a b) H1) ∨ (SqT K H1 a us ∧ SqT K H1 b ws ∧ R (RZ.ItzT K a b) H1) ∨ (SqT K H1 a us ∧ SqL K H1 b ws ∧ R (Itm K a b) H1))
theorem pi_zip3 {X : Cx} {e e2 : Expr} {ta : TA} {p pos tp : Pos} {elts : List Expr} {kk : Nat} (hg : Gl X "zip") (hm : X.mg "zip" = none) (ha : PA X [e, e2] ta)
    (st : starEach [e, e2] X.env = (false, eval e X.env) :: starEach [e2] X.env) (sr : (backTo pos (starEach [e2] X.env)).any (·.1) = false) :
    PI X (.Tuple elts kk tp) (.Call (.Name "zip" p) [e, e2] [] pos) (iZip3 X.K ta) := by
  refine ⟨fun pins s σ H R J q => Call_ (ld_blt J hg hm PyProof.Rows.boot_zip (PyProof.Rows.callWith_type1 (thn (ha.run pos pins s σ H _ J q) fun us s1 ⟨vs, H1, J1, r1, q1⟩ => ?_) st sr))⟩
  obtain ⟨a, b, us, ws, rfl, q1⟩ := q1
  cases r1 with | cons ra rr => cases rr with | cons rb rr =>
  cases rr; cases ra; cases rb
  have new5 : ∀ c, c ∈ [s1.heap.objs.size + 4, s1.heap.objs.size + 2, s1.heap.objs.size + 3, s1.heap.objs.size, s1.heap.objs.size + 1] → FpOk X pins H1 c := fun c cm => by
    have hle : s1.heap.objs.size ≤ c := by rcases five cm with e | e | e | e | e <;> rw [e] <;> first | exact Nat.le_refl _ | exact Nat.le_add_right _ _
    exact J1.fpOk hle (J1.hok.fresh hle)
  rcases q1 with ⟨qu, qw, q⟩ | ⟨qu, qw, q⟩ | ⟨qu, qw, q⟩
  · obtain ⟨l1, v1, p1, _⟩ := J1.list qu
    obtain ⟨l2, v2, p2, _⟩ := J1.list qw
    refine call_zip_2 p1.isList p2.isList fun h' zz zi zo g1 g2 zs zk => wpAny_pyIter_zip zz ?_
    exact ⟨s1.heap.objs.size + 4, [s1.heap.objs.size + 4, s1.heap.objs.size + 2, s1.heap.objs.size + 3, s1.heap.objs.size, s1.heap.objs.size + 1], _, _, H1, rfl, J1.kept (t' := s1.toks) zk, turn_zip (PySem.W.ktu_apart s1.heap.objs.size a b p1.lt p2.lt), ⟨zz, zi, ⟨_, _, zo⟩, g1, g2⟩, new5, q⟩
  · obtain ⟨l1, v1, p1, _⟩ := J1.tuple qu
    obtain ⟨l2, v2, p2, _⟩ := J1.tuple qw
    have la : a < s1.heap.objs.size := by obtain ⟨o, e, _⟩ := id p1; exact Heap.lt_size e
    have lb : b < s1.heap.objs.size := by obtain ⟨o, e, _⟩ := id p2; exact Heap.lt_size e
    refine RZ.call_zipT (show s1.heap.IsTuple a l1.toArray from p1) (show s1.heap.IsTuple b l2.toArray from p2) fun h' zz zi zo g1 g2 zs zk => wpAny_pyIter_zip zz ?_
    exact ⟨s1.heap.objs.size + 4, [s1.heap.objs.size + 4, s1.heap.objs.size + 2, s1.heap.objs.size + 3, s1.heap.objs.size, s1.heap.objs.size + 1], _, _, H1, rfl, J1.kept (t' := s1.toks) zk, RZ.turn_zipT (PySem.W.ktu_apart s1.heap.objs.size a b la lb), ⟨zz, zi, ⟨_, _, zo⟩, g1, g2⟩, new5, q⟩
  · obtain ⟨l1, v1, p1, _⟩ := J1.tuple qu
    obtain ⟨l2, v2, p2, _⟩ := J1.list qw
    have la : a < s1.heap.objs.size := by obtain ⟨o, e, _⟩ := id p1; exact Heap.lt_size e
    have lb : b < s1.heap.objs.size := p2.lt
    refine zip_begins2 (begins_tuple a l1.toArray) (begins_list b l2.toArray) p1 p2.isList fun h' zz zi zo g1 g2 zs zk => wpAny_pyIter_zip zz ?_
    exact ⟨s1.heap.objs.size + 4, [s1.heap.objs.size + 4, s1.heap.objs.size + 2, s1.heap.objs.size + 3, s1.heap.objs.size, s1.heap.objs.size + 1], _, _, H1, rfl, J1.kept (t' := s1.toks) zk, turn_zm (zip_sep2 (fp1 := [a]) (fp2 := [b]) (by simpa using la) (by simpa using lb)), ⟨zz, zi, ⟨_, _, zo⟩, ⟨_, g1, rfl, rfl⟩, ⟨_, g2, rfl, rfl⟩⟩, new5, q⟩
end MP
/-! MP, a tuple that is counted through (enumerate). -/
namespace MP
open PySem PySem.Spec PyProof.Rows L2
/-- the cell that walks a tuple, the cell that counts -/
def tupIt (b : Addr) : PySem.Obj := { cls := .type "tuple_iterator", data := .fields #[.ref b, .int 0 0] }
def cntO (j : Addr) : PySem.Obj := { cls := .type "enumerate", data := .fields #[.none, .bool false, .ref j, rawInt 0, .none, .none] }
theorem enuT_new (b : Addr) (items : Array Value) :
    Meets (Builtin.«enumerate.__new__» ⟨[.type "enumerate", .ref b], []⟩) (fun _ R z => z.heap.IsTuple b items ∧ R (.ok (.ret (.ref (z.heap.push (tupIt b)).objs.size))) { z with heap := (z.heap.push (tupIt b)).push (cntO z.heap.objs.size) }) :=
  .of_wp fun prog w A R z hz => by
    obtain ⟨hp, gl, dd, tk, os⟩ := z
    obtain ⟨h1, h2⟩ := hz
    have ks := sub_enumerate
    have qi : ∀ {A' : Around} {E : Value → Shared → Prop} {Q : Value → Shared → Prop}, Q (.ref hp.objs.size) ⟨hp.push (tupIt b), gl, dd, tk, os⟩ → wpAny (model prog w) A' (pyIter (.ref b)) Q E ⟨hp, gl, dd, tk, os⟩ := fun q => (begins_tuple b items).iter prog w _ _ ⟨hp, gl, dd, tk, os⟩ _ h1 q
    wp_walk using qi
    refine wpAny_stack_any fun stk => wpAny_pure ?_
    split
    · rename_i cc _ _ _ _ _
      cases (cc == Value.type "enumerate") <;>
      · wp_walk using qi
        exact ⟨_, rfl, h2⟩
    · wp_walk using qi
      exact ⟨_, rfl, h2⟩
theorem enuT_call {prog : Program} {w : World} {A : Around} {E : Value → Shared → Prop} {z : Shared} {b : Addr} {items : Array Value} {Q : Value → Shared → Prop} (ht : z.heap.IsTuple b items)
    (hq : ∀ h', IsEnum h' (z.heap.objs.size + 1) z.heap.objs.size 0 .none → h'.IsTupleIter z.heap.objs.size b 0 → (∀ c o, z.heap.get? c = some o → h'.get? c = some o) → Q (.ref (z.heap.objs.size + 1)) { z with heap := h' }) :
    wpAny (model prog w) A (call (.type "enumerate") [.ref b]) Q E z := by
  refine callType_new F.called_enumerate (by decide) (F.typeCall_enumerate_1 _) (F.newCall_enumerate_1 _) (fun x => F.args_object_init_2 x _) F.entry_enumerate_new (enuT_new b items) ⟨ht, ?_⟩
  have sz : (z.heap.push (tupIt b)).objs.size = z.heap.objs.size + 1 := Heap.size_push ..
  show _ ∧ _
  rw [sz]
  have ce : IsEnum ((z.heap.push (tupIt b)).push (cntO z.heap.objs.size)) (z.heap.objs.size + 1) z.heap.objs.size 0 .none := by
    have := Heap.get?_push_size (z.heap.push (tupIt b)) (o := cntO z.heap.objs.size) rfl
    rw [sz] at this
    exact this
  exact ⟨⟨_, ce, rfl⟩, hq _ ce ⟨_, Heap.get?_push_of_some _ (Heap.get?_push_size _ rfl), rfl, rfl⟩ fun c o y => Heap.get?_push_of_some _ (Heap.get?_push_of_some _ y)⟩
/-- the tuple at b, each item in a new pair with its number -/
def Itu (K : PySem.W.Frag) (b : Addr) : It where
  go := fun i H => ∃ (us : List V) (u : V), SqT K H b us ∧ us[i]? = some u
  yld := fun i H v H' => ∃ N u, v = .ref N ∧ H N = none ∧ H' = upd H N (.tup [.int (i : Nat), u]) ∧ ∀ us, SqT K H b us → us[i]? = some u
  stop := fun i H => ∃ us : List V, SqT K H b us ∧ us.length = i
theorem turn_enuT {P : Program} {w : World} {K : PySem.W.Frag} {elts : List Expr} {kk : Nat} {tp : Pos} (b c j : Addr) :
    Turn P w K (.Tuple elts kk tp) (Itu K b) [c, j] c (fun i h => (∃ old, IsEnum h c j ((i : Nat) : Int) old) ∧ h.IsTupleIter j b i ∧ c ≠ j) where
  mem := List.mem_cons_self
  obj := fun i h st d hd => by
    obtain ⟨⟨old, ce⟩, ⟨o, eo, _, fo⟩, _⟩ := st
    have two : d = c ∨ d = j := by simpa using hd
    rcases two with e | e <;> rw [e]
    · exact ⟨_, ce, fun _ y => nomatch y⟩
    · exact ⟨o, eo, fun _ y => by rw [fo] at y; cases y⟩
  keep := fun i h h' st kp => by
    obtain ⟨⟨old, ce⟩, ji, cj⟩ := st
    exact ⟨⟨old, kp c (by simp) _ ce⟩, ji.at fun o e => kp j (by simp) o e, cj⟩
  item := by
    intro X hP hw hK hc i pins s σ H E J hf st hg
    subst hP hw hK
    obtain ⟨⟨old, ce⟩, ji, cj⟩ := st
    obtain ⟨us, u, qu, gu⟩ := hg
    obtain ⟨l1, r1, p1, _⟩ := J.tuple qu
    obtain ⟨y1, k1, v1⟩ := r1.get gu
    have hd : X.A.in1.handled = none := J.ok.hd hc
    have cl : c < s.heap.objs.size := Heap.lt_size ce
    have jl : j < s.heap.objs.size := by obtain ⟨_, e, _⟩ := id ji; exact Heap.lt_size e
    have bj : b ≠ j := fun e => by
      obtain ⟨o1, e1, c1, _⟩ := ji
      obtain ⟨o2, e2, c2, _⟩ := p1
      rw [e, e1] at e2
      cases e2
      rw [c1] at c2
      exact absurd c2 (by decide)
    have cb : c ≠ b := fun e => by
      obtain ⟨o2, e2, c2, _⟩ := p1
      rw [← e, ce] at e2
      cases e2
      have c3 : Value.type "enumerate" = .type "tuple" := c2
      exact absurd c3 (by decide)
    have i1 : i < l1.toArray.size := by
      obtain ⟨q, _⟩ := List.getElem?_eq_some_iff.mp k1
      simpa using q
    refine wpAny_pyNext_enum_itemD (Draws.tuple hd j b bj l1.toArray) ce ⟨ji, p1⟩ i1 cj (by simp; exact ⟨cj, cb⟩) fun x h' tk g1 co ji' nT nS nk => ?_
    have ex : y1 = x := by
      have g1 : l1[i]? = some x := by simpa using g1
      rw [k1] at g1
      exact Option.some.inj g1
    subst ex
    refine ⟨_, rfl, wpAny_letOwnedTupleGo_enum (s := { s with heap := h', toks := tk + 1 }) co fun h2 ce' sb => ?_⟩
    have tT : h2.get? s.heap.objs.size = some { cls := .type "tuple", data := .seq #[.int i tk, y1] } := (sb.2 _ (Nat.ne_of_gt cl)).trans nT
    have neu : ObjOk X.prog X.w (upd H s.heap.objs.size (.tup [.int (i : Nat), u])) h2 s.heap.objs.size (.tup [.int (i : Nat), u]) := ⟨by show 2 ≤ sizeLine; decide, [.int i tk, y1], .cons ⟨_, rfl⟩ (.cons v1 .nil), ⟨_, tT, rfl, _, rfl⟩⟩
    have J1 : Inv X pins σ (upd H s.heap.objs.size (.tup [.int (i : Nat), u])) { s with heap := h2, toks := tk + 1 } :=
      J.turnedNew (t' := tk + 1) (ch := [c, j]) (fun d o nb e => by
        simp only [List.mem_cons, List.not_mem_nil, or_false, not_or] at nb
        exact (sb.2 d nb.1).trans (nk d o nb.1 nb.2 e)) hf (Nat.le_refl _) neu
    refine ⟨.ref s.heap.objs.size, _, J1, rfl, ⟨_, u, rfl, J.hok.fresh (Nat.le_refl _), rfl, fun l hl => by rw [J.tuple_inj hl qu]; exact gu⟩, ⟨⟨y1, ?_⟩, ji'.1.at fun o e => (sb.2 j (Ne.symm cj)).trans e, cj⟩, fun d dm => ?_⟩
    · have up : ((i + 1 : Nat) : Int) = (i : Int) + 1 := by omega
      rw [up]
      exact ce'
    · have two : d = c ∨ d = j := by simpa using dm
      have dl : d < s.heap.objs.size := by rcases two with e | e <;> rw [e] <;> assumption
      rw [upd_ne (Nat.ne_of_lt dl)]
      exact (hf d dm).1
  done := by
    intro X hP hw hK hc i pins s σ H E J hf st hg
    subst hP hw hK
    obtain ⟨⟨old, ce⟩, ji, cj⟩ := st
    obtain ⟨us, qu, hu⟩ := hg
    obtain ⟨l1, r1, p1, _⟩ := J.tuple qu
    obtain ⟨f0, f1, f2, f3, f4, f5⟩ := hf j (by simp)
    have m1 := r1.length
    have hd : X.A.in1.handled = none := J.ok.hd hc
    have bj : b ≠ j := fun e => by
      obtain ⟨o1, e1, c1, _⟩ := ji
      obtain ⟨o2, e2, c2, _⟩ := p1
      rw [e, e1] at e2
      cases e2
      rw [c1] at c2
      exact absurd c2 (by decide)
    have z1 : l1.toArray.size = i := by simp; omega
    refine wpAny_pyNext_enum_endD (Draws.tuple hd j b bj l1.toArray) ce ⟨by rw [z1]; exact ji, p1⟩ fun h' eb => ⟨rfl, J.turned (t' := s.toks) (fun d o nb e => eb d o nb e) f0 f1 f3 f4 f5⟩
  self := fun A i s Q E st q => let ⟨⟨_, ce⟩, _⟩ := st; wpAny_pyIter_enum ce q
/-- enumerate of a list, of a tuple -/
def iEnu2 (K : PySem.W.Frag) (ta : TA) : TI := fun σ H R => ta σ H fun vs H1 => ∃ a us, vs = [.ref a] ∧ ((SqL K H1 a us ∧ R (Ite K a) H1) ∨ (SqT K H1 a us ∧ R (Itu K a) H1))
theorem pi_enu2 {X : Cx} {e : Expr} {ta : TA} {p pos tp : Pos} {elts : List Expr} {kk : Nat} (hg : Gl X "enumerate") (hm : X.mg "enumerate" = none) (ha : PA X [e] ta) (st : starEach [e] X.env = [(false, eval e X.env)]) :
    PI X (.Tuple elts kk tp) (.Call (.Name "enumerate" p) [e] [] pos) (iEnu2 X.K ta) := by
  refine ⟨fun pins s σ H R J q => Call_ (ld_blt J hg hm boot_enumerate (PyProof.Rows.callWith_type1 (thn (ha.run pos pins s σ H _ J q) fun us s1 ⟨vs, H1, J1, r1, q1⟩ => ?_) st rfl))⟩
  obtain ⟨a, us, rfl, q1⟩ := q1
  cases r1 with | cons ra rr =>
  cases rr; cases ra
  have new2 : ∀ c, c ∈ [s1.heap.objs.size + 1, s1.heap.objs.size] → FpOk X pins H1 c := fun c cm => by
    have two : c = s1.heap.objs.size + 1 ∨ c = s1.heap.objs.size := by simpa using cm
    have hle : s1.heap.objs.size ≤ c := by rcases two with e | e <;> rw [e] <;> first | exact Nat.le_refl _ | exact Nat.le_add_right _ _
    exact J1.fpOk hle (J1.hok.fresh hle)
  rcases q1 with ⟨qu, q⟩ | ⟨qu, q⟩
  · obtain ⟨l1, v1, p1, _⟩ := J1.list qu
    refine call_enumerate_list p1.isList fun h' ce ji sz kp => wpAny_pyIter_enum ce ?_
    exact ⟨s1.heap.objs.size + 1, [s1.heap.objs.size + 1, s1.heap.objs.size], _, _, H1, rfl, J1.kept (t' := s1.toks) kp, turn_enum a (s1.heap.objs.size + 1) s1.heap.objs.size, ⟨⟨.none, ce⟩, ji, Nat.succ_ne_self _⟩, new2, q⟩
  · obtain ⟨l1, v1, p1, _⟩ := J1.tuple qu
    refine enuT_call (show s1.heap.IsTuple a l1.toArray from p1) fun h' ce ji kp => wpAny_pyIter_enum ce ?_
    exact ⟨s1.heap.objs.size + 1, [s1.heap.objs.size + 1, s1.heap.objs.size], _, _, H1, rfl, J1.kept (t' := s1.toks) kp, turn_enuT a (s1.heap.objs.size + 1) s1.heap.objs.size, ⟨⟨.none, ce⟩, ji, Nat.succ_ne_self _⟩, new2, q⟩
end MP
/-! MP, a tuple from its end to its beginning: t[::-1]. -/
namespace MP
open PySem PySem.Spec PyProof.Rows L2 HT
section
variable {prog : Program} {w : World} {A : Around} {E : Value → Shared → Prop} {s : Shared}
theorem range_back (n : Nat) : (List.range n).map (fun m => n - 1 - m) = (List.range n).reverse := by
  refine List.ext_getElem (by simp) fun i h1 h2 => ?_
  simp
theorem pick_back (xs : Array Value) : ((List.range xs.size).filterMap fun (m : Nat) => xs[(((xs.size : Int) - 1) + (m : Int) * (-1)).toNat]?).toArray = xs.toList.reverse.toArray := by
  have e1 : (List.range xs.size).filterMap (fun (m : Nat) => xs[(((xs.size : Int) - 1) + (m : Int) * (-1)).toNat]?) = ((List.range xs.size).map fun m => xs.size - 1 - m).filterMap fun i => xs[i]? := by
    have key : ∀ l : List Nat, (∀ m ∈ l, m < xs.size) → l.filterMap (fun (m : Nat) => xs[(((xs.size : Int) - 1) + (m : Int) * (-1)).toNat]?) = (l.map fun m => xs.size - 1 - m).filterMap fun i => xs[i]? := fun l => by
      induction l with
      | nil => exact fun _ => rfl
      | cons m l ih =>
        intro hl
        have hm := hl m List.mem_cons_self
        have e : (((xs.size : Int) - 1) + (m : Int) * (-1)).toNat = xs.size - 1 - m := by omega
        rw [List.map_cons, List.filterMap_cons, List.filterMap_cons, ih fun k mk => hl k (List.mem_cons_of_mem _ mk), e]
    exact key _ fun m hm => List.mem_range.mp hm
  have e2 : (List.range xs.size).filterMap (fun i => xs[i]?) = xs.toList := by
    have h := pick_run xs 0 xs.size
    rw [List.drop_zero, List.take_of_length_le (by rw [Array.length_toList]; exact Nat.le_refl _)] at h
    rw [← h]
    simp
  rw [e1, range_back, List.filterMap_reverse, e2]
theorem applied_back {sl : Addr} {t : Tok} {n : Nat} {Q : Int × Int × Nat → Shared → Prop} (hs : s.heap.IsSliceOf sl .none .none (.int (-1) t)) (q : Q ((n : Int) - 1, -1, n) s) : wpAny (model prog w) A (Builtin.Slice.sliceApplied (.ref sl) (pure (n : Int))) Q E s := by
  obtain ⟨o, ho, _, ed⟩ := id hs
  unfold Builtin.Slice.sliceApplied Builtin.Slice.sliceFields
  refine wpAny_bind (wpAny_bind (wpAny_field ho ed (x := .none) rfl (wpAny_bind (wpAny_field ho ed (x := .none) rfl (wpAny_bind (wpAny_field ho ed (x := .int (-1) t) rfl (wpAny_pure ?_)))))))
  refine wpAny_bind (slicePart_int ?_)
  show wpAny _ _ (if ((-1 : Int) == 0) = true then _ else _) _ _ s
  rw [if_neg (by decide)]
  refine wpAny_bind (slicePart_none (wpAny_bind (slicePart_none (wpAny_bind (wpAny_pure ?_)))))
  have ea : Builtin.Slice.sliceAdjust none none (-1) (n : Int) = ((n : Int) - 1, -1) := by
    unfold Builtin.Slice.sliceAdjust
    simp
  have ep : Builtin.Slice.slicePlaces ((n : Int) - 1) (-1) (-1) = n := by
    unfold Builtin.Slice.slicePlaces
    rw [if_neg (by decide), show (- -1 : Int) = 1 from rfl, Int.ediv_one]
    split <;> omega
  show wpAny _ _ (match Builtin.Slice.sliceAdjust none none (-1) (n : Int) with | (lo, hi) => pure (lo, (-1 : Int), Builtin.Slice.slicePlaces lo hi (-1))) _ _ s
  rw [ea]
  show wpAny _ _ (pure ((n : Int) - 1, (-1 : Int), Builtin.Slice.slicePlaces ((n : Int) - 1) (-1) (-1))) _ _ s
  rw [ep]
  exact wpAny_pure q
theorem getItem_back {a sl : Addr} {its : Array Value} {t : Tok} {Q : Value → Shared → Prop} (ha : IsTup s.heap a its) (hs : s.heap.IsSliceOf sl .none .none (.int (-1) t))
    (q : Q (.ref s.heap.objs.size) { s with heap := s.heap.push { cls := .type "tuple", data := .seq its.toList.reverse.toArray } }) (hz : its.size ≤ sizeLine) : wpAny (model prog w) A (getItem (.ref a) (.ref sl)) Q E s := by
  have fits : sizeOk (.seq its.toList.reverse.toArray) := by
    show its.toList.reverse.toArray.size ≤ sizeLine
    simpa using hz
  obtain ⟨o, ho, hc, ed⟩ := id hs
  have ty : s.TypeIs (.ref sl) "slice" := ⟨o, ho, hc⟩
  unfold getItem
  try with_reducible refine wpAny_holding ?_
  first | refine wpAny_bind (wpAny_pure ?_) | skip
  refine wpAny_bind (wpAny_sequenceKey ha.typeIs (by decide) ?_)
  refine wpAny_bind (wpAny_callSpecial?_slot (name := Str.ofString "__getitem__") ha.typeIs PyProof.Rows.slot_tuple_getitem (wpAny_call_entry PyProof.Rows.slot_tuple_getitem ha.typeIs entry_tuple_getitem ?_ (args_tuple_getitem _ _)))
  show wpAny _ _ (Builtin.Tuple.tupleItemsOf (.ref a) >>= _) _ _ s
  refine wpAny_bind (tupleItemsOf_ ha (wpAny_bind (wpAny_typeOf ty ?_)))
  rw [if_pos (by decide)]
  refine wpAny_bind (applied_back hs ?_)
  show wpAny _ _ (if ((((its.size : Nat) : Int) - 1) == 0 && (-1 : Int) == 1 && its.size == its.size) = true then _ else _) _ _ s
  rw [if_neg (by simp), pick_back]
  first
    | exact wpAny_bind (m := Builtin.Tuple.tupleExact _) (wpAny_newObj_type (wpAny_pure ⟨_, rfl, wpAny_pure q⟩) fits)
    | exact wpAny_bind (m := Builtin.Tuple.tupleExact _) (wpAny_newObj_type (wpAny_bind (wpAny_pure (wpAny_pure ⟨_, rfl, wpAny_pure q⟩))) fits)
    | exact wpAny_bind (wpAny_bind (m := Builtin.Tuple.tupleExact _) (wpAny_newObj_type (wpAny_pure (wpAny_pure ⟨_, rfl, wpAny_pure q⟩)) fits))
    | exact wpAny_bind (wpAny_bind (m := Builtin.Tuple.tupleExact _) (wpAny_newObj_type (wpAny_pure ⟨_, rfl, wpAny_pure q⟩) fits))
end
section
variable {X : Cx} {e se : Expr} {te ts : TE} {p2 pos : Pos}
def tBack (K : PySem.W.Frag) (te ts : TE) : TE := fun σ H Q => te σ H fun x H1 => ts σ H1 fun y H2 => y = .int (-1) ∧ ∃ a xs, x = .ref a ∧ SqT K H2 a xs ∧ ∀ p, H2 p = none → Q (.ref p) (upd H2 p (.tup xs.reverse))
theorem pe_back (he : PE X e te) (hs : PE X se ts) : PE X (.Subscript e (.Slice none none (some se) p2) pos) (tBack X.K te ts) := by
  refine ⟨fun pins s σ H Q J z => Subscript_ (thn (he.run pins s σ H _ J z) fun v s1 ⟨x, H1, J1, r1, q1⟩ => wpAny_Slice ?_)⟩
  rw [evalPart_none]
  refine wpAny_pure (wpAny_pure ?_)
  rw [evalPart_some]
  refine thn (hs.run pins s1 σ H1 _ J1 q1) fun vs s3 ⟨y, H3, J3, r3, q3⟩ => ?_
  obtain ⟨rfl, a, xs, rfl, hx, q⟩ := q3
  obtain ⟨t, rfl⟩ := r3
  cases r1
  have J4 : Inv X pins σ H3 { s3 with heap := s3.heap.push { cls := .type "slice", data := .fields #[.none, .none, .int (-1) t] } } := J3.kept (t' := s3.toks) fun b ob z => Heap.get?_push_of_some _ z
  obtain ⟨its, r, ha, hz⟩ := J4.tuple hx
  have hlen : its.toArray.size = xs.length := by rw [List.size_toArray]; exact r.length.symm
  show wpAny (model X.prog X.w) X.A (subscriptTail e (.Slice none none (some se) p2) (.ref a) (.ref s3.heap.objs.size)) (EP X pins σ Q) X.xe { s3 with heap := s3.heap.push { cls := .type "slice", data := .fields #[.none, .none, .int (-1) t] } }
  refine tail_any (ops := [.ref a, .ref s3.heap.objs.size]) ha.typeIs PyProof.Rows.slot_tuple_getitem.lookup ?_ (by with_unfolding_all rfl)
  refine getItem_back (t := t) ha (Heap.IsSliceOf.new ..) ?_ (by rw [hlen]; exact hz)
  refine ⟨.ref _, _, J4.laid (t' := s3.toks) (o := .tup xs.reverse) (fun b ob z => Heap.get?_push_of_some _ z) (Nat.le_refl _) ?_, rfl, q _ (J4.hok.fresh (Nat.le_refl _))⟩
  exact ⟨by rw [List.length_reverse]; exact hz, _, r.reverse, IsTup.new _ _⟩
end
end MP
/-! MP, expressions: classes, instances, methods, the error that is handled, pairs. -/
namespace MP
open PySem L2
section
variable {g : Stc} {C : Gc} {Wx : WX} {k : Nat} {c : Cf} {X : Cx}
theorem s_cl (ok : Cok g C Wx k c X) {i : Nat} {n : Str} {p : Pos} (h : (decide (g.cn[i]? = some n) && gloB g.ns n && nameOk n) = true) : PE X (.Name n p) (tE C Wx c (.cl i)) := by
  simp only [Bool.and_eq_true, decide_eq_true_eq] at h
  obtain ⟨⟨h1, h2⟩, h3⟩ := h
  obtain ⟨d1, d2, d3⟩ := nameOk_d h3
  refine PE.imp (pe_glob (v := V.ref (C.g.ca i)) (ok.glo h2) (ok.cn i n h1) rfl d1) fun s H Q => ?_
  rintro ⟨m, l, h, hp, lo, r⟩
  exact fin1 (v := .cls i) r hp rfl
theorem s_new (ok : Cok g C Wx k c X) {b : Bool} {j : Nat} {es : E} {n : Str} {y : Expr} {ys : List Expr} {p p2 : Pos} (h : (!g.hot && decide (g.cn[j]? = some n) && gloB g.ns n && nameOk n) = true) (he : chkEs g es (y :: ys) = true) (ha : PA X (y :: ys) (tEs C Wx c es)) :
    PE X (.Call (.Name n p) (y :: ys) [] p2) (tE C Wx c (.new b j es)) := by
  simp only [Bool.and_eq_true, decide_eq_true_eq, Bool.not_eq_true'] at h
  obtain ⟨⟨⟨h0, h1⟩, h2⟩, h3⟩ := h
  obtain ⟨d1, d2, d3⟩ := nameOk_d h3
  have c0 := ok.c0 h0
  have hxs : C.xs = none := by rw [c0]; rfl
  cases hf : (if c.lv = 0 then none else c.t.mt j "__init__") with
  | none =>
    refine ⟨fun pins s σ H Q I q => ?_⟩
    obtain ⟨m, l, h, hp, lo, r⟩ := q
    have r : RP C Wx m H σ (Res.opt (if c.lv = 0 then none else c.t.mt j "__init__") _) _ := r
    rw [hf] at r
    exact r.elim
  | some f =>
    by_cases hz : c.lv = 0
    · rw [if_pos hz] at hf
      cases hf
    · have hf2 := hf
      rw [if_neg hz, ok.tb] at hf2
      obtain ⟨M, hnd⟩ := ok.wd.mks j f hf2
      rw [← ok.K] at M
      obtain ⟨j', fd, ps, ek, hb, ar, F⟩ := ok.fok1 f (ok.mtl _ _ _ hf2) (by rw [← ok.lv]; exact hz)
      obtain ⟨st, sr⟩ := chkEs_cons (env := X.env) he
      refine PE.imp (pe_makeG (Wx := Wx) M F ok.gd (by rw [← ek]; exact ok.room h0) (ok.glo h2) (ok.cn j n h1) hb ok.tk ha d1 st (sr _)) fun s H Q => ?_
      rintro ⟨m, l, h, hp, lo, r⟩
      have r : RP C Wx m H s (Res.opt (if c.lv = 0 then none else c.t.mt j "__init__") fun f => (evalEs c es l h).bind fun vs h1 => (c.call1 f (.ref h1.length :: vs) (h1 ++ [.ins j []])).bind fun v h2 => newF b h1.length v h2) _ := r
      rw [hf] at r
      refine ⟨m, l, h, hp, lo, RP.bind (k := fun vs h1 => (c.call1 f (.ref h1.length :: vs) (h1 ++ [.ins j []])).bind fun v h2 => newF b h1.length v h2) r |>.imp fun vs h1 m1 H1 ev hp1 q xs rx x dx nx nd ne => ?_⟩
      have grow := hp1.grow1 (a := x) (o := .ins j []) (H' := upd (upd H1 dx (.own x)) x (.ins (C.g.ca j) dx [])) nx (fun b' w e => by rw [upd_ne (ne_of_none e nx), upd_ne (ne_of_none e nd)]; exact e)
        fun ev => ⟨dx, [], by rw [upd_same, List.zip_nil_right], Nat.zero_le _, hnd, rfl, rfl⟩
      obtain ⟨hp2, ev2⟩ := grow
      have nm : x ∉ m1 := hp1.notIn nx
      refine sp_of (vs := .ref h1.length :: vs) c0 (ar _ _) hp2 ⟨.ref x, xs, rfl, ⟨x, rfl, by rw [← hp1.len]; simp⟩, rx.mono ev2⟩ ?_
      have q : RP C Wx m1 H1 s ((c.call1 f (.ref h1.length :: vs) (h1 ++ [.ins j []])).bind fun v h2 => newF b h1.length v h2) _ := q
      cases e : c.call1 f (.ref h1.length :: vs) (h1 ++ [.ins j []]) with
      | bad => rw [e] at q; exact q
      | exc cc v h2 =>
        rw [e] at q
        exact ExcP.weak (show ExcP C Wx m1 H1 s cc v h2 from q) ev2
      | ok v h2 =>
        rw [e] at q
        have q : RP C Wx m1 H1 s (newF b h1.length v h2) _ := q
        intro m3 H3 ev3 hp3 z rz
        have evA := ev2.trans ev3
        have hx3 : m3[h1.length]? = some x := ev3.ix (by rw [← hp1.len]; simp)
        cases v with
        | non =>
          refine ⟨rz, ?_⟩
          have q : RP C Wx m1 H1 s (if b then .ok (Val.ref h1.length) h2 else match h2[h1.length]? with
            | some (.ins c fs) => .ok (Val.ins c fs) (h2.take h1.length)
            | _ => .bad) _ := q
          cases b with
          | true =>
            rw [if_pos rfl] at q
            exact q m3 H3 evA hp3 _ ⟨x, rfl, hx3⟩
          | false =>
            rw [if_neg Bool.false_ne_true] at q
            cases e2 : h2[h1.length]? with
            | none => rw [e2] at q; exact q.elim
            | some o =>
              rw [e2] at q
              cases o with
              | lst _ => exact q.elim
              | ins cc fs =>
                obtain ⟨dx', vs', e3, l3, n3, r3, p3⟩ := hp3.obj _ _ x e2 hx3
                obtain ⟨n9, en⟩ := evA.pre
                have t := trim_ok (s := []) (l1 := []) hxs evA hp1 hp3 ⟨rfl, (fun i v z => by simp at z), fun i a z => by rw [hxs] at z; cases z⟩
                have q : RP C Wx m1 H1 s (.ok (Val.ins cc fs) (h2.take h1.length)) _ := q
                refine q m1 H3 t.1 t.2.1 _ ⟨x, dx', vs', rfl, ⟨nm, e3⟩, l3, n3, ?_⟩
                exact r3.place (fun b o _ nb z => nb (by rw [en]; exact List.mem_append_left _ z)) (fun n a hn => absurd hn (Nat.not_lt_zero n)) p3
        | _ => exact (show False from q).elim
/-- an instance, as it lies there -/
theorem ins_at {m : List Addr} {h : Heap} {H : Hp} {v : Val} {x : V} {cc : Nat} {fs : List Val} (hp : HpOk C m h H) (r : RepV C.g m H v x) (e : insO h v = some (cc, fs)) :
    ∃ a dx vs, x = .ref a ∧ H a = some (.ins (C.g.ca cc) dx ((C.g.t.fl cc).zip vs)) ∧ RepL C.g m H fs vs := by
  cases v with
  | ins c1 us =>
    cases e
    obtain ⟨a, dx, vs, rfl, ⟨_, ha⟩, _, _, hr⟩ := r
    exact ⟨a, dx, vs, rfl, ha, hr⟩
  | ref n =>
    obtain ⟨a, rfl, ha⟩ := r
    have e : (match h[n]? with | some (.ins c fs) => some (c, fs) | _ => none) = some (cc, fs) := e
    cases q : h[n]? with
    | none => rw [q] at e; cases e
    | some o =>
      rw [q] at e
      cases o with
      | lst _ => cases e
      | ins c1 us =>
        cases e
        obtain ⟨dx, vs, e1, _, _, r1, _⟩ := hp.obj n _ a q ha
        exact ⟨a, dx, vs, rfl, e1, r1⟩
  | _ => cases e
theorem look_put {A : Type} (f g : Str) (y : A) (fs : List (Str × A)) : ((f, y) :: fs).lookup g = if g = f then some y else fs.lookup g := by
  by_cases h : g = f
  · rw [if_pos h, h]
    simp [List.lookup]
  · have e : (g == f) = false := by simpa using h
    rw [if_neg h]
    simp [List.lookup, e]
theorem zip_rep {m : List Addr} {H : Hp} {f : Str} {w : Val} : ∀ {ns : List Str} {fs : List Val} {vs : List V}, RepL C.g m H fs vs → (ns.zip fs).lookup f = some w → ∃ y, (ns.zip vs).lookup f = some y ∧ RepV C.g m H w y ∧ f ∈ ns
  | [], fs, vs, r, e => by simp at e
  | n :: ns, [], vs, r, e => by simp at e
  | n :: ns, u :: us, vs, r, e => by
    obtain ⟨v, ws, rfl, r1, r2⟩ := r
    rw [List.zip_cons_cons, look_put] at e
    rw [List.zip_cons_cons]
    by_cases hf : f = n
    · subst hf
      rw [if_pos rfl] at e
      cases e
      exact ⟨v, by rw [look_put, if_pos rfl], r1, by simp⟩
    · rw [if_neg hf] at e
      obtain ⟨y, h1, h2, h3⟩ := zip_rep r2 e
      exact ⟨y, by rw [look_put, if_neg hf]; exact h1, h2, List.mem_cons_of_mem _ h3⟩
theorem ty_seven {h : Heap} {v : Val} {t : String} (e : tyName h v = some t) : ["NoneType", "bool", "int", "str", "tuple", "list", "dict"].contains t = true := by
  unfold tyName at e
  split at e
  · cases e; decide
  · cases e; decide
  · cases e; decide
  · cases e; decide
  · cases e; decide
  · cases e; decide
  · cases e; decide
  · cases e; decide
  · split at e
    · cases e; decide
    · cases e
  · cases e
theorem s_fld (ok : Cok g C Wx k c X) {o : E} {f n : Str} {y : Expr} {p : Pos} (h : (decide (f = n) && noSuper y) = true) (ha : PE X y (tE C Wx c o)) : PE X (.Attribute y n p) (tE C Wx c (.fld o f)) := by
  simp only [Bool.and_eq_true, decide_eq_true_eq] at h
  obtain ⟨rfl, h2⟩ := h
  refine PE.imp (pe_fld ha (base_of h2)) fun s H Q => ?_
  rintro ⟨m, l, h, hp, lo, r⟩
  unfold evalE at r
  refine ⟨m, l, h, hp, lo, r.bind.imp fun v h1 m1 H1 ev hp1 q x rx => ?_⟩
  cases e : fldO c.t h1 v f with
  | none => rw [e] at q; exact q.elim
  | some w =>
    rw [e] at q
    unfold fldO at e
    cases e1 : insO h1 v with
    | none => rw [e1] at e; cases e
    | some pr =>
      obtain ⟨cc, fs⟩ := pr
      rw [e1] at e
      have e : (if c.t.isC cc then (((c.t.fl cc).zip fs).lookup f) else none) = some w := e
      rw [ok.tb] at e
      by_cases hC : C.g.t.isC cc = true
      · rw [if_pos hC] at e
        obtain ⟨a, dx, vs, rfl, ea, hr⟩ := ins_at hp1 rx e1
        obtain ⟨y', l1, l2, l3⟩ := zip_rep hr e
        obtain ⟨k1, k2⟩ := ok.wd.cls cc hC
        rw [← ok.K] at k1 k2
        exact ⟨a, _, dx, _, y', rfl, ea, k1, k2 f l3, l1, fin1 q hp1 l2⟩
      · rw [if_neg hC] at e
        cases e
theorem zip_none {A : Type} {f : Str} : ∀ {ns : List Str} {vs : List A}, ns.contains f = false → (ns.zip vs).lookup f = none
  | [], vs, h => by simp
  | n :: ns, [], h => by simp
  | n :: ns, v :: vs, h => by
    rw [List.contains_cons, Bool.or_eq_false_iff] at h
    rw [List.zip_cons_cons, List.lookup_cons]
    rw [h.1]
    exact zip_none h.2
theorem s_mth (ok : Cok g C Wx k c X) {o es : E} {mn n : Str} {y : Expr} {zs : List Expr} {ap cp : Pos} (h : (!g.hot && decide (mn = n) && noSuper y && (ap.endLine == cp.line) && decide (zs.length < 28)) = true) (ha : PE X y (tE C Wx c o)) (he : chkEs g es zs = true) (hb : PA X zs (tEs C Wx c es)) :
    PE X (.Call (.Attribute y n ap) zs [] cp) (tE C Wx c (.mth mn o es)) := by
  simp only [Bool.and_eq_true, decide_eq_true_eq, Bool.not_eq_true'] at h
  obtain ⟨⟨⟨⟨h0, rfl⟩, h2⟩, h3⟩, h4⟩ := h
  have c0 := ok.c0 h0
  let R : Addr → Sp → Prop := fun f sp => ∃ i ps fd, f = C.g.fa i ∧ Binds X.K fd ps [] ∧ (∀ args h, c.call i args h = .bad ∨ args.length = ps.length) ∧ FnG X.prog X.w X.K X.mg X.base (L2.CX X.prog X.w) k (C.g.fa i) fd ps (spI (gc0 C.g) c.call i ps.length) ∧ sp = spI (gc0 C.g) c.call i ps.length
  have FR : ∀ f sp, R f sp → ∃ fd ps, FnG X.prog X.w X.K X.mg X.base (L2.CX X.prog X.w) k f fd ps sp ∧ Binds X.K fd ps [] := fun f sp ⟨i, ps, fd, e1, e2, e3, e4, e5⟩ => by
    subst e1 e5
    exact ⟨fd, ps, e4, e2⟩
  have main : ∀ (s : St) (H : Hp) (Q : VK) {t : TA}, tE C Wx c (.mth mn o es) s H Q → (∀ {m l h} {H1 : Hp} {Q1 : List V → Hp → Prop}, HpOk C m h H1 → LocOk C m H1 l s → RP C Wx m H1 s (evalEs c es l h) (fun v h' m' H' => ∀ x, RepL C.g m' H' v x → Q1 x H') → t s H1 Q1) →
      tMthG X.K R Wx mn (tE C Wx c o) t s H Q := by
    intro s H Q t z ht
    obtain ⟨m, l, h, hp, lo, r⟩ := z
    unfold evalE at r
    refine ⟨m, l, h, hp, lo, r.bind.imp fun v h1 m1 H1 ev hp1 q x rx => ?_⟩
    cases e : mthO c.t h1 v mn with
    | none => rw [e] at q; exact q.elim
    | some f =>
      rw [e] at q
      unfold mthO at e
      cases e1 : insO h1 v with
      | none => rw [e1] at e; cases e
      | some pr =>
        obtain ⟨cc, fs⟩ := pr
        rw [e1] at e
        have e : (if c.t.isC cc && !(c.t.fl cc).contains mn then c.t.mt cc mn else none) = some f := e
        rw [ok.tb] at e
        by_cases hC : (C.g.t.isC cc && !(C.g.t.fl cc).contains mn) = true
        · rw [if_pos hC] at e
          rw [Bool.and_eq_true, Bool.not_eq_true'] at hC
          obtain ⟨a, dx, vs, rfl, ea, hr⟩ := ins_at hp1 rx e1
          obtain ⟨k1, k2⟩ := ok.wd.cls cc hC.1
          have k3 := ok.wd.mt cc mn f hC.1 e
          rw [← ok.K] at k1 k3
          obtain ⟨fd, ps, hb, ar, F⟩ := ok.fok f (ok.mtl _ _ _ e)
          refine ⟨a, _, dx, _, C.g.fa f, _, rfl, ea, zip_none hC.2, k1, k3, ⟨f, ps, fd, rfl, hb, ar, F, rfl⟩, ht hp1 (lo.mono ev) ?_⟩
          have q : RP C Wx m1 H1 s ((evalEs c es l h1).bind fun vs h2 => c.call f (v :: vs) h2) _ := q
          refine q.bind.imp fun us h2 m2 H2 ev2 hp2 q2 xs rxs => ?_
          exact sp_of (vs := v :: us) c0 (ar _ _) hp2 ⟨.ref a, xs, rfl, rx.mono ev2, rxs⟩ q2
        · rw [if_neg hC] at e
          cases e
  cases zs with
  | nil =>
    cases es with
    | nl =>
      refine PE.imp (pe_methG0 (R := R) (Wx := Wx) ha ok.gd (ok.room h0) FR ok.tk ⟨base_of h2, rfl, h3⟩) fun s H Q z => main s H Q z ?_
      intro m l h H1 Q1 hp lo r
      exact (show RP C Wx m H1 s (.ok [] h) _ from r).now hp [] rfl
    | _ => cases he
  | cons z zs =>
    obtain ⟨st, sr⟩ := chkEs_cons (env := X.env) he
    refine PE.imp (pe_methG (R := R) (Wx := Wx) ha ok.gd (ok.room h0) FR ok.tk hb st (sr _) ⟨base_of h2, few_of he (by rw [List.length_cons] at h4; omega), h3⟩) fun s H Q z => main s H Q z ?_
    intro m l h H1 Q1 hp lo r
    exact ⟨m, l, h, hp, lo, r⟩
/-! ### the error that is handled -/
theorem hx_inst {X0 : Cx} {a D : Addr} {oe : PySem.Obj} {d : Option Addr} {pn pins : List (Addr × PySem.Obj)} {σ : St} {s : Shared} {m : List Addr} {H : Hp} {G : Gk} {cc : Nat} {v : Val} (I : Inv (X0.suite a ((a, oe) :: pn)) pins σ H s) (hz : Zc (.ref D) d oe) (hf : ∃ vs, oe.data = .fields vs)
    (xa : XAt G m H cc v d) : ∃ od, PySem.W.InstAt s.heap a oe D od := by
  obtain ⟨hget, _⟩ := I.pin (a, oe) (List.mem_append_left _ List.mem_cons_self)
  obtain ⟨vs, hv⟩ := hf
  unfold XAt at xa
  split at xa
  · subst xa
    exact ⟨none, hget, hz.1, by unfold PySem.W.notCls; rw [hv], by rw [hz.2]; trivial⟩
  · obtain ⟨dd, x, e1, _, e2, _⟩ := xa
    subst e1
    obtain ⟨mA, hns, hr⟩ := (show ObjOk X0.prog X0.w H s.heap dd (.xd _) from I.hok dd _ e2)
    obtain ⟨od, ho, hl⟩ := lookIn_ns hns
    exact ⟨some od, hget, hz.1, by unfold PySem.W.notCls; rw [hv], by rw [hz.2]; exact ho⟩
theorem s_xf (ok : Cok g C Wx k c X) {i : Nat} {f n y : Str} {p py : Pos} (h : (g.hot && decide (g.xi = some i) && decide (f = n) && decide (g.N[i]? = some y) && visB g.ns y && nameOk y) = true) : PE X (.Attribute (.Name y py) n p) (tE C Wx c (.xf i f)) := by
  simp only [Bool.and_eq_true, decide_eq_true_eq] at h
  obtain ⟨⟨⟨⟨⟨h0, h1⟩, rfl⟩, h3⟩, h4⟩, h5⟩ := h
  obtain ⟨d1, d2, d3⟩ := nameOk_d h5
  obtain ⟨X0, a, oe, d, pn, cc, v, m0, H0, eX, hz, hf, ex, ec, hJ, xa⟩ := (ok.hx h0).ex
  rw [h1] at ex
  by_cases hc : c.t.isX cc = true ∧ c.t.xf cc = some f
  · obtain ⟨hc1, hc2⟩ := hc
    have hc2' := hc2
    rw [ok.tb] at hc1 hc2'
    have E1 := (ok.wd.ex cc hc1).2.2 f hc2'
    have hv : PE X (.Name y py) (tVar i) := pe_var (i := i) (by rw [ok.N]; exact h3) (ok.vis h4) d1 d2
    have K0 : X0.K = C.g.K := by rw [← ok.K, eX]
    subst eX
    rw [← K0] at E1
    refine PE.imp (pe_xf E1.xf E1.no hz hf hv rfl) fun s H Q => ?_
    rintro ⟨m, l, h, hp, lo, r⟩
    have r : RP C Wx m H s (xfR c i f l h) _ := r
    unfold xfR at r
    cases e1 : l[i]? with
    | none => rw [e1] at r; exact r.elim
    | some o =>
      cases o with
      | some _ => rw [e1] at r; exact r.elim
      | none =>
        rw [e1, ec] at r
        have r : RP C Wx m H s (if c.t.isX cc = true ∧ c.t.xf cc = some f then .ok v h else .bad) _ := r
        rw [if_pos ⟨by rw [ok.tb]; exact hc1, hc2⟩] at r
        have xa := xa.mono (hJ m H hp.j)
        unfold XAt at xa
        rw [hc2'] at xa
        obtain ⟨dd, z, e2, rz, e3, _⟩ := xa
        exact ⟨.ref a, lo.x i a ex e1, rfl, rfl, dd, _, z, e2, e3, by simp [List.lookup], r.now hp z rz⟩
  · refine ⟨fun pins s0 σ H Q I q => ?_⟩
    obtain ⟨m, l, h, hp, lo, r⟩ := q
    have r : RP C Wx m H σ (xfR c i f l h) _ := r
    unfold xfR at r
    rw [ec] at r
    split at r
    · rename_i e1 e2
      cases e2
      rw [if_neg hc] at r
      exact r.elim
    · exact r.elim
/-- isinstance(e, c), e the error that is handled -/
def rIsX (G : Gk) (D a : Addr) (d : Option Addr) : List V → Hp → VK → Prop := fun xs H Q => ∃ (x : V) (cv : Value) (b : Bool) (m : List Addr) (cc : Nat) (v : Val), xs = [.ref a, x] ∧ (∀ u, RelV x u → u = cv) ∧ PySem.W.kitOne G.K (.ref D) cv = some b ∧ XAt G m H cc v d ∧ Q (.bl b) H
theorem call_isX {X0 : Cx} {G : Gk} {a D : Addr} {oe : PySem.Obj} {d : Option Addr} {pn : List (Addr × PySem.Obj)} (K0 : X0.K = G.K) (E : ExcC X0.K D) (hz : Zc (.ref D) d oe) (hf : ∃ vs, oe.data = .fields vs) : CallR (X0.suite a ((a, oe) :: pn)) (.builtin "isinstance") (rIsX G D a d) := by
  intro pins s σ H xs us Q I r h
  obtain ⟨x, cv, b, m, cc, v, rfl, hcv, e, xa, q⟩ := h
  obtain ⟨u1, w1, rfl, r1, r2⟩ := vals_cons r
  obtain ⟨u2, w2, rfl, r3, r4⟩ := vals_cons r2
  cases vals_nil r4
  cases (show u1 = Value.ref a from r1)
  have ec := hcv _ r3
  subst ec
  obtain ⟨od, J⟩ := hx_inst I hz hf xa
  rw [← K0] at e
  have hcl : (PySem.W.clsIn X0.K D).isSome = true := by
    obtain ⟨cd, hc, _⟩ := PySem.W.any_some E.hd
    rw [hc]
    rfl
  exact PySem.W.kia_one (PySem.W.kitx_exc hcl E.hg E.hk E.hs E.ha E.hn E.ht E.hm) I.kIn J e (fun z => nomatch z) fun tk => ⟨.bl b, H, I.kept (t' := tk) fun _ _ z => z, rfl, q⟩
theorem s_xi (ok : Cok g C Wx k c X) {i j : Nat} {w y z : Str} {p pw py pz : Pos} (h : (g.hot && decide (g.xi = some i) && decide (w = ("isinstance" : Str)) && gloB g.ns w && g.bn.contains w && decide (g.N[i]? = some y) && visB g.ns y && nameOk y && decide (g.cn[j]? = some z) && gloB g.ns z && nameOk z) = true) :
    PE X (.Call (.Name w pw) [.Name y py, .Name z pz] [] p) (tE C Wx c (.xi i j)) := by
  simp only [Bool.and_eq_true, decide_eq_true_eq] at h
  obtain ⟨⟨⟨⟨⟨⟨⟨⟨⟨⟨h0, h1⟩, rfl⟩, h3⟩, h4⟩, h5⟩, h6⟩, h7⟩, h8⟩, h9⟩, h10⟩ := h
  obtain ⟨d1, d2, d3⟩ := nameOk_d h7
  obtain ⟨X0, a, oe, d, pn, cc, v, m0, H0, eX, hz, hf, ex, ec, hJ, xa⟩ := (ok.hx h0).ex
  rw [h1] at ex
  by_cases hc : (c.t.isX cc && c.t.isX j) = true
  · have hc' := hc
    rw [Bool.and_eq_true, ok.tb] at hc'
    have E1 := (ok.wd.ex cc hc'.1).1
    have E2 := (ok.wd.sub cc j hc'.1 hc'.2).2
    have hv : PE X (.Name y py) (tVar i) := pe_var (i := i) (by rw [ok.N]; exact h5) (ok.vis h6) d1 d2
    have hcl : PE X (.Name z pz) (tC (.ref (C.g.ca j))) := pe_glob (v := V.ref (C.g.ca j)) (ok.glo h9) (ok.cn j z h8) rfl (nameOk_d h10).1
    have K0 : X0.K = C.g.K := by rw [← ok.K, eX]
    have hg := ok.glo h3
    have hm := ok.bn _ h4
    subst eX
    have E1 := E1.is
    rw [← K0] at E1
    refine PE.imp (pe_callB (call_isX K0 E1 hz hf) hg hm PyProof.Rows.boot_isinstance (pa_cons hv (pa_cons hcl pa_nil)) (by decide) (by decide)) fun s H Q => ?_
    rintro ⟨m, l, h, hp, lo, r⟩
    have r : RP C Wx m H s (xiR c i j l h) _ := r
    unfold xiR at r
    cases e1 : l[i]? with
    | none => rw [e1] at r; exact r.elim
    | some o =>
      cases o with
      | some _ => rw [e1] at r; exact r.elim
      | none =>
        rw [e1, ec] at r
        have r : RP C Wx m H s (if (c.t.isX cc && c.t.isX j) = true then .ok (Val.bl (c.t.sub cc j)) h else .bad) _ := r
        rw [if_pos hc, ok.tb] at r
        exact ⟨.ref a, lo.x i a ex e1, .ref (C.g.ca j), _, _, m, cc, v, rfl, fun u hu => hu, E2, xa.mono (hJ m H hp.j), r.now hp _ rfl⟩
  · refine ⟨fun pins s0 σ H Q I q => ?_⟩
    obtain ⟨m, l, h, hp, lo, r⟩ := q
    have r : RP C Wx m H σ (xiR c i j l h) _ := r
    unfold xiR at r
    rw [ec] at r
    split at r
    · rename_i e1 e2
      cases e2
      rw [if_neg hc] at r
      exact r.elim
    · exact r.elim
theorem s_xt (ok : Cok g C Wx k c X) {i : Nat} {t : String} {w y z : Str} {p pw py pz : Pos} (h : (g.hot && decide (g.xi = some i) && decide (w = ("isinstance" : Str)) && gloB g.ns w && g.bn.contains w && decide (g.N[i]? = some y) && visB g.ns y && nameOk y && gloB g.ns z && nameOk z && g.bn.contains z && decide (bootBuiltins z = some (.type t))) = true) :
    PE X (.Call (.Name w pw) [.Name y py, .Name z pz] [] p) (tE C Wx c (.xt i t)) := by
  simp only [Bool.and_eq_true, decide_eq_true_eq] at h
  obtain ⟨⟨⟨⟨⟨⟨⟨⟨⟨⟨⟨h0, h1⟩, rfl⟩, h3⟩, h4⟩, h5⟩, h6⟩, h7⟩, h8⟩, h9⟩, h10⟩, h11⟩ := h
  obtain ⟨d1, d2, d3⟩ := nameOk_d h7
  obtain ⟨X0, a, oe, d, pn, cc, v, m0, H0, eX, hz, hf, ex, ec, hJ, xa⟩ := (ok.hx h0).ex
  rw [h1] at ex
  by_cases hc : (c.t.isX cc && c.t.bt t) = true
  · have hc' := hc
    rw [Bool.and_eq_true, ok.tb] at hc'
    have E1 := (ok.wd.ex cc hc'.1).1
    have E2 := ok.wd.subT cc t hc'.1 hc'.2
    have hv : PE X (.Name y py) (tVar i) := pe_var (i := i) (by rw [ok.N]; exact h5) (ok.vis h6) d1 d2
    have hcl := s_bt (Wx := Wx) ok (t := t) (n := z) (p := pz) (by simp [h8, h9, h11]; simpa using h10)
    have K0 : X0.K = C.g.K := by rw [← ok.K, eX]
    have hg := ok.glo h3
    have hm := ok.bn _ h4
    subst eX
    have E1 := E1.is
    rw [← K0] at E1
    refine PE.imp (pe_callB (call_isX K0 E1 hz hf) hg hm PyProof.Rows.boot_isinstance (pa_cons hv (pa_cons hcl pa_nil)) (by decide) (by decide)) fun s H Q => ?_
    rintro ⟨m, l, h, hp, lo, r⟩
    have r : RP C Wx m H s (xtR c i t l h) _ := r
    unfold xtR at r
    cases e1 : l[i]? with
    | none => rw [e1] at r; exact r.elim
    | some o =>
      cases o with
      | some _ => rw [e1] at r; exact r.elim
      | none =>
        rw [e1, ec] at r
        have r : RP C Wx m H s (if (c.t.isX cc && c.t.bt t) = true then .ok (Val.bl (c.t.subT cc t)) h else .bad) _ := r
        rw [if_pos hc, ok.tb] at r
        refine ⟨.ref a, lo.x i a ex e1, m, l, h, hp, lo, fun m1 H1 ev hp1 x rx => ?_⟩
        cases (show x = V.ty t from rx)
        exact ⟨.ty t, .type t, _, m1, cc, v, rfl, fun u hu => hu, E2, (xa.mono (hJ m H hp.j)).mono ev, r m1 H1 ev hp1 _ rfl⟩
  · refine ⟨fun pins s0 σ H Q I q => ?_⟩
    obtain ⟨m, l, h, hp, lo, r⟩ := q
    have r : RP C Wx m H σ (xtR c i t l h) _ := r
    unfold xtR at r
    rw [ec] at r
    split at r
    · rename_i e1 e2
      cases e2
      rw [if_neg hc] at r
      exact r.elim
    · exact r.elim
/-- isinstance(e, (A, B)) -/
def rIsXT (G : Gk) (D a : Addr) (d : Option Addr) : List V → Hp → VK → Prop := fun xs H Q => ∃ (tp : Addr) (cs : List V) (us : List Value) (b : Bool) (m : List Addr) (cc : Nat) (v : Val), xs = [.ref a, .ref tp] ∧ TAt G m H tp cs ∧ Paired ClsV cs us ∧ PySem.W.kitAny G.K (.ref D) us = some b ∧ XAt G m H cc v d ∧ Q (.bl b) H
theorem call_isXT {X0 : Cx} {G : Gk} {a D : Addr} {oe : PySem.Obj} {d : Option Addr} {pn : List (Addr × PySem.Obj)} (K0 : X0.K = G.K) (E : ExcC X0.K D) (hz : Zc (.ref D) d oe) (hf : ∃ vs, oe.data = .fields vs) : CallR (X0.suite a ((a, oe) :: pn)) (.builtin "isinstance") (rIsXT G D a d) := by
  intro pins s σ H xs us Q I r h
  obtain ⟨tp, cs, ws, b, m, cc, v, rfl, ht, pk, e, xa, q⟩ := h
  obtain ⟨u1, w1, rfl, r1, r2⟩ := vals_cons r
  obtain ⟨u2, w2, rfl, r3, r4⟩ := vals_cons r2
  cases vals_nil r4
  cases (show u1 = Value.ref a from r1)
  cases (show u2 = Value.ref tp from r3)
  obtain ⟨od, J⟩ := hx_inst I hz hf xa
  rw [← K0] at e
  have hcl : (PySem.W.clsIn X0.K D).isSome = true := by
    obtain ⟨cd, hc, _⟩ := PySem.W.any_some E.hd
    rw [hc]
    rfl
  obtain ⟨dd, n, sl, hg⟩ : ∃ (dd : Option Addr) (n : Nat) (sl : Array (Option Value)), s.heap.get? tp = some ⟨.type "tuple", dd, .seq ws.toArray n, sl⟩ := by
    rcases ht with ⟨_, ht⟩ | ⟨o, its, n, h1, h2, h3, _, h4⟩
    · obtain ⟨_, its, rv, o, h1, h2, n, h3⟩ := (show ObjOk X0.prog X0.w H s.heap tp (.tup cs) from I.hok tp _ ht)
      have e3 := ClsV.all pk rv
      subst e3
      obtain ⟨oc, od, dt, sl⟩ := o
      simp only at h2 h3
      subst h2 h3
      exact ⟨_, _, _, h1⟩
    · have e3 := ClsV.all pk h4
      rw [← K0] at h1
      obtain ⟨oc, od, dt, sl⟩ := o
      simp only at h2 h3
      subst h2 h3
      refine ⟨od, n, sl, ?_⟩
      rw [I.kIn _ _ h1, ← e3]
  exact PySem.W.kia_tup (PySem.W.kitx_exc hcl E.hg E.hk E.hs E.ha E.hn E.ht E.hm) I.kIn J hg e (fun z => nomatch z) fun tk => ⟨.bl b, H, I.kept (t' := tk) fun _ _ z => z, rfl, q⟩
theorem clsL_rep {m : List Addr} {H : Hp} {G : Gk} : ∀ {vs : List Val} {xs : List V} {js : List Nat}, RepL G m H vs xs → clsL vs = some js → Paired ClsV xs (js.map fun j => Value.ref (G.ca j))
  | [], xs, js, r, e => by
    cases (show xs = [] from r)
    cases e
    exact .nil
  | v :: vs, xs, js, r, e => by
    obtain ⟨y, w, rfl, r1, r2⟩ := r
    cases v with
    | cls i =>
      have e : (clsL vs).map (fun js => i :: js) = some js := e
      cases e1 : clsL vs with
      | none => rw [e1] at e; cases e
      | some ks =>
        rw [e1] at e
        cases e
        cases (show y = .ref (G.ca i) from r1)
        exact .cons (.own _) (clsL_rep r2 e1)
    | _ => cases e
theorem kitAny_js {G : Gk} {k : Nat} {f : Nat → Bool} : ∀ {js : List Nat}, (∀ j ∈ js, PySem.W.kitOne G.K (.ref (G.ca k)) (.ref (G.ca j)) = some (f j)) → PySem.W.kitAny G.K (.ref (G.ca k)) (js.map fun j => Value.ref (G.ca j)) = some (js.any f)
  | [], _ => rfl
  | j :: js, h => by
    have h1 := h j (by simp)
    have h2 := kitAny_js (js := js) fun i mi => h i (List.mem_cons_of_mem _ mi)
    show (match PySem.W.kitOne G.K (.ref (G.ca k)) (.ref (G.ca j)) with
      | some true => some true
      | some false => PySem.W.kitAny G.K (.ref (G.ca k)) (js.map fun j => Value.ref (G.ca j))
      | none => none) = some (f j || js.any f)
    rw [h1]
    cases f j with
    | true => rfl
    | false => exact h2
theorem s_xiT (ok : Cok g C Wx k c X) {i : Nat} {e : E} {w y : Str} {z : Expr} {p pw py : Pos} (h : (g.hot && decide (g.xi = some i) && decide (w = ("isinstance" : Str)) && gloB g.ns w && g.bn.contains w && decide (g.N[i]? = some y) && visB g.ns y && nameOk y && notStar z) = true) (he : PE X z (tE C Wx c e)) :
    PE X (.Call (.Name w pw) [.Name y py, z] [] p) (tE C Wx c (.xiT i e)) := by
  simp only [Bool.and_eq_true, decide_eq_true_eq] at h
  obtain ⟨⟨⟨⟨⟨⟨⟨⟨h0, h1⟩, rfl⟩, h3⟩, h4⟩, h5⟩, h6⟩, h7⟩, h8⟩ := h
  obtain ⟨d1, d2, d3⟩ := nameOk_d h7
  obtain ⟨X0, a, oe, d, pn, cc, v, m0, H0, eX, hz, hf, ex, ec, hJ, xa⟩ := (ok.hx h0).ex
  rw [h1] at ex
  by_cases hc : c.t.isX cc = true
  · have hc' := hc
    rw [ok.tb] at hc'
    have E1 := (ok.wd.ex cc hc').1
    have hv : PE X (.Name y py) (tVar i) := pe_var (i := i) (by rw [ok.N]; exact h5) (ok.vis h6) d1 d2
    have K0 : X0.K = C.g.K := by rw [← ok.K, eX]
    have hg := ok.glo h3
    have hm := ok.bn _ h4
    have wd := ok.wd
    have tb := ok.tb
    subst eX
    have E1 := E1.is
    rw [← K0] at E1
    refine PE.imp (pe_callB (call_isXT K0 E1 hz hf) hg hm PyProof.Rows.boot_isinstance (pa_cons hv (pa_cons he pa_nil (star_of h8))) (by decide) (by decide) rfl (by rw [star_of h8]; rfl)) fun s H Q => ?_
    rintro ⟨m, l, h, hp, lo, r⟩
    unfold evalE at r
    cases e0 : xkO c i l with
    | none => rw [e0] at r; exact r.elim
    | some kk =>
      rw [e0] at r
      have r : RP C Wx m H s ((evalE c e l h).bind fun v h1 => xiTR c.t kk v h1) _ := r
      obtain ⟨e1, rfl⟩ : l[i]? = some none ∧ cc = kk := by
        unfold xkO at e0
        rw [ec] at e0
        split at e0
        · rename_i q1 q2
          cases q2
          rw [if_pos hc] at e0
          exact ⟨q1, Option.some.inj e0⟩
        · cases e0
      refine ⟨.ref a, lo.x i a ex e1, m, l, h, hp, lo, r.bind.imp fun u h1 m1 H1 ev hp1 q x rx => ?_⟩
      unfold xiTR at q
      cases e2 : (tupL u).bind clsL with
      | none => rw [e2] at q; exact q.elim
      | some js =>
        rw [e2] at q
        have q : RP C Wx m1 H1 s (if js.all c.t.isX then .ok (Val.bl (js.any (c.t.sub cc))) h1 else .bad) _ := q
        by_cases e3 : js.all c.t.isX = true
        · rw [if_pos e3] at q
          have e4 : ∀ j ∈ js, c.t.isX j = true := List.all_eq_true.mp e3
          cases u with
          | tup vs =>
            obtain ⟨tp, cs, rfl, ht, hr⟩ := rx
            refine ⟨tp, cs, _, _, m1, cc, v, rfl, ht, clsL_rep hr e2, kitAny_js (f := c.t.sub cc) fun j mj => ?_, (xa.mono (hJ m H hp.j)).mono ev, q.now hp1 _ rfl⟩
            have := e4 j mj
            rw [tb] at this ⊢
            exact (wd.sub cc j hc' this).2
          | _ => cases e2
        · rw [if_neg e3] at q
          exact q.elim
  · refine ⟨fun pins s0 σ H Q I q => ?_⟩
    obtain ⟨m, l, h, hp, lo, r⟩ := q
    unfold evalE at r
    have e0 : xkO c i l = none := by
      unfold xkO
      rw [ec]
      split
      · rename_i q1 q2
        cases q2
        rw [if_neg hc]
      · rfl
    rw [e0] at r
    exact r.elim
/-- list(x) as an object -/
theorem s_lH (ok : Cok g C Wx k c X) {a : E} {w : Str} {y : Expr} {p pw : Pos} (h : (decide (w = ("list" : Str)) && gloB g.ns w && g.bn.contains w && notStar y) = true) (ha : PE X y (tE C Wx c a)) :
    PE X (.Call (.Name w pw) [y] [] p) (tE C Wx c (.lH a)) := by
  simp only [Bool.and_eq_true, decide_eq_true_eq] at h
  obtain ⟨⟨⟨rfl, h3⟩, h4⟩, h8⟩ := h
  have hg := ok.glo h3
  have hm := ok.bn _ h4
  refine PE.imp (pe_callTy call_list_of hg hm (by decide +kernel) (pa_cons ha pa_nil (star_of h8)) (by decide) (by decide) (star_of h8) rfl) fun s H Q => ?_
  rintro ⟨m, l, h, hp, lo, r⟩
  unfold evalE at r
  refine ⟨m, l, h, hp, lo, r.bind.imp fun v h1 m1 H1 ev hp1 q x rx => ?_⟩
  cases e : asSeq h1 v with
  | none => rw [e] at q; exact q.elim
  | some xs =>
    rw [e] at q
    have q : RP C Wx m1 H1 s (if pureL xs then .ok (Val.ref h1.length) (h1 ++ [Obj.lst xs]) else .bad) _ := q
    by_cases hpu : pureL xs = true
    · rw [if_pos hpu] at q
      obtain ⟨a, vs, rfl, hs, hr⟩ := seq_at hp1 rx e
      rw [← ok.K] at hs
      refine ⟨a, vs, rfl, hs, fun b hb => ?_⟩
      obtain ⟨hp2, ev2⟩ := hp1.grow hb hr hpu
      refine q _ _ ev2 hp2 _ ⟨b, rfl, ?_⟩
      rw [← hp1.len]
      simp
    · rw [if_neg hpu] at q
      exact q.elim
/-- isinstance(x, C) -/
theorem s_isC (ok : Cok g C Wx k c X) {a : E} {j : Nat} {w z : Str} {y : Expr} {p pw pz : Pos} (h : (!g.hot && decide (w = ("isinstance" : Str)) && gloB g.ns w && g.bn.contains w && decide (g.cn[j]? = some z) && gloB g.ns z && nameOk z && notStar y) = true) (ha : PE X y (tE C Wx c a)) :
    PE X (.Call (.Name w pw) [y, .Name z pz] [] p) (tE C Wx c (.isC a j)) := by
  simp only [Bool.and_eq_true, decide_eq_true_eq] at h
  obtain ⟨⟨⟨⟨⟨⟨⟨h0, rfl⟩, h3⟩, h4⟩, h5⟩, h6⟩, h7⟩, h8⟩ := h
  have hg := ok.glo h3
  have hm := ok.bn _ h4
  have hcl : PE X (.Name z pz) (tC (.ref (C.g.ca j))) := pe_glob (v := V.ref (C.g.ca j)) (ok.glo h6) (ok.cn j z h5) rfl (nameOk_d h7).1
  refine PE.imp (pe_callB call_isi hg hm PyProof.Rows.boot_isinstance (pa_cons ha (pa_cons hcl pa_nil) (star_of h8)) (by decide) (by decide) (star_of h8) rfl) fun s H Q => ?_
  rintro ⟨m, l, h, hp, lo, r⟩
  unfold evalE at r
  refine ⟨m, l, h, hp, lo, r.bind.imp fun v h1 m1 H1 ev hp1 q x rx => ?_⟩
  cases e : isCO c.t h1 v j with
  | none => rw [e] at q; exact q.elim
  | some b =>
    rw [e] at q
    unfold isCO at e
    by_cases e0 : (c.t.isC j && c.t.isI j) = true
    · rw [if_pos e0, ok.tb] at e
      rw [Bool.and_eq_true, ok.tb] at e0
      cases e1 : insO h1 v with
      | none =>
        rw [e1] at e
        cases e2 : tyName h1 v with
        | none => rw [e2] at e; cases e
        | some t =>
          rw [e2] at e
          cases e
          have ty := ty_at hp1 rx e2
          rw [← ok.K] at ty
          have hk := ok.wd.subB t j e0.1 e0.2 (ty_seven e2)
          rw [← ok.K] at hk
          exact ⟨x, .ref (C.g.ca j), _, _, _, rfl, .own _, ty, hk, q.now hp1 _ rfl⟩
      | some pr =>
        obtain ⟨cc, fs⟩ := pr
        rw [e1] at e
        have e : (if C.g.t.isC cc && C.g.t.isI cc then some (C.g.t.sub cc j) else none) = some b := e
        by_cases e2 : (C.g.t.isC cc && C.g.t.isI cc) = true
        · rw [if_pos e2] at e
          cases e
          rw [Bool.and_eq_true] at e2
          obtain ⟨a, dx, vs, rfl, ea, hr⟩ := ins_at hp1 rx e1
          obtain ⟨k1, k2⟩ := ok.wd.cls cc e2.1
          obtain ⟨t1, t2, t3, t4⟩ := ok.wd.clsT cc e2.1 e2.2
          have hk := ok.wd.subC cc j e2.1 e2.2 e0.1 e0.2
          rw [← ok.K] at k1 t1 t2 t3 t4 hk
          exact ⟨.ref a, .ref (C.g.ca j), _, _, _, rfl, .own _, .base (.ins ea k1 t1 t2 t3 t4), hk, q.now hp1 _ rfl⟩
        · rw [if_neg e2] at e
          cases e
    · rw [if_neg e0] at e
      cases e
/-! ### pairs that are walked -/
theorem zipV_len : ∀ (xs ys : List Val), (zipV xs ys).length = min xs.length ys.length
  | [], ys => by simp [zipV]
  | x :: xs, [] => by simp [zipV]
  | x :: xs, y :: ys => by
    show (zipV xs ys).length + 1 = _
    rw [zipV_len xs ys, List.length_cons, List.length_cons]
    omega
theorem zipV_get : ∀ {xs ys : List Val} {i : Nat} {v : Val}, (zipV xs ys)[i]? = some v → ∃ x y, xs[i]? = some x ∧ ys[i]? = some y ∧ v = .tup [x, y]
  | [], ys, i, v, h => by simp [zipV] at h
  | x :: xs, [], i, v, h => by simp [zipV] at h
  | x :: xs, y :: ys, 0, v, h => by
    have h : some (Val.tup [x, y]) = some v := h
    exact ⟨x, y, rfl, rfl, (Option.some.inj h).symm⟩
  | x :: xs, y :: ys, i + 1, v, h => by
    obtain ⟨a, b, h1, h2, h3⟩ := zipV_get (xs := xs) (ys := ys) (i := i) (v := v) (by simpa [zipV] using h)
    exact ⟨a, b, by simpa using h1, by simpa using h2, h3⟩
theorem pair_rep {m : List Addr} {H : Hp} {T : Addr} {x y : V} {u v : Val} (nT : H T = none) (rx : RepV C.g m H u x) (ry : RepV C.g m H v y) (hT : T ∉ m) : RepV C.g m (upd H T (.tup [x, y])) (.tup [u, v]) (.ref T) :=
  ⟨T, [x, y], rfl, .inl ⟨hT, upd_same⟩, ⟨x, [y], rfl, rx.mono (Evo.lay nT), ⟨y, [], rfl, ry.mono (Evo.lay nT), rfl⟩⟩⟩
theorem walks_zip {m : List Addr} {H : Hp} {a b : Addr} {vs ws : List V} {xs ys : List Val} (ha : LAt C.g m H a vs) (r : RepL C.g m H xs vs) (hb : LAt C.g m H b ws) (q : RepL C.g m H ys ws) : Walks C m H (Itz C.g.K a b) (zipV xs ys) := by
  intro m' H' ev i
  have h1 := (ev.lat ha).sq
  have h2 := r.mono ev
  have k1 := (ev.lat hb).sq
  have k2 := q.mono ev
  refine ⟨fun hi => ⟨vs, ws, h1, k1, ?_⟩, fun v hv => ?_⟩
  · rw [zipV_len] at hi
    rw [h2.length, k2.length]
    omega
  · obtain ⟨u, w, g1, g2, rfl⟩ := zipV_get hv
    obtain ⟨x, hx, rx⟩ := h2.get g1
    obtain ⟨y, hy, ry⟩ := k2.get g2
    refine ⟨⟨vs, ws, x, y, h1, k1, hx, hy⟩, fun z H2 ⟨T, x', y', ez, nT, eH, f1, f2⟩ => ?_⟩
    subst ez eH
    cases Option.some.inj (hx.symm.trans (f1 vs h1))
    cases Option.some.inj (hy.symm.trans (f2 ws k1))
    exact ⟨Evo.lay nT, fun h hp => ⟨(hp.lay nT).1, pair_rep nT rx ry (hp.notIn nT)⟩⟩
theorem walks_zipT {m : List Addr} {H : Hp} {a b : Addr} {vs ws : List V} {xs ys : List Val} (ha : TAt C.g m H a vs) (r : RepL C.g m H xs vs) (hb : TAt C.g m H b ws) (q : RepL C.g m H ys ws) : Walks C m H (RZ.ItzT C.g.K a b) (zipV xs ys) := by
  intro m' H' ev i
  have h1 := (ev.tat ha).sq
  have h2 := r.mono ev
  have k1 := (ev.tat hb).sq
  have k2 := q.mono ev
  refine ⟨fun hi => ⟨vs, ws, h1, k1, ?_⟩, fun v hv => ?_⟩
  · rw [zipV_len] at hi
    rw [h2.length, k2.length]
    omega
  · obtain ⟨u, w, g1, g2, rfl⟩ := zipV_get hv
    obtain ⟨x, hx, rx⟩ := h2.get g1
    obtain ⟨y, hy, ry⟩ := k2.get g2
    refine ⟨⟨vs, ws, x, y, h1, k1, hx, hy⟩, fun z H2 ⟨T, x', y', ez, nT, eH, f1, f2⟩ => ?_⟩
    subst ez eH
    cases Option.some.inj (hx.symm.trans (f1 vs h1))
    cases Option.some.inj (hy.symm.trans (f2 ws k1))
    exact ⟨Evo.lay nT, fun h hp => ⟨(hp.lay nT).1, pair_rep nT rx ry (hp.notIn nT)⟩⟩
theorem enuV_len : ∀ (xs : List Val) (i : Int), (enuV i xs).length = xs.length
  | [], i => rfl
  | x :: xs, i => by
    show (enuV (i + 1) xs).length + 1 = xs.length + 1
    rw [enuV_len xs]
theorem enuV_get : ∀ {xs : List Val} {o : Int} {i : Nat} {v : Val}, (enuV o xs)[i]? = some v → ∃ x, xs[i]? = some x ∧ v = .tup [.int (o + i), x]
  | [], o, i, v, h => by simp [enuV] at h
  | x :: xs, o, 0, v, h => by
    have h : some (Val.tup [.int o, x]) = some v := h
    exact ⟨x, rfl, by rw [← Option.some.inj h]; simp⟩
  | x :: xs, o, i + 1, v, h => by
    obtain ⟨a, h1, h3⟩ := enuV_get (xs := xs) (o := o + 1) (i := i) (v := v) (by simpa [enuV] using h)
    refine ⟨a, by simpa using h1, ?_⟩
    rw [h3, show o + 1 + (i : Int) = o + ((i + 1 : Nat) : Int) by omega]
theorem walks_enu {m : List Addr} {H : Hp} {a : Addr} {vs : List V} {xs : List Val} (ha : LAt C.g m H a vs) (r : RepL C.g m H xs vs) : Walks C m H (Ite C.g.K a) (enuV 0 xs) := by
  intro m' H' ev i
  have h1 := (ev.lat ha).sq
  have h2 := r.mono ev
  refine ⟨fun hi => ⟨vs, h1, ?_⟩, fun v hv => ?_⟩
  · rw [enuV_len] at hi
    rw [h2.length]
    exact Nat.le_of_eq hi
  · obtain ⟨u, g1, rfl⟩ := enuV_get hv
    obtain ⟨x, hx, rx⟩ := h2.get g1
    refine ⟨⟨vs, x, h1, hx⟩, fun z H2 ⟨T, x', ez, nT, eH, f1⟩ => ?_⟩
    subst ez eH
    cases Option.some.inj (hx.symm.trans (f1 vs h1))
    rw [Int.zero_add]
    exact ⟨Evo.lay nT, fun h hp => ⟨(hp.lay nT).1, pair_rep (u := .int i) nT rfl rx (hp.notIn nT)⟩⟩
theorem walks_enuT {m : List Addr} {H : Hp} {a : Addr} {vs : List V} {xs : List Val} (ha : TAt C.g m H a vs) (r : RepL C.g m H xs vs) : Walks C m H (Itu C.g.K a) (enuV 0 xs) := by
  intro m' H' ev i
  have h1 := (ev.tat ha).sq
  have h2 := r.mono ev
  refine ⟨fun hi => ⟨vs, h1, ?_⟩, fun v hv => ?_⟩
  · rw [enuV_len] at hi
    rw [h2.length]
    exact hi
  · obtain ⟨u, g1, rfl⟩ := enuV_get hv
    obtain ⟨x, hx, rx⟩ := h2.get g1
    refine ⟨⟨vs, x, h1, hx⟩, fun z H2 ⟨T, x', ez, nT, eH, f1⟩ => ?_⟩
    subst ez eH
    cases Option.some.inj (hx.symm.trans (f1 vs h1))
    rw [Int.zero_add]
    exact ⟨Evo.lay nT, fun h hp => ⟨(hp.lay nT).1, pair_rep (u := .int i) nT rfl rx (hp.notIn nT)⟩⟩
theorem walks_zipM {m : List Addr} {H : Hp} {a b : Addr} {vs ws : List V} {xs ys : List Val} (ha : TAt C.g m H a vs) (r : RepL C.g m H xs vs) (hb : LAt C.g m H b ws) (q : RepL C.g m H ys ws) : Walks C m H (Itm C.g.K a b) (zipV xs ys) := by
  intro m' H' ev i
  have h1 := (ev.tat ha).sq
  have h2 := r.mono ev
  have k1 := (ev.lat hb).sq
  have k2 := q.mono ev
  refine ⟨fun hi => ⟨vs, ws, h1, k1, ?_⟩, fun v hv => ?_⟩
  · rw [zipV_len] at hi
    have e1 := h2.length
    have e2 := k2.length
    omega
  · obtain ⟨u, w, g1, g2, rfl⟩ := zipV_get hv
    obtain ⟨x, hx, rx⟩ := h2.get g1
    obtain ⟨y, hy, ry⟩ := k2.get g2
    refine ⟨⟨vs, ws, x, y, h1, k1, hx, hy⟩, fun z H2 ⟨N, x', y', ez, nT, eH, f1, f2⟩ => ?_⟩
    subst ez eH
    cases Option.some.inj (hx.symm.trans (f1 vs h1))
    cases Option.some.inj (hy.symm.trans (f2 ws k1))
    exact ⟨Evo.lay nT, fun h hp => ⟨(hp.lay nT).1, pair_rep nT rx ry (hp.notIn nT)⟩⟩
theorem s_iZip (ok : Cok g C Wx k c X) {es : E} {n : Str} {p p2 tp : Pos} {y z : Expr} {elts : List Expr} {kk : Nat} (h : (decide (n = ("zip" : Str)) && gloB g.ns n && g.bn.contains n) = true) (he : chkEs g es [y, z] = true) (P : PA X [y, z] (tEs C Wx c es)) :
    PI X (.Tuple elts kk tp) (.Call (.Name n p) [y, z] [] p2) (tI C Wx c (.iZip es)) := by
  simp only [Bool.and_eq_true, decide_eq_true_eq] at h
  obtain ⟨⟨rfl, h2⟩, h3⟩ := h
  obtain ⟨st, sr⟩ := chkEs_cons (env := X.env) he
  refine PI.imp (pi_zip3 (ok.glo h2) (ok.bn _ h3) P st (sr _)) fun s H R => ?_
  rintro ⟨m, l, h, hp, lo, r⟩
  have r : RP C Wx m H s ((evalEs c es l h).bind zipItems) _ := r
  refine ⟨m, l, h, hp, lo, r.bind.imp fun vs h1 m1 H1 ev hp1 q xs rx => ?_⟩
  unfold zipItems at q
  split at q
  · obtain ⟨x0, r0, rfl, rx0, x1, r1, rfl, rx1, rfl⟩ := rx
    obtain ⟨a, vs, rfl, ha, hr⟩ := rx0
    obtain ⟨b, ws, rfl, hb, hq⟩ := rx1
    refine ⟨a, b, vs, ws, rfl, .inr (.inl ⟨by rw [ok.K]; exact ha.sq, by rw [ok.K]; exact hb.sq, ?_⟩)⟩
    rw [ok.K]
    exact q.now hp1 _ (walks_zipT ha hr hb hq)
  · obtain ⟨x0, r0, rfl, rx0, x1, r1, rfl, rx1, rfl⟩ := rx
    obtain ⟨a, vs, rfl, ⟨na, ha⟩, hr⟩ := rx0
    obtain ⟨b, ws, rfl, ⟨nb, hb⟩, hq⟩ := rx1
    refine ⟨a, b, vs, ws, rfl, .inl ⟨SqL.of ha, SqL.of hb, ?_⟩⟩
    rw [ok.K]
    exact q.now hp1 _ (walks_zip (.inl ⟨na, .inl ha⟩) hr (.inl ⟨nb, .inl hb⟩) hq)
  · obtain ⟨x0, r0, rfl, rx0, x1, r1, rfl, rx1, rfl⟩ := rx
    obtain ⟨a, vs, rfl, ha, hr⟩ := rx0
    obtain ⟨b, ws, rfl, ⟨nb, hb⟩, hq⟩ := rx1
    refine ⟨a, b, vs, ws, rfl, .inr (.inr ⟨by rw [ok.K]; exact ha.sq, SqL.of hb, ?_⟩)⟩
    rw [ok.K]
    exact q.now hp1 _ (walks_zipM ha hr (.inl ⟨nb, .inl hb⟩) hq)
  · exact q.elim
theorem s_iEnu (ok : Cok g C Wx k c X) {es : E} {n : Str} {p p2 tp : Pos} {y : Expr} {elts : List Expr} {kk : Nat} (h : (decide (n = ("enumerate" : Str)) && gloB g.ns n && g.bn.contains n) = true) (he : chkEs g es [y] = true) (P : PA X [y] (tEs C Wx c es)) :
    PI X (.Tuple elts kk tp) (.Call (.Name n p) [y] [] p2) (tI C Wx c (.iEnu es)) := by
  simp only [Bool.and_eq_true, decide_eq_true_eq] at h
  obtain ⟨⟨rfl, h2⟩, h3⟩ := h
  obtain ⟨st, sr⟩ := chkEs_cons (env := X.env) he
  refine PI.imp (pi_enu2 (ok.glo h2) (ok.bn _ h3) P st) fun s H R => ?_
  rintro ⟨m, l, h, hp, lo, r⟩
  have r : RP C Wx m H s ((evalEs c es l h).bind enuItems) _ := r
  refine ⟨m, l, h, hp, lo, r.bind.imp fun vs h1 m1 H1 ev hp1 q xs rx => ?_⟩
  unfold enuItems at q
  split at q
  · obtain ⟨x0, r0, rfl, rx0, rfl⟩ := rx
    obtain ⟨a, vs, rfl, ⟨na, ha⟩, hr⟩ := rx0
    refine ⟨a, vs, rfl, .inl ⟨SqL.of ha, ?_⟩⟩
    rw [ok.K]
    exact q.now hp1 _ (walks_enu (.inl ⟨na, .inl ha⟩) hr)
  · obtain ⟨x0, r0, rfl, rx0, rfl⟩ := rx
    obtain ⟨a, vs, rfl, ha, hr⟩ := rx0
    refine ⟨a, vs, rfl, .inr ⟨by rw [ok.K]; exact ha.sq, ?_⟩⟩
    rw [ok.K]
    exact q.now hp1 _ (walks_enuT ha hr)
  · exact q.elim
end
end MP
/-! MP, expressions: parts, comprehensions, and the whole. -/
namespace MP
open PySem L2
section
variable {g : Stc} {C : Gc} {Wx : WX} {k : Nat} {c : Cf} {X : Cx}
/-! ### slices -/
def tO (C : Gc) (Wx : WX) (c : Cf) (e : E) : TO := fun s H Q => ∃ m l h, HpOk C m h H ∧ LocOk C m H l s ∧ RP C Wx m H s (evalO c e l h) fun v h' m' H' => Q v H'
theorem PO.imp {x : Option Expr} {t t' : TO} (h : PO X x t) (f : ∀ s H Q, t' s H Q → t s H Q) : PO X x t' := ⟨fun pins s σ H Q I q => h.run pins s σ H Q I (f _ _ _ q)⟩
theorem s_on : PO X none (tO C Wx c .nl) := PO.imp po_none fun s H Q => by
  rintro ⟨m, l, h, hp, lo, r⟩
  exact r.now hp
theorem s_os {a : E} {y : Expr} (ha : PE X y (tE C Wx c a)) : PO X (some y) (tO C Wx c (.cs a .nl)) := PO.imp (po_some ha) fun s H Q => by
  rintro ⟨m, l, h, hp, lo, r⟩
  unfold evalO at r
  refine ⟨m, l, h, hp, lo, r.bind.imp fun v h1 m1 H1 ev hp1 q x rx => ?_⟩
  cases v with
  | int i =>
    cases (show x = V.int i from rx)
    exact ⟨i, rfl, (show RP C Wx m1 H1 s (.ok (some i) h1) _ from q).now hp1⟩
  | _ => exact (show False from q).elim
theorem RepL.take {m : List Addr} {H : Hp} : ∀ {vs : List Val} {xs : List V} (n : Nat), RepL C.g m H vs xs → RepL C.g m H (vs.take n) (xs.take n)
  | [], xs, n, h => by
    cases (show xs = [] from h)
    rw [List.take_nil, List.take_nil]
    exact rfl
  | v :: vs, xs, 0, h => rfl
  | v :: vs, xs, n + 1, h => by
    obtain ⟨y, r, rfl, h1, h2⟩ := h
    exact ⟨y, r.take n, rfl, h1, RepL.take n h2⟩
theorem RepL.drop {m : List Addr} {H : Hp} : ∀ {vs : List Val} {xs : List V} (n : Nat), RepL C.g m H vs xs → RepL C.g m H (vs.drop n) (xs.drop n)
  | [], xs, n, h => by
    cases (show xs = [] from h)
    rw [List.drop_nil, List.drop_nil]
    exact rfl
  | v :: vs, xs, 0, h => h
  | v :: vs, xs, n + 1, h => by
    obtain ⟨y, r, rfl, h1, h2⟩ := h
    exact RepL.drop n h2
theorem cut_rep {m : List Addr} {H : Hp} {vs : List Val} {xs : List V} {lo hi : Option Int} (r : RepL C.g m H vs xs) : RepL C.g m H (cutL vs lo hi) (cutV xs lo hi) := by
  unfold cutL cutV
  rw [r.length]
  exact (r.drop _).take _
theorem lst_sq {m : List Addr} {h : Heap} {H : Hp} (hp : HpOk C m h H) {v : Val} {x : V} {xs : List Val} (r : RepV C.g m H v x) (e : asL h v = some xs) : ∃ a vs, x = .ref a ∧ SqL C.g.K H a vs ∧ RepL C.g m H xs vs := by
  cases v with
  | lst ys =>
    obtain ⟨a, vs, rfl, ⟨_, ha⟩, hr⟩ := r
    cases e
    exact ⟨a, vs, rfl, SqL.of ha, hr⟩
  | rol ys =>
    obtain ⟨a, vs, rfl, ha, hr⟩ := r
    cases e
    exact ⟨a, vs, rfl, ha.sq, hr⟩
  | ref n =>
    obtain ⟨a, rfl, ha⟩ := r
    have e : (match h[n]? with | some (.lst xs) => some xs | _ => none) = some xs := e
    cases q : h[n]? with
    | none =>
      rw [q] at e
      cases e
    | some o =>
      rw [q] at e
      cases o with
      | lst ys =>
        cases e
        obtain ⟨vs, e1, r1, _⟩ := hp.obj n _ a q ha
        exact ⟨a, vs, rfl, SqL.of e1, r1⟩
      | ins _ _ => cases e
  | _ => cases e
theorem s_rev (ok : Cok g C Wx k c X) {a b : E} {y z : Expr} {p p2 : Pos} (ha : PE X y (tE C Wx c a)) (hb : PE X z (tE C Wx c b)) : PE X (.Subscript y (.Slice none none (some z) p2) p) (tE C Wx c (.rev a b)) :=
  PE.imp (pe_back ha hb) fun s H Q => by
    rintro ⟨m, l, h, hp, lo, r⟩
    unfold evalE at r
    refine ⟨m, l, h, hp, lo, r.bind.imp fun v h1 m1 H1 ev hp1 q x rx => ?_⟩
    refine ⟨m1, l, h1, hp1, lo.mono ev, q.bind.imp fun w h2 m2 H2 ev2 hp2 q2 y ry => ?_⟩
    have rx := rx.mono ev2
    cases e : revO v w with
    | none => rw [e] at q2; exact q2.elim
    | some u =>
      rw [e] at q2
      have q3 : RO C m2 h2 H2 u Q := fun z H' ev' hp' rz => fin2 q2 ev' hp' rz
      cases v with
      | tup xs =>
        cases w with
        | int i =>
          have e : (if i = -1 then some (Val.tup xs.reverse) else none) = some u := e
          by_cases hi : i = -1
          · subst hi
            rw [if_pos rfl] at e
            cases e
            obtain ⟨ad, vs, rfl, ht, hr⟩ := rx
            rw [ok.K]
            exact ⟨ry, ad, vs, rfl, ht.sq, q3.lay hp2 fun p hn hm ev => ⟨p, _, rfl, .inl ⟨hm, upd_same⟩, (RepL.reverse hr).mono ev⟩⟩
          · rw [if_neg hi] at e
            cases e
        | _ => cases e
      | _ => cases e
theorem s_sl (ok : Cok g C Wx k c X) {a lo hi : E} {y : Expr} {x1 x2 : Option Expr} {p p2 : Pos} (ha : PE X y (tE C Wx c a)) (h1 : PO X x1 (tO C Wx c lo)) (h2 : PO X x2 (tO C Wx c hi)) : PE X (.Subscript y (.Slice x1 x2 none p2) p) (tE C Wx c (.sl a lo hi)) :=
  PE.imp (pe_slice (sl_str.or (sl_tupA.or sl_list)) ha h1 h2) fun s H Q => by
    rintro ⟨m, l, h, hp, lo, r⟩
    unfold evalE at r
    refine ⟨m, l, h, hp, lo, r.bind.imp fun v h1 m1 H1 ev hp1 q x rx => ?_⟩
    refine ⟨m1, l, h1, hp1, lo.mono ev, q.bind.imp fun i h2 m2 H2 ev2 hp2 q2 => ?_⟩
    refine ⟨m2, l, h2, hp2, (lo.mono ev).mono ev2, q2.bind.imp fun j h3 m3 H3 ev3 hp3 q3 => ?_⟩
    have rx := (rx.mono ev2).mono ev3
    cases e : slO h3 v i j with
    | none => rw [e] at q3; exact q3.elim
    | some u =>
      rw [e] at q3
      have q3 : RO C m3 h3 H3 u Q := fun z H' ev' hp' rz => fin2 q3 ev' hp' rz
      rw [ok.K]
      have lsts : (asL h3 v).map (fun xs => Val.lst (cutL xs i j)) = some u → rSlL C.g.K x i j H3 Q := fun e => by
        cases e2 : asL h3 v with
        | none => rw [e2] at e; cases e
        | some xs =>
          rw [e2] at e
          cases e
          obtain ⟨ad, vs, rfl, hs, hr⟩ := lst_sq hp3 rx e2
          exact ⟨ad, vs, rfl, hs, q3.lay hp3 fun p hn hm ev => ⟨p, _, rfl, ⟨hm, upd_same⟩, (cut_rep hr).mono ev⟩⟩
      cases v with
      | str z =>
        have e : (if z.length ≤ 16777216 then some (Val.str (cutS z i j)) else none) = some u := e
        by_cases hz : z.length ≤ 16777216
        · rw [if_pos hz] at e
          cases e
          cases (show x = V.str z from rx)
          exact .inl ⟨z, rfl, hz, q3.now hp3 rfl⟩
        · rw [if_neg hz] at e
          cases e
      | tup xs =>
        cases e
        obtain ⟨ad, vs, rfl, ht, hr⟩ := rx
        refine .inr (.inl ⟨ad, vs, rfl, ht.sq, fun hw => ?_, fun _ => q3.lay hp3 fun p hn hm ev => ⟨p, _, rfl, .inl ⟨hm, upd_same⟩, (cut_rep hr).mono ev⟩⟩)
        refine q3.now hp3 ⟨ad, vs, rfl, ht, ?_⟩
        have e9 : cutV vs i j = vs := by
          unfold cutV
          rw [hw.1, hw.2]
          simp
        have z := cut_rep (lo := i) (hi := j) hr
        rw [e9] at z
        exact z
      | non => exact .inr (.inr (lsts e))
      | bl _ => exact .inr (.inr (lsts e))
      | int _ => exact .inr (.inr (lsts e))
      | lst _ => exact .inr (.inr (lsts e))
      | rol _ => exact .inr (.inr (lsts e))
      | dct _ _ => exact .inr (.inr (lsts e))
      | ref _ => exact .inr (.inr (lsts e))
      | ty _ => exact .inr (.inr (lsts e))
      | cls _ => exact .inr (.inr (lsts e))
      | ins _ _ => exact .inr (.inr (lsts e))
/-! ### what a for walks -/
theorem s_iSeq (ok : Cok g C Wx k c X) {tg x : Expr} {e : E} (P : PE X x (tE C Wx c e)) : PI X tg x (tI C Wx c (.iSeq e)) := by
  refine PI.imp (pi_or (pi_list P) (pi_or (pi_tup P) (pi_str P))) fun s H R => ?_
  rintro ⟨m, l, h, hp, lo, r⟩
  have r : RP C Wx m H s ((evalE c e l h).bind seqItems) _ := r
  cases q : evalE c e l h with
  | ok v h1 =>
    rw [q] at r
    cases v with
    | lst xs =>
      refine .inl ⟨m, l, h, hp, lo, ?_⟩
      rw [q]
      intro m' H' ev hp' x rx
      obtain ⟨a, vs, rfl, ⟨na, ha⟩, hr⟩ := rx
      rw [ok.K]
      exact ⟨a, rfl, ⟨vs, SqL.of ha⟩, (show RP C Wx m H s (.ok xs h1) _ from r) m' H' ev hp' _ (walks_list (.inl ⟨na, .inl ha⟩) hr)⟩
    | rol xs =>
      refine .inl ⟨m, l, h, hp, lo, ?_⟩
      rw [q]
      intro m' H' ev hp' x rx
      obtain ⟨a, vs, rfl, ha, hr⟩ := rx
      rw [ok.K]
      exact ⟨a, rfl, ⟨vs, ha.sq⟩, (show RP C Wx m H s (.ok xs h1) _ from r) m' H' ev hp' _ (walks_list ha hr)⟩
    | tup xs =>
      refine .inr (.inl ⟨m, l, h, hp, lo, ?_⟩)
      rw [q]
      intro m' H' ev hp' x rx
      obtain ⟨a, vs, rfl, ha, hr⟩ := rx
      rw [ok.K]
      exact ⟨a, rfl, ⟨vs, ha.sq⟩, (show RP C Wx m H s (.ok xs h1) _ from r) m' H' ev hp' _ (walks_tup ha hr)⟩
    | str z =>
      refine .inr (.inr ⟨m, l, h, hp, lo, ?_⟩)
      rw [q]
      intro m' H' ev hp' x rx
      exact ⟨z, rx, (show RP C Wx m H s (.ok (z.cps.toList.map fun d => Val.str ⟨#[d]⟩) h1) _ from r) m' H' ev hp' _ walks_str⟩
    | _ => exact (show False from r).elim
  | exc c2 v h1 =>
    rw [q] at r
    refine .inl ⟨m, l, h, hp, lo, ?_⟩
    rw [q]
    exact r
  | bad =>
    rw [q] at r
    exact r.elim
theorem evalEs_len : ∀ {es : E} {ys : List Expr} {l : Loc} {h h1 : Heap} {vs : List Val}, chkEs g es ys = true → evalEs c es l h = .ok vs h1 → vs.length = ys.length
  | .nl, [], l, h, h1, vs, _, e => by
    cases e
    rfl
  | .cs a r, y :: ys, l, h, h1, vs, hk, e => by
    have h2 : (notStar y && chkE g a y && chkEs g r ys) = true := hk
    simp only [Bool.and_eq_true] at h2
    unfold evalEs at e
    cases q : evalE c a l h with
    | ok v h3 =>
      rw [q, bind_ok] at e
      cases q2 : evalEs c r l h3 with
      | ok vs2 h4 =>
        rw [q2, bind_ok] at e
        cases e
        show vs2.length + 1 = ys.length + 1
        rw [evalEs_len h2.2 q2]
      | exc _ _ _ => rw [q2] at e; cases e
      | bad => rw [q2] at e; cases e
    | exc _ _ _ => rw [q] at e; cases e
    | bad => rw [q] at e; cases e
theorem s_iRng (ok : Cok g C Wx k c X) {tg : Expr} {es : E} {n : Str} {p p2 : Pos} {ys : List Expr} (h : (decide (n = ("range" : Str)) && gloB g.ns n && g.bn.contains n && (decide (ys.length = 1) || decide (ys.length = 2))) = true) (he : chkEs g es ys = true) (P : PA X ys (tEs C Wx c es)) :
    PI X tg (.Call (.Name n p) ys [] p2) (tI C Wx c (.iRng es)) := by
  simp only [Bool.and_eq_true, Bool.or_eq_true, decide_eq_true_eq] at h
  obtain ⟨⟨⟨h1, h2⟩, h3⟩, h4⟩ := h
  subst h1
  have fin : ∀ s H R, tI C Wx c (.iRng es) s H R → tEs C Wx c es s H fun xs H' => (ys.length = 1 ∧ ∃ j : Int, xs = [.int j] ∧ -(2 ^ 62) ≤ j ∧ j < 2 ^ 62 ∧ R (Itr 0 j.toNat) H') ∨ (ys.length = 2 ∧ ∃ i j : Int, xs = [.int i, .int j] ∧ (-(2 ^ 62) ≤ i ∧ i < 2 ^ 62 ∧ -(2 ^ 62) ≤ j ∧ j < 2 ^ 62) ∧ R (Itr i (j - i).toNat) H') := by
    rintro s H R ⟨m, l, h, hp, lo, r⟩
    have r : RP C Wx m H s ((evalEs c es l h).bind rngItems) _ := r
    refine ⟨m, l, h, hp, lo, ?_⟩
    cases q : evalEs c es l h with
    | bad => rw [q] at r; exact r
    | exc _ _ _ => rw [q] at r; exact r
    | ok vs h1 =>
      rw [q] at r
      have hl := evalEs_len he q
      intro m' H' ev hp' xs rx
      have z := (show RP C Wx m H s (rngItems vs h1) _ from r).weak ev
      unfold rngItems at z
      split at z
      · rename_i j
        obtain ⟨x0, r0, rfl, rx, rfl⟩ := rx
        cases (show x0 = V.int j from rx)
        by_cases cj : j < 2 ^ 62 ∧ -(2 ^ 62) ≤ j
        · rw [if_pos cj] at z
          exact .inl ⟨hl.symm, j, rfl, cj.2, cj.1, z.now hp' _ walks_range⟩
        · rw [if_neg cj] at z
          exact z.elim
      · rename_i i j
        obtain ⟨x0, r0, rfl, rx, x1, r1, rfl, rx1, rfl⟩ := rx
        cases (show x0 = V.int i from rx)
        cases (show x1 = V.int j from rx1)
        by_cases cj : (j < 2 ^ 62 ∧ -(2 ^ 62) ≤ j) ∧ i < 2 ^ 62 ∧ -(2 ^ 62) ≤ i
        · rw [if_pos cj] at z
          exact .inr ⟨hl.symm, i, j, rfl, ⟨cj.2.2, cj.2.1, cj.1.2, cj.1.1⟩, z.now hp' _ walks_range⟩
        · rw [if_neg cj] at z
          exact z.elim
      · exact z.elim
  have mono : ∀ s H (Q Q' : List V → Hp → Prop), (∀ xs H', Q xs H' → Q' xs H') → tEs C Wx c es s H Q → tEs C Wx c es s H Q' := by
    rintro s H Q Q' f ⟨m, l, h, hp, lo, r⟩
    exact ⟨m, l, h, hp, lo, r.imp fun v h1 m1 H1 ev hp1 q x rx => f _ _ (q x rx)⟩
  rcases h4 with h4 | h4
  · match ys, h4, he, P, fin with
    | [y], _, he, P, fin =>
      have st := (chkEs_cons (env := X.env) he).1
      refine PI.imp (pi_range1 (ok.glo h2) (ok.bn _ h3) P st) fun s H R z => mono _ _ _ _ (fun xs H' q => ?_) (fin s H R z)
      rcases q with q | q
      · exact q.2
      · cases q.1
  · match ys, h4, he, P, fin with
    | [y, y2], _, he, P, fin =>
      cases es with
      | cs a r =>
        have he2 : (notStar y && chkE g a y && chkEs g r [y2]) = true := he
        simp only [Bool.and_eq_true] at he2
        have st2 : starEach [y2] X.env = [(false, eval y2 X.env)] := (chkEs_cons (env := X.env) he2.2).1
        have st : starEach [y, y2] X.env = [(false, eval y X.env), (false, eval y2 X.env)] := by
          rw [(chkEs_cons (env := X.env) he).1, st2]
        refine PI.imp (pi_range2 (ok.glo h2) (ok.bn _ h3) P st st2) fun s H R z => mono _ _ _ _ (fun xs H' q => ?_) (fin s H R z)
        rcases q with q | q
        · cases q.1
        · exact q.2
      | _ => cases he
/-! ### comprehensions -/
abbrev W0 : WX := fun _ _ _ _ => False
theorem RP.noX {A : Type} {m : List Addr} {H : Hp} {s' : St} {r : Res A} {Q : A → Heap → List Addr → Hp → Prop} {a : A} {h : Heap} (e : r.noX = .ok a h) (f : ∀ m' H', Evo m H m' H' → HpOk C m' h H' → Q a h m' H') : RP C Wx m H s' r Q := by
  cases r with
  | ok a2 h2 => cases e; exact f
  | exc _ _ _ => cases e
  | bad => cases e
theorem wipe_loc {m : List Addr} {H : Hp} {l : Loc} {s : St} (hx : C.xs = none) (lo : LocOk C m H l s) : ∀ vs : List Nat, LocOk C m H (wipeL l vs) (wipe s vs)
  | [] => lo
  | v :: vs => by
    have ih := wipe_loc hx lo vs
    refine ⟨by show ((wipeL l vs).set v none).length = ((wipe s vs).set v none).length; simp [ih.len], fun i w q => ?_, fun i a z => by rw [hx] at z; cases z⟩
    have q : ((wipeL l vs).set v none)[i]? = some (some w) := q
    show ∃ x, ((wipe s vs).set v none)[i]? = some (some x) ∧ _
    by_cases hi : v = i
    · subst hi
      by_cases hl : v < (wipeL l vs).length
      · rw [List.getElem?_set_self hl] at q
        cases q
      · rw [List.getElem?_eq_none (by simpa using hl)] at q
        cases q
    · rw [List.getElem?_set_ne hi] at q ⊢
      exact ih.get i w q
theorem wipe_none {s : St} {j : Nat} : ∀ {vs : List Nat}, j ∈ vs → j < s.length → (wipe s vs)[j]? = some none
  | [], h, _ => by cases h
  | v :: vs, h, hl => by
    show ((wipe s vs).set v none)[j]? = _
    by_cases hv : v = j
    · subst hv
      rw [List.getElem?_set_self (by rw [wipe_length]; exact hl)]
    · rw [List.getElem?_set_ne hv]
      rcases List.mem_cons.mp h with z | z
      · exact absurd z.symm hv
      · exact wipe_none z hl
theorem wipe_wipe {s : St} {vs : List Nat} : wipe (wipe s vs) vs = wipe s vs := by
  refine List.ext_getElem? fun j => ?_
  by_cases hl : j < s.length
  · by_cases hj : j ∈ vs
    · rw [wipe_none hj (by rw [wipe_length]; exact hl), wipe_none hj hl]
    · rw [wipe_out hj]
  · rw [List.getElem?_eq_none (by rw [wipe_length, wipe_length]; omega), List.getElem?_eq_none (by rw [wipe_length]; omega)]
/-- the tests of a comprehension -/
def tIfs (C : Gc) (c : Cf) (e : E) : TT := tT C W0 c e
theorem lc_sub {b : Bool} {t : T} {own : List Nat} {it cd elt : E} (c0 : C = gc0 C.g) (ho : ∀ i ∈ tgSlots t, i ∈ own) (s : St) (H : Hp) (Q : VK) (z : tE C Wx c (.lc b t own it cd elt) s H Q) : tLc (tI C Wx c it) (gT C t) (tT C W0 c cd) (tE C W0 c elt) own s H Q := by
  have hxs : C.xs = none := by rw [c0]; rfl
  obtain ⟨m, l, h, hp, lo, r⟩ := z
  unfold evalE at r
  refine ⟨m, l, h, hp, lo, r.bind.imp fun xs h1 m1 H1 ev1 hp1 q1 J wk D hD => ?_⟩
  have lo1 := lo.mono ev1
  cases hc : compL (evalT c cd) (evalE c elt) t (wipeL l own) h1.length xs (h1 ++ [.lst []]) with
  | exc c9 v9 h9 =>
    exfalso
    have nox : ∀ (ys : List Val) (hh : Heap), compL (evalT c cd) (evalE c elt) t (wipeL l own) h1.length ys hh ≠ .exc c9 v9 h9 := by
      intro ys
      induction ys with
      | nil => exact fun hh e => by cases e
      | cons y ys ih =>
        intro hh e
        unfold compL at e
        cases e1 : store t y (wipeL l own) with
        | none => rw [e1] at e; cases e
        | some l1 =>
          rw [e1, opt_some] at e
          cases e2 : (evalT c cd l1 hh) with
          | exc _ _ _ => rw [e2] at e; cases e
          | bad => rw [e2] at e; cases e
          | ok bb hh2 =>
            rw [e2, noX_ok, bind_ok] at e
            cases bb with
            | false =>
              rw [if_neg Bool.false_ne_true] at e
              exact ih _ e
            | true =>
              rw [if_pos rfl] at e
              cases e3 : evalE c elt l1 hh2 with
              | exc _ _ _ => rw [e3] at e; cases e
              | bad => rw [e3] at e; cases e
              | ok vv hh3 =>
                rw [e3, noX_ok, bind_ok] at e
                cases e4 : appO hh3 h1.length vv with
                | none => rw [e4] at e; cases e
                | some hh4 =>
                  rw [e4, opt_some] at e
                  exact ih _ e
    exact nox _ _ hc
  | bad =>
    rw [hc] at q1
    exact q1.elim
  | ok uu h2 =>
    rw [hc, bind_ok] at q1
    obtain ⟨hp2, ev2⟩ := hp1.grow (xs := []) (vs := []) hD rfl rfl
    have nD : D ∉ m1 := hp1.notIn hD
    refine ⟨fun i n H => n = xs.length - i ∧ i ≤ xs.length ∧ ∃ m h, Evo (m1 ++ [D]) (upd H1 D (.lst [])) m H ∧ HpOk C m h H ∧ compL (evalT c cd) (evalE c elt) t (wipeL l own) h1.length (xs.drop i) h = .ok uu h2, ⟨xs.length, rfl, Nat.zero_le _, m1 ++ [D], h1 ++ [.lst []], Evo.refl _ _, hp2, by rw [List.drop_zero]; exact hc⟩, ?_⟩
    rintro i n H2 ⟨rfl, hi, m2, hh, ev3, hp3, hcc⟩
    have evA : Evo m1 H1 m2 H2 := ev2.trans ev3
    have hD2 : m2[h1.length]? = some D := ev3.ix (by rw [← hp1.len]; simp)
    obtain ⟨w1, w2⟩ := wk m2 H2 evA i
    by_cases hl : i < xs.length
    · obtain ⟨g1, g2⟩ := w2 xs[i] (List.getElem?_eq_getElem hl)
      rw [List.drop_eq_getElem_cons hl] at hcc
      unfold compL at hcc
      cases e1 : store t xs[i] (wipeL l own) with
      | none => rw [e1] at hcc; cases hcc
      | some l1 =>
        rw [e1, opt_some] at hcc
        refine .inr ⟨g1, fun H' => ∃ m h, Evo (m1 ++ [D]) (upd H1 D (.lst [])) m H' ∧ HpOk C m h H' ∧ compL (evalT c cd) (evalE c elt) t (wipeL l own) h1.length (xs.drop (i + 1)) h = .ok uu h2, ?_, ?_⟩
        · rintro H' ⟨m', h', z⟩
          exact ⟨xs.length - (i + 1), by omega, rfl, hl, m', h', z⟩
        · intro y H3 hy
          obtain ⟨ev4, hh4⟩ := g2 y H3 hy
          have rv := (hh4 _ hp3).2
          have lo3 := wipe_loc hxs ((lo1.mono evA).mono ev4) own
          refine ⟨m2, wipeL l own, xs[i], l1, lo3, rv, e1, fun s' lo' on => ⟨?_, ?_⟩⟩
          · rw [on own ho, wipe_wipe]
          cases e2 : (evalT c cd l1 hh).noX with
          | exc _ _ _ => rw [e2] at hcc; cases hcc
          | bad => rw [e2] at hcc; cases hcc
          | ok bb hh2 =>
            rw [e2, bind_ok] at hcc
            refine ⟨m2, l1, hh, (hh4 _ hp3).1, lo', RP.noX e2 fun m5 H5 ev5 hp5 => ?_⟩
            have lo5 := lo'.mono ev5
            cases bb with
            | false =>
              rw [if_neg Bool.false_ne_true] at hcc
              dsimp only
              rw [if_neg Bool.false_ne_true]
              exact ⟨m5, hh2, (ev3.trans ev4).trans ev5, hp5, hcc⟩
            | true =>
              rw [if_pos rfl] at hcc
              dsimp only
              rw [if_pos rfl]
              cases e3 : (evalE c elt l1 hh2).noX with
              | exc _ _ _ => rw [e3] at hcc; cases hcc
              | bad => rw [e3] at hcc; cases hcc
              | ok vv hh3 =>
                rw [e3, bind_ok] at hcc
                refine ⟨m5, l1, hh2, hp5, lo5, RP.noX e3 fun m6 H6 ev6 hp6 x rx => ?_⟩
                cases e4 : appO hh3 h1.length vv with
                | none => rw [e4] at hcc; cases hcc
                | some hh4 =>
                  rw [e4, opt_some] at hcc
                  have hD6 : m6[h1.length]? = some D := ev6.ix (ev5.ix (ev4.ix hD2))
                  obtain ⟨us, u1, u2, u3⟩ := app_in hp6 hD6 rx e4
                  refine ⟨us, u1, Nat.lt_of_lt_of_le u2 (by decide), m6, hh4, ?_, u3, hcc⟩
                  exact (((ev3.trans ev4).trans ev5).trans ev6).trans (Evo.put hD6)
    · have e : i = xs.length := by omega
      subst e
      rw [List.drop_length] at hcc
      cases hcc
      refine .inl ⟨w1 (rfl), ?_⟩
      unfold compF at q1
      cases b with
      | true =>
        rw [if_pos rfl] at q1
        exact q1 m2 H2 evA hp3 _ ⟨D, rfl, hD2⟩
      | false =>
        rw [if_neg Bool.false_ne_true] at q1
        split at q1
        · rename_i ys hy
          obtain ⟨vs, e1, r1, p1⟩ := hp3.obj _ _ D hy hD2
          obtain ⟨n9, en⟩ := evA.pre
          have t := trim_ok (s := []) (l1 := []) hxs evA hp1 hp3 ⟨rfl, (fun i v z => by simp at z), fun i a z => by rw [hxs] at z; cases z⟩
          refine q1 m1 H2 t.1 t.2.1 _ ⟨D, vs, rfl, ⟨nD, e1⟩, ?_⟩
          exact r1.place (fun b o _ nb z => nb (by rw [en]; exact List.mem_append_left _ z)) (fun n a hn => absurd hn (Nat.not_lt_zero n)) p1
        · exact q1.elim
theorem relab_eq {sc : Scope} {env : Env} {ns : List (Str × NameKind)} (hk : env.scope.kind = .function) (hn : env.scope.names = ns) : (relabel sc env).names = relab ns sc.names := by
  unfold relabel relab Env.kindOf
  rw [hk, hn]
  show sc.names.map _ = sc.names.map _
  congr 1
  funext ⟨n, k⟩
  have e : (ScopeKind.function == ScopeKind.function) = true := rfl
  simp [e]
theorem relab_loc {ns : List (Str × NameKind)} {q : NameKind} (hq : q = .local ∨ q = .cell) : ∀ {names : List (Str × NameKind)} {x : Str}, names.lookup x = some q → (relab ns names).lookup x = some q
  | [], _, h => by simp at h
  | (n, k) :: r, x, h => by
    have ih := @relab_loc ns q hq r x
    show List.lookup x ((if (k == NameKind.free && ns.lookup n == some .cell) = true then (n, NameKind.cell) else (n, k)) :: relab ns r) = _
    cases hx : x == n with
    | true =>
      simp only [List.lookup_cons, hx] at h
      cases h
      have e : (q == NameKind.free) = false := by rcases hq with rfl | rfl <;> rfl
      simp [List.lookup_cons, hx, e]
    | false =>
      simp only [List.lookup_cons, hx] at h
      by_cases hc : (k == NameKind.free && ns.lookup n == some .cell) = true
      · rw [if_pos hc]
        simp only [List.lookup_cons, hx]
        exact ih h
      · rw [if_neg hc]
        simp only [List.lookup_cons, hx]
        exact ih h
theorem Cok.blk (ok : Cok g C Wx k c X) (hh : g.hot = false) {sc : Scope} (hk : sc.kind = .function) (s : Shared) (H : Hp) (a : Addr) (cl : List (Str × Addr)) (fp : List Addr) : Cok ⟨g.N, relab g.ns sc.names, sc.names, g.fn, g.bn, g.gl, g.cn, g.hot, g.xi⟩ C W0 k c (X.blk s H sc (compEnvC sc cl a X.env) fp) := by
  have e : (relabel sc X.env).names = relab g.ns sc.names := relab_eq ok.kd ok.ns
  refine { K := ok.K, N := ok.N, nd := ok.nd, ns := e, kd := hk, calm := ok.calm, un := ok.un, room := ok.room, gd := ok.gd, tk := takes0, po := PassesOwn.never, fnc := fun x hx => ?_, bn := ok.bn, tb := ok.tb, lv := ok.lv, gl := ok.gl, c0 := ok.c0, wd := ok.wd, cn := ok.cn, fn := ok.fn, fok := ok.fok, fok1 := ok.fok1, mtl := ok.mtl, hx := fun z => by rw [hh] at z; cases z }
  have hx : locCB sc.names x = true := hx
  show ((relabel sc X.env).names.lookup x = some .local ∨ (relabel sc X.env).names.lookup x = some .cell) ∧ ((sc.names.lookup x == some .cell) = true ∨ (relabel sc X.env).names.lookup x = some .local)
  rw [e]
  unfold locCB at hx
  split at hx
  · rename_i q
    exact ⟨.inl (relab_loc (.inl rfl) q), .inr (relab_loc (.inl rfl) q)⟩
  · rename_i q
    exact ⟨.inr (relab_loc (.inr rfl) q), .inl (by rw [q]; rfl)⟩
  · cases hx
theorem own_map {f : Nat → Str} : ∀ {own : List Nat}, (own.map fun i => (f i, i)).map (·.2) = own
  | [] => rfl
  | i :: own => by
    show i :: _ = i :: _
    rw [own_map]
theorem blk_ok (ok : Cok g C Wx k c X) {sc : Scope} {own : List (Str × Nat)} (h : blkC g.N ⟨.function, g.ns, false, false, []⟩ sc own = true) : BlkOk X.N X.env.scope sc own := by
  have z := blkOk_by h
  refine ⟨z.kind, z.uniq, by rw [ok.N]; exact z.ix, fun y hy e => ?_, fun y hy e => by rw [ok.N]; exact z.own y hy e⟩
  rw [ok.ns]
  exact z.free y hy e
def isBool : Expr → Bool
  | .BoolOp _ _ _ => true
  | _ => false
mutual
theorem sndE_ : ∀ (e : E) (g : Stc) (Wx : WX) (X : Cx) (ok : Cok g C Wx k c X) (x : Expr), chkE g e x = true → PE X x (tE C Wx c e)
  | .var i, g, Wx, X, ok, x, h => by
    unfold chkE at h
    split at h
    · exact s_var ok h
    · cases h
  | .con v, g, Wx, X, ok, x, h => s_con ok h
  | .glo y, g, Wx, X, ok, x, h => by
    unfold chkE at h
    split at h
    · exact s_glo ok h
    · cases h
  | .d0, g, Wx, X, ok, x, h => by
    unfold chkE at h
    split at h
    · exact s_d0
    · cases h
  | .d1 kk v, g, Wx, X, ok, x, h => by
    unfold chkE at h
    split at h
    · rw [Bool.and_eq_true] at h
      exact s_d1 h.1 h.2
    · cases h
  | .chn o1 o2 a b d, g, Wx, X, ok, x, h => by
    unfold chkE at h
    split at h
    · simp only [Bool.and_eq_true, decide_eq_true_eq] at h
      obtain ⟨⟨⟨⟨⟨⟨h1, h2⟩, h3⟩, h4⟩, h5⟩, h6⟩, h7⟩ := h
      subst h1 h2
      exact s_chn ok h4 (sndE_ a _ _ _ ok _ h5) (sndE_ b _ _ _ ok _ h6) (sndE_ d _ _ _ ok _ h7)
    · cases h
  | .sl a lo hi, g, Wx, X, ok, x, h => by
    unfold chkE at h
    split at h
    · simp only [Bool.and_eq_true] at h
      exact s_sl ok (sndE_ a _ _ _ ok _ h.1.1) (sndO_ lo _ _ _ ok _ h.1.2) (sndO_ hi _ _ _ ok _ h.2)
    · cases h
  | .lc b t own it cd elt, g, Wx, X, ok, x, h => by
    unfold chkE at h
    split at h
    · rename_i z tg itx ifs sc p
      simp only [Bool.and_eq_true] at h
      obtain ⟨⟨⟨⟨⟨⟨⟨⟨⟨hh, ht⟩, h1⟩, h2⟩, h3⟩, h4⟩, h5⟩, h6⟩, h7⟩, h8⟩ := h
      rw [Bool.not_eq_true'] at hh
      have bo := blk_ok ok h1
      have ho : ∀ i ∈ tgSlots t, i ∈ own := fun i hi => by
        rw [List.all_eq_true] at h3
        simpa using h3 i hi
      refine PE.imp (pe_lc (own := own.map fun i => (g.N.getD i (Str.ofString ""), i)) (ok.calm hh) (by rw [ok.N]; exact ok.nd) (sndI_ it _ _ _ ok itx h5 tg ht) bo
        (fun s H a cl fp => sndTg (ok.blk hh bo.kind s H a cl fp) t tg h6) (fun s H a cl fp => sndIfs_ cd _ _ _ (ok.blk hh bo.kind s H a cl fp) ifs h7) (fun s H a cl fp => sndE_ elt _ _ _ (ok.blk hh bo.kind s H a cl fp) z h8) (fold_no h4)) fun s H Q z => ?_
      rw [own_map]
      exact lc_sub (ok.c0 hh) ho s H Q z
    · cases h
  | .bt t, g, Wx, X, ok, x, h => by
    unfold chkE at h
    split at h
    · exact s_bt ok h
    · cases h
  | .nl, g, Wx, X, ok, x, h => by cases h
  | .cs a r, g, Wx, X, ok, x, h => by cases h
  | .tup es, g, Wx, X, ok, x, h => by
    unfold chkE at h
    split at h
    · exact s_tup (sndEs_ es _ _ _ ok _ h)
    · cases h
  | .lst b es, g, Wx, X, ok, x, h => by
    unfold chkE at h
    split at h
    · exact s_lst (sndEs_ es _ _ _ ok _ h)
    · cases h
  | .bin op a b, g, Wx, X, ok, x, h => by
    unfold chkE at h
    split at h
    · simp only [Bool.and_eq_true, decide_eq_true_eq] at h
      obtain ⟨⟨h1, h2⟩, h3⟩ := h
      subst h1
      exact s_bin ok (sndE_ a _ _ _ ok _ h2) (sndE_ b _ _ _ ok _ h3)
    · cases h
  | .neg a, g, Wx, X, ok, x, h => by
    unfold chkE at h
    split at h
    · exact s_neg (sndE_ a _ _ _ ok _ h)
    · cases h
  | .cmp op a b, g, Wx, X, ok, x, h => by
    unfold chkE at h
    split at h
    · simp only [Bool.and_eq_true, decide_eq_true_eq] at h
      obtain ⟨⟨⟨h1, h2⟩, h3⟩, h4⟩ := h
      subst h1
      exact s_cmp ok h2 (sndE_ a _ _ _ ok _ h3) (sndE_ b _ _ _ ok _ h4)
    · cases h
  | .and a b, g, Wx, X, ok, x, h => by
    unfold chkE at h
    split at h
    · rename_i y ys p
      simp only [Bool.and_eq_true] at h
      obtain ⟨h1, h2⟩ := h
      cases ys with
      | nil => cases h2
      | cons z zs =>
        cases zs with
        | nil => exact s_and (sndE_ a _ _ _ ok _ h1) (pe_one (sndE_ b _ _ _ ok _ h2))
        | cons w ws => exact s_and (sndE_ a _ _ _ ok _ h1) (sndE_ b _ _ _ ok _ h2)
    · cases h
  | .or a b, g, Wx, X, ok, x, h => by
    unfold chkE at h
    split at h
    · rename_i y ys p
      simp only [Bool.and_eq_true] at h
      obtain ⟨h1, h2⟩ := h
      cases ys with
      | nil => cases h2
      | cons z zs =>
        cases zs with
        | nil => exact s_or (sndE_ a _ _ _ ok _ h1) (pe_one (sndE_ b _ _ _ ok _ h2))
        | cons w ws => exact s_or (sndE_ a _ _ _ ok _ h1) (sndE_ b _ _ _ ok _ h2)
    · cases h
  | .not a, g, Wx, X, ok, x, h => by
    unfold chkE at h
    split at h
    · exact s_not (sndE_ a _ _ _ ok _ h)
    · cases h
  | .tst e, g, Wx, X, ok, x, h => by cases h
  | .rev a s, g, Wx, X, ok, x, h => by
    unfold chkE at h
    split at h
    · rw [Bool.and_eq_true] at h
      exact s_rev ok (sndE_ a _ _ _ ok _ h.1) (sndE_ s _ _ _ ok _ h.2)
    · cases h
  | .ife t a b, g, Wx, X, ok, x, h => by
    unfold chkE at h
    split at h
    · simp only [Bool.and_eq_true] at h
      obtain ⟨⟨h1, h2⟩, h3⟩ := h
      exact s_ife (sndT_ t _ _ _ ok _ h1).1 (sndE_ a _ _ _ ok _ h2) (sndE_ b _ _ _ ok _ h3)
    · cases h
  | .cal f es, g, Wx, X, ok, x, h => by
    unfold chkE at h
    split at h
    · rw [Bool.and_eq_true] at h
      exact s_cal ok h.1 h.2 (sndEs_ es _ _ _ ok _ h.2)
    · cases h
  | .bi f es, g, Wx, X, ok, x, h => by
    unfold chkE at h
    split at h
    · rw [Bool.and_eq_true] at h
      exact s_bi ok h.1 h.2 (sndEs_ es _ _ _ ok _ h.2)
    · cases h
  | .bm b o es, g, Wx, X, ok, x, h => by
    unfold chkE at h
    split at h
    · simp only [Bool.and_eq_true, decide_eq_true_eq] at h
      obtain ⟨⟨⟨⟨⟨a0, a1⟩, a2⟩, a3⟩, a4⟩, a5⟩ := h
      exact s_bm ok (by rw [a2]; simp [a1, a3]) a4 (sndE_ o _ _ _ ok _ a5)
    · rename_i a r y n ap z zs cp
      simp only [Bool.and_eq_true, decide_eq_true_eq, Bool.not_eq_true'] at h
      obtain ⟨⟨⟨⟨⟨⟨⟨a0, a1⟩, a2⟩, a3⟩, a4⟩, a5⟩, a6⟩, ⟨a7, a8⟩, a9⟩ := h
      have he : chkEs g (.cs a r) (z :: zs) = true := by
        show (notStar z && chkE g a z && chkEs g r zs) = true
        rw [a7, a8, a9]
        rfl
      exact s_bm1 ok (by rw [a2]; simp [a1, a3]) a4 a5 (sndE_ o _ _ _ ok _ a6) he (s_cs a7 (sndE_ a _ _ _ ok _ a8) (sndEs_ r _ _ _ ok _ a9))
    · cases h
  | .ix a b, g, Wx, X, ok, x, h => by
    unfold chkE at h
    split at h
    · simp only [Bool.and_eq_true] at h
      obtain ⟨⟨h1, h2⟩, h3⟩ := h
      exact s_ix ok h1 (sndE_ a _ _ _ ok _ h2) (sndE_ b _ _ _ ok _ h3)
    · cases h
  | .iSeq e, g, Wx, X, ok, x, h => by cases h
  | .iRng es, g, Wx, X, ok, x, h => by cases h
  | .iZip es, g, Wx, X, ok, x, h => by cases h
  | .iEnu es, g, Wx, X, ok, x, h => by cases h
  | .cl i, g, Wx, X, ok, x, h => by
    unfold chkE at h
    split at h
    · exact s_cl ok h
    · cases h
  | .new b j es, g, Wx, X, ok, x, h => by
    unfold chkE at h
    split at h
    · rw [Bool.and_eq_true] at h
      exact s_new ok h.1 h.2 (sndEs_ es _ _ _ ok _ h.2)
    · cases h
  | .fld o f, g, Wx, X, ok, x, h => by
    unfold chkE at h
    split at h
    · rw [Bool.and_eq_true] at h
      exact s_fld ok h.1 (sndE_ o _ _ _ ok _ h.2)
    · cases h
  | .mth mn o es, g, Wx, X, ok, x, h => by
    unfold chkE at h
    split at h
    · rw [Bool.and_eq_true, Bool.and_eq_true] at h
      exact s_mth ok h.1.1 (sndE_ o _ _ _ ok _ h.1.2) h.2 (sndEs_ es _ _ _ ok _ h.2)
    · cases h
  | .xf i f, g, Wx, X, ok, x, h => by
    unfold chkE at h
    split at h
    · exact s_xf ok h
    · cases h
  | .xi i j, g, Wx, X, ok, x, h => by
    unfold chkE at h
    split at h
    · exact s_xi ok h
    · cases h
  | .tm m o a, g, Wx, X, ok, x, h => by
    unfold chkE at h
    split at h
    · rw [Bool.and_eq_true, Bool.and_eq_true] at h
      exact s_tm ok h.1.1 (sndE_ o _ _ _ ok _ h.1.2) (sndE_ a _ _ _ ok _ h.2)
    · cases h
  | .itx a, g, Wx, X, ok, x, h => by
    unfold chkE at h
    split at h
    · rw [Bool.and_eq_true] at h
      exact s_itx ok h.1 (sndE_ a _ _ _ ok _ h.2)
    · cases h
  | .fmt a, g, Wx, X, ok, x, h => by
    unfold chkE at h
    split at h
    · exact s_fmt (sndE_ a _ _ _ ok _ h)
    · cases h
  | .fst es, g, Wx, X, ok, x, h => by
    unfold chkE at h
    split at h
    · rw [Bool.and_eq_true] at h
      exact s_fst h.1 (sndJ_ es _ _ _ ok _ h.2)
    · cases h
  | .lH a, g, Wx, X, ok, x, h => by
    unfold chkE at h
    split at h
    · rw [Bool.and_eq_true] at h
      exact s_lH ok h.1 (sndE_ a _ _ _ ok _ h.2)
    · cases h
  | .isC a j, g, Wx, X, ok, x, h => by
    unfold chkE at h
    split at h
    · rw [Bool.and_eq_true] at h
      exact s_isC ok h.1 (sndE_ a _ _ _ ok _ h.2)
    · cases h
  | .xiT i e, g, Wx, X, ok, x, h => by
    unfold chkE at h
    split at h
    · rw [Bool.and_eq_true] at h
      exact s_xiT ok h.1 (sndE_ e _ _ _ ok _ h.2)
    · cases h
  | .xt i t, g, Wx, X, ok, x, h => by
    unfold chkE at h
    split at h
    · exact s_xt ok h
    · cases h
theorem sndEs_ : ∀ (e : E) (g : Stc) (Wx : WX) (X : Cx) (ok : Cok g C Wx k c X) (x : List Expr), chkEs g e x = true → PA X x (tEs C Wx c e)
  | .nl, g, Wx, X, ok, x, h => by
    cases x with
    | nil => exact s_nl
    | cons y ys => cases h
  | .cs a r, g, Wx, X, ok, x, h => by
    cases x with
    | nil => cases h
    | cons y ys =>
      have h2 : (notStar y && chkE g a y && chkEs g r ys) = true := h
      simp only [Bool.and_eq_true] at h2
      exact s_cs h2.1.1 (sndE_ a _ _ _ ok _ h2.1.2) (sndEs_ r _ _ _ ok _ h2.2)
  | .var _, g, Wx, X, ok, x, h | .con _, g, Wx, X, ok, x, h | .bt _, g, Wx, X, ok, x, h | .glo _, g, Wx, X, ok, x, h | .d0, g, Wx, X, ok, x, h | .d1 _ _, g, Wx, X, ok, x, h | .chn _ _ _ _ _, g, Wx, X, ok, x, h | .sl _ _ _, g, Wx, X, ok, x, h | .lc _ _ _ _ _ _, g, Wx, X, ok, x, h | .tup _, g, Wx, X, ok, x, h | .lst _ _, g, Wx, X, ok, x, h | .bin _ _ _, g, Wx, X, ok, x, h | .neg _, g, Wx, X, ok, x, h | .cmp _ _ _, g, Wx, X, ok, x, h | .and _ _, g, Wx, X, ok, x, h | .or _ _, g, Wx, X, ok, x, h | .not _, g, Wx, X, ok, x, h | .tst _, g, Wx, X, ok, x, h | .ife _ _ _, g, Wx, X, ok, x, h
  | .cal _ _, g, Wx, X, ok, x, h | .bi _ _, g, Wx, X, ok, x, h | .bm _ _ _, g, Wx, X, ok, x, h | .rev _ _, g, Wx, X, ok, x, h | .isC _ _, g, Wx, X, ok, x, h | .xiT _ _, g, Wx, X, ok, x, h | .lH _, g, Wx, X, ok, x, h | .tm _ _ _, g, Wx, X, ok, x, h | .itx _, g, Wx, X, ok, x, h | .fmt _, g, Wx, X, ok, x, h | .fst _, g, Wx, X, ok, x, h | .ix _ _, g, Wx, X, ok, x, h | .iSeq _, g, Wx, X, ok, x, h | .iRng _, g, Wx, X, ok, x, h | .iZip _, g, Wx, X, ok, x, h | .iEnu _, g, Wx, X, ok, x, h | .cl _, g, Wx, X, ok, x, h | .new _ _ _, g, Wx, X, ok, x, h | .fld _ _, g, Wx, X, ok, x, h | .mth _ _ _, g, Wx, X, ok, x, h | .xf _ _, g, Wx, X, ok, x, h | .xi _ _, g, Wx, X, ok, x, h | .xt _ _, g, Wx, X, ok, x, h => by cases h
theorem sndJ_ : ∀ (e : E) (g : Stc) (Wx : WX) (X : Cx) (ok : Cok g C Wx k c X) (x : List Expr), chkEs g e x = true → PJ X x (tsE C Wx c e)
  | .nl, g, Wx, X, ok, x, h => by
    cases x with
    | nil => exact .nil
    | cons y ys => cases h
  | .cs a r, g, Wx, X, ok, x, h => by
    cases x with
    | nil => cases h
    | cons y ys =>
      have h2 : (notStar y && chkE g a y && chkEs g r ys) = true := h
      simp only [Bool.and_eq_true] at h2
      exact .cons (sndE_ a _ _ _ ok _ h2.1.2) (sndJ_ r _ _ _ ok _ h2.2)
  | .var _, g, Wx, X, ok, x, h | .con _, g, Wx, X, ok, x, h | .bt _, g, Wx, X, ok, x, h | .glo _, g, Wx, X, ok, x, h | .d0, g, Wx, X, ok, x, h | .d1 _ _, g, Wx, X, ok, x, h | .chn _ _ _ _ _, g, Wx, X, ok, x, h | .sl _ _ _, g, Wx, X, ok, x, h | .lc _ _ _ _ _ _, g, Wx, X, ok, x, h | .tup _, g, Wx, X, ok, x, h | .lst _ _, g, Wx, X, ok, x, h | .bin _ _ _, g, Wx, X, ok, x, h | .neg _, g, Wx, X, ok, x, h | .cmp _ _ _, g, Wx, X, ok, x, h | .and _ _, g, Wx, X, ok, x, h | .or _ _, g, Wx, X, ok, x, h | .not _, g, Wx, X, ok, x, h | .tst _, g, Wx, X, ok, x, h | .ife _ _ _, g, Wx, X, ok, x, h
  | .cal _ _, g, Wx, X, ok, x, h | .bi _ _, g, Wx, X, ok, x, h | .bm _ _ _, g, Wx, X, ok, x, h | .rev _ _, g, Wx, X, ok, x, h | .isC _ _, g, Wx, X, ok, x, h | .xiT _ _, g, Wx, X, ok, x, h | .lH _, g, Wx, X, ok, x, h | .tm _ _ _, g, Wx, X, ok, x, h | .itx _, g, Wx, X, ok, x, h | .fmt _, g, Wx, X, ok, x, h | .fst _, g, Wx, X, ok, x, h | .ix _ _, g, Wx, X, ok, x, h | .iSeq _, g, Wx, X, ok, x, h | .iRng _, g, Wx, X, ok, x, h | .iZip _, g, Wx, X, ok, x, h | .iEnu _, g, Wx, X, ok, x, h | .cl _, g, Wx, X, ok, x, h | .new _ _ _, g, Wx, X, ok, x, h | .fld _ _, g, Wx, X, ok, x, h | .mth _ _ _, g, Wx, X, ok, x, h | .xf _ _, g, Wx, X, ok, x, h | .xi _ _, g, Wx, X, ok, x, h | .xt _ _, g, Wx, X, ok, x, h => by cases h
theorem sndO_ : ∀ (e : E) (g : Stc) (Wx : WX) (X : Cx) (ok : Cok g C Wx k c X) (x : Option Expr), chkO g e x = true → PO X x (tO C Wx c e)
  | .nl, g, Wx, X, ok, x, h => by
    cases x with
    | none => exact s_on
    | some y => cases h
  | .cs a r, g, Wx, X, ok, x, h => by
    cases r with
    | nl =>
      cases x with
      | none => cases h
      | some y => exact s_os (sndE_ a _ _ _ ok y h)
    | _ => cases h
  | .var _, g, Wx, X, ok, x, h | .con _, g, Wx, X, ok, x, h | .bt _, g, Wx, X, ok, x, h | .glo _, g, Wx, X, ok, x, h | .d0, g, Wx, X, ok, x, h | .d1 _ _, g, Wx, X, ok, x, h | .chn _ _ _ _ _, g, Wx, X, ok, x, h | .sl _ _ _, g, Wx, X, ok, x, h | .lc _ _ _ _ _ _, g, Wx, X, ok, x, h | .tup _, g, Wx, X, ok, x, h | .lst _ _, g, Wx, X, ok, x, h | .bin _ _ _, g, Wx, X, ok, x, h | .neg _, g, Wx, X, ok, x, h | .cmp _ _ _, g, Wx, X, ok, x, h | .and _ _, g, Wx, X, ok, x, h | .or _ _, g, Wx, X, ok, x, h | .not _, g, Wx, X, ok, x, h | .tst _, g, Wx, X, ok, x, h | .ife _ _ _, g, Wx, X, ok, x, h
  | .cal _ _, g, Wx, X, ok, x, h | .bi _ _, g, Wx, X, ok, x, h | .bm _ _ _, g, Wx, X, ok, x, h | .rev _ _, g, Wx, X, ok, x, h | .isC _ _, g, Wx, X, ok, x, h | .xiT _ _, g, Wx, X, ok, x, h | .lH _, g, Wx, X, ok, x, h | .tm _ _ _, g, Wx, X, ok, x, h | .itx _, g, Wx, X, ok, x, h | .fmt _, g, Wx, X, ok, x, h | .fst _, g, Wx, X, ok, x, h | .ix _ _, g, Wx, X, ok, x, h | .iSeq _, g, Wx, X, ok, x, h | .iRng _, g, Wx, X, ok, x, h | .iZip _, g, Wx, X, ok, x, h | .iEnu _, g, Wx, X, ok, x, h | .cl _, g, Wx, X, ok, x, h | .new _ _ _, g, Wx, X, ok, x, h | .fld _ _, g, Wx, X, ok, x, h | .mth _ _ _, g, Wx, X, ok, x, h | .xf _ _, g, Wx, X, ok, x, h | .xi _ _, g, Wx, X, ok, x, h | .xt _ _, g, Wx, X, ok, x, h => by cases h
theorem sndI_ : ∀ (e : E) (g : Stc) (Wx : WX) (X : Cx) (ok : Cok g C Wx k c X) (x : Expr), chkI g e x = true → ∀ tg : Expr, tgTup e tg = true → PI X tg x (tI C Wx c e)
  | .iSeq e, g, Wx, X, ok, x, h => fun tg _ => s_iSeq ok (sndE_ e _ _ _ ok x h)
  | .iRng es, g, Wx, X, ok, x, h => by
    unfold chkI at h
    split at h
    · rw [Bool.and_eq_true] at h
      exact fun tg _ => s_iRng ok h.1 h.2 (sndEs_ es _ _ _ ok _ h.2)
    · cases h
  | .iZip es, g, Wx, X, ok, x, h => by
    unfold chkI at h
    split at h
    · rw [Bool.and_eq_true] at h
      intro tg ht
      cases tg with
      | Tuple elts kk tp => exact s_iZip ok h.1 h.2 (sndEs_ es _ _ _ ok _ h.2)
      | _ => cases ht
    · cases h
  | .iEnu es, g, Wx, X, ok, x, h => by
    unfold chkI at h
    split at h
    · rw [Bool.and_eq_true] at h
      intro tg ht
      cases tg with
      | Tuple elts kk tp => exact s_iEnu ok h.1 h.2 (sndEs_ es _ _ _ ok _ h.2)
      | _ => cases ht
    · cases h
  | .var _, g, Wx, X, ok, x, h | .con _, g, Wx, X, ok, x, h | .bt _, g, Wx, X, ok, x, h | .glo _, g, Wx, X, ok, x, h | .d0, g, Wx, X, ok, x, h | .d1 _ _, g, Wx, X, ok, x, h | .chn _ _ _ _ _, g, Wx, X, ok, x, h | .sl _ _ _, g, Wx, X, ok, x, h | .lc _ _ _ _ _ _, g, Wx, X, ok, x, h | .tup _, g, Wx, X, ok, x, h | .lst _ _, g, Wx, X, ok, x, h | .bin _ _ _, g, Wx, X, ok, x, h | .neg _, g, Wx, X, ok, x, h | .cmp _ _ _, g, Wx, X, ok, x, h | .and _ _, g, Wx, X, ok, x, h | .or _ _, g, Wx, X, ok, x, h | .not _, g, Wx, X, ok, x, h | .tst _, g, Wx, X, ok, x, h | .ife _ _ _, g, Wx, X, ok, x, h
  | .cal _ _, g, Wx, X, ok, x, h | .bi _ _, g, Wx, X, ok, x, h | .bm _ _ _, g, Wx, X, ok, x, h | .rev _ _, g, Wx, X, ok, x, h | .isC _ _, g, Wx, X, ok, x, h | .xiT _ _, g, Wx, X, ok, x, h | .lH _, g, Wx, X, ok, x, h | .tm _ _ _, g, Wx, X, ok, x, h | .itx _, g, Wx, X, ok, x, h | .fmt _, g, Wx, X, ok, x, h | .fst _, g, Wx, X, ok, x, h | .ix _ _, g, Wx, X, ok, x, h | .nl, g, Wx, X, ok, x, h | .cs _ _, g, Wx, X, ok, x, h | .cl _, g, Wx, X, ok, x, h | .new _ _ _, g, Wx, X, ok, x, h | .fld _ _, g, Wx, X, ok, x, h | .mth _ _ _, g, Wx, X, ok, x, h | .xf _ _, g, Wx, X, ok, x, h | .xi _ _, g, Wx, X, ok, x, h | .xt _ _, g, Wx, X, ok, x, h => by cases h
theorem sndIfs_ : ∀ (e : E) (g : Stc) (Wx : WX) (X : Cx) (ok : Cok g C Wx k c X) (x : List Expr), chkIfs g e x = true → PTs X x (tT C Wx c e)
  | .nl, g, Wx, X, ok, x, h => by
    cases x with
    | nil =>
      refine ⟨fun pins s σ H Q I q => pts_nil.run pins s σ H Q I ?_⟩
      obtain ⟨m, l, h, hp, lo, r⟩ := q
      exact (show RP C Wx m H σ (.ok true h) _ from r).now hp
    | cons _ _ => cases h
  | .tst e, g, Wx, X, ok, x, h => by
    match x, h with
    | [y], h =>
      have h2 : (valTest y && chkE g e y) = true := h
      rw [Bool.and_eq_true] at h2
      exact pts_one (s_tst ok h2.1 (sndE_ e _ _ _ ok _ h2.2))
  | .cmp op a b, g, Wx, X, ok, x, h => by
    match x, h with
    | [y], h =>
      unfold chkIfs at h
      split at h
      · simp only [Bool.and_eq_true, decide_eq_true_eq] at h
        obtain ⟨⟨⟨h1, h2⟩, h3⟩, h4⟩ := h
        subst h1
        exact pts_one (s_cmpT ok h2 (sndE_ a _ _ _ ok _ h3) (sndE_ b _ _ _ ok _ h4))
      · cases h
  | .not a, g, Wx, X, ok, x, h => by
    match x, h with
    | [y], h =>
      unfold chkIfs at h
      split at h
      · exact pts_one (s_notT (sndT_ a _ _ _ ok _ h).1)
      · cases h
  | .var _, g, Wx, X, ok, x, h | .con _, g, Wx, X, ok, x, h | .bt _, g, Wx, X, ok, x, h | .glo _, g, Wx, X, ok, x, h | .d0, g, Wx, X, ok, x, h | .d1 _ _, g, Wx, X, ok, x, h | .chn _ _ _ _ _, g, Wx, X, ok, x, h | .sl _ _ _, g, Wx, X, ok, x, h | .lc _ _ _ _ _ _, g, Wx, X, ok, x, h | .cs _ _, g, Wx, X, ok, x, h | .tup _, g, Wx, X, ok, x, h | .lst _ _, g, Wx, X, ok, x, h | .bin _ _ _, g, Wx, X, ok, x, h | .neg _, g, Wx, X, ok, x, h | .and _ _, g, Wx, X, ok, x, h | .or _ _, g, Wx, X, ok, x, h | .ife _ _ _, g, Wx, X, ok, x, h
  | .cal _ _, g, Wx, X, ok, x, h | .bi _ _, g, Wx, X, ok, x, h | .bm _ _ _, g, Wx, X, ok, x, h | .rev _ _, g, Wx, X, ok, x, h | .isC _ _, g, Wx, X, ok, x, h | .xiT _ _, g, Wx, X, ok, x, h | .lH _, g, Wx, X, ok, x, h | .tm _ _ _, g, Wx, X, ok, x, h | .itx _, g, Wx, X, ok, x, h | .fmt _, g, Wx, X, ok, x, h | .fst _, g, Wx, X, ok, x, h | .ix _ _, g, Wx, X, ok, x, h | .iSeq _, g, Wx, X, ok, x, h | .iRng _, g, Wx, X, ok, x, h | .iZip _, g, Wx, X, ok, x, h | .iEnu _, g, Wx, X, ok, x, h | .cl _, g, Wx, X, ok, x, h | .new _ _ _, g, Wx, X, ok, x, h | .fld _ _, g, Wx, X, ok, x, h | .mth _ _ _, g, Wx, X, ok, x, h | .xf _ _, g, Wx, X, ok, x, h | .xi _ _, g, Wx, X, ok, x, h | .xt _ _, g, Wx, X, ok, x, h => by cases h
theorem sndT_ : ∀ (e : E) (g : Stc) (Wx : WX) (X : Cx) (ok : Cok g C Wx k c X) (x : Expr), chkT g e x = true → PT X x (tT C Wx c e) ∧ (isBool x = true → PW X x (tT C Wx c e))
  | .tst e, g, Wx, X, ok, x, h => by
    have h2 : (valTest x && chkE g e x) = true := h
    rw [Bool.and_eq_true] at h2
    exact ⟨s_tst ok h2.1 (sndE_ e _ _ _ ok _ h2.2), fun z => by cases x <;> first | (simp [isBool] at z; done) | (simp [valTest] at h2; done)⟩
  | .cmp op a b, g, Wx, X, ok, x, h => by
    unfold chkT at h
    split at h
    · simp only [Bool.and_eq_true, decide_eq_true_eq] at h
      obtain ⟨⟨⟨h1, h2⟩, h3⟩, h4⟩ := h
      subst h1
      exact ⟨s_cmpT ok h2 (sndE_ a _ _ _ ok _ h3) (sndE_ b _ _ _ ok _ h4), fun z => by cases z⟩
    · cases h
  | .and a b, g, Wx, X, ok, x, h => by
    unfold chkT at h
    split at h
    · rename_i y ys p
      simp only [Bool.and_eq_true] at h
      obtain ⟨h1, h2⟩ := h
      have w : PW X (.BoolOp .And (y :: ys) p) (tT C Wx c (.and a b)) := by
        cases ys with
        | nil => cases h2
        | cons z zs =>
          cases zs with
          | nil => exact PW.imp (pw_and (sndT_ a _ _ _ ok _ h1).1 (pw_and1 (sndT_ b _ _ _ ok _ h2).1)) and_sub
          | cons w ws => exact PW.imp (pw_and (sndT_ a _ _ _ ok _ h1).1 ((sndT_ b _ _ _ ok _ h2).2 rfl)) and_sub
      exact ⟨w.pt, fun _ => w⟩
    · cases h
  | .or a b, g, Wx, X, ok, x, h => by
    unfold chkT at h
    split at h
    · rename_i y ys p
      simp only [Bool.and_eq_true] at h
      obtain ⟨h1, h2⟩ := h
      have w : PW X (.BoolOp .Or (y :: ys) p) (tT C Wx c (.or a b)) := by
        cases ys with
        | nil => cases h2
        | cons z zs =>
          cases zs with
          | nil => exact PW.imp (pw_or (sndT_ a _ _ _ ok _ h1).1 (pw_or1 (sndT_ b _ _ _ ok _ h2).1)) or_sub
          | cons w ws => exact PW.imp (pw_or (sndT_ a _ _ _ ok _ h1).1 ((sndT_ b _ _ _ ok _ h2).2 rfl)) or_sub
      exact ⟨w.pt, fun _ => w⟩
    · cases h
  | .not a, g, Wx, X, ok, x, h => by
    unfold chkT at h
    split at h
    · exact ⟨s_notT (sndT_ a _ _ _ ok _ h).1, fun z => by cases z⟩
    · cases h
  | .chn o1 o2 a b d, g, Wx, X, ok, x, h => by
    unfold chkT at h
    split at h
    · simp only [Bool.and_eq_true, decide_eq_true_eq] at h
      obtain ⟨⟨⟨⟨⟨⟨h1, h2⟩, h3⟩, h4⟩, h5⟩, h6⟩, h7⟩ := h
      subst h1 h2
      exact ⟨s_chnT ok h4 (sndE_ a _ _ _ ok _ h5) (sndE_ b _ _ _ ok _ h6) (sndE_ d _ _ _ ok _ h7), fun z => by cases z⟩
    · cases h
  | .var _, g, Wx, X, ok, x, h | .con _, g, Wx, X, ok, x, h | .bt _, g, Wx, X, ok, x, h | .glo _, g, Wx, X, ok, x, h | .d0, g, Wx, X, ok, x, h | .d1 _ _, g, Wx, X, ok, x, h | .sl _ _ _, g, Wx, X, ok, x, h | .lc _ _ _ _ _ _, g, Wx, X, ok, x, h | .nl, g, Wx, X, ok, x, h | .cs _ _, g, Wx, X, ok, x, h | .tup _, g, Wx, X, ok, x, h | .lst _ _, g, Wx, X, ok, x, h | .bin _ _ _, g, Wx, X, ok, x, h | .neg _, g, Wx, X, ok, x, h | .ife _ _ _, g, Wx, X, ok, x, h
  | .cal _ _, g, Wx, X, ok, x, h | .bi _ _, g, Wx, X, ok, x, h | .bm _ _ _, g, Wx, X, ok, x, h | .rev _ _, g, Wx, X, ok, x, h | .isC _ _, g, Wx, X, ok, x, h | .xiT _ _, g, Wx, X, ok, x, h | .lH _, g, Wx, X, ok, x, h | .tm _ _ _, g, Wx, X, ok, x, h | .itx _, g, Wx, X, ok, x, h | .fmt _, g, Wx, X, ok, x, h | .fst _, g, Wx, X, ok, x, h | .ix _ _, g, Wx, X, ok, x, h | .iSeq _, g, Wx, X, ok, x, h | .iRng _, g, Wx, X, ok, x, h | .iZip _, g, Wx, X, ok, x, h | .iEnu _, g, Wx, X, ok, x, h | .cl _, g, Wx, X, ok, x, h | .new _ _ _, g, Wx, X, ok, x, h | .fld _ _, g, Wx, X, ok, x, h | .mth _ _ _, g, Wx, X, ok, x, h | .xf _ _, g, Wx, X, ok, x, h | .xi _ _, g, Wx, X, ok, x, h | .xt _ _, g, Wx, X, ok, x, h => by cases h
end
theorem sndE (ok : Cok g C Wx k c X) (e : E) (x : Expr) (h : chkE g e x = true) : PE X x (tE C Wx c e) := sndE_ e g Wx X ok x h
theorem sndEs (ok : Cok g C Wx k c X) (e : E) (x : List Expr) (h : chkEs g e x = true) : PA X x (tEs C Wx c e) := sndEs_ e g Wx X ok x h
theorem sndT (ok : Cok g C Wx k c X) (e : E) (x : Expr) (h : chkT g e x = true) : PT X x (tT C Wx c e) := (sndT_ e g Wx X ok x h).1
theorem sndI (ok : Cok g C Wx k c X) (e : E) (x : Expr) (h : chkI g e x = true) (tg : Expr) (ht : tgTup e tg = true) : PI X tg x (tI C Wx c e) := sndI_ e g Wx X ok x h tg ht
theorem sndIfs (ok : Cok g C Wx k c X) (e : E) (x : List Expr) (h : chkIfs g e x = true) : PTs X x (tT C Wx c e) := sndIfs_ e g Wx X ok x h
end
end MP
/-! MP, statements. -/
namespace MP
open PySem L2

def noComp : Expr → Bool
  | .ListComp _ _ _ _ => false
  | .SetComp _ _ _ _ => false
  | .DictComp _ _ _ _ _ => false
  | _ => true
/-- a tuple of written things on the right of a tuple of names -/
def tupFolds : Expr → Expr → Bool
  | .Tuple _ _ _, .Tuple vs _ _ => !(vs.any fun | .Starred .. => true | _ => false) && vs.all (foldedForSure 8)
  | _, _ => true
mutual
def chkS (g : Stc) : S → Stmt → Bool
  | .asg t e, st => match st with
    | .Assign [x] y _ => (match t, x with
        | .nm _, .Name _ _ => true
        | .tup _, .Tuple _ _ _ => tupFolds x y
        | _, _ => false) && noComp y && chkTg g t x && chkE g e y
    | _ => false
  | .asgc i e, st => match st with
    | .Assign [.Name x px] y _ => (match y with
        | .ListComp _ _ sc p => (px.line == p.line) && !(sc.names.any fun (n, k) => n == x && (k == .local || k == .cell))
        | _ => false) && decide (g.N[i]? = some x) && locB g.ns x && chkE g e y
    | _ => false
  | .par i j es, st => match st with
    | .Assign [.Tuple [.Name x px, .Name y py] _ _] (.Tuple [u, v] _ _) _ =>
      !g.hot && decide (g.N[i]? = some x) && decide (g.N[j]? = some y) && decide (i ≠ j) && decide (x ≠ y) && locB g.ns x && locB g.ns y && (py.line == px.line) && notStar u && notStar v
        && !([u, v].all (foldedForSure 8)) && !([u, v].all (constantsAlone 8)) && chkEs g es [u, v]
    | _ => false
  | .setix o i e, st => match st with
    | .Assign [.Subscript x y _] z _ => plainIx y && noComp z && chkE g o x && chkE g i y && chkE g e z
    | _ => false
  | .ret e, st => match st with
    | .Return (some x) _ => chkE g e x
    | _ => false
  | .exp e, st => match st with
    | .Expr x _ => noComp x && chkE g e x
    | _ => false
  | .ite t a b, st => match st with
    | .If x ys zs _ => chkT g t x && chkSs g a ys && chkSs g b zs
    | _ => false
  | .whl t b, st => match st with
    | .While x ys [] _ => chkT g t x && chkSs g b ys
    | _ => false
  | .for_ t it b, st => match st with
    | .For tg x ys [] _ => !g.hot && tgTup it tg && notSet x && chkTg g t tg && chkI g it x && chkSs g b ys
    | _ => false
  | .unl ts e, st => match st with
    | .Assign [.Tuple xs q2 q3] y _ => !g.hot && tupFolds (.Tuple xs q2 q3) y && noComp y && chkTgs g ts xs && chkE g e y
    | _ => false
  | .gif _ _ a b, st => chkS g a st && chkS g b st
  | .aug i e, st => match st with
    | .AugAssign (.Name x _) op y _ => decide (op = .Add) && decide (g.N[i]? = some x) && locB g.ns x && chkE g e y
    | _ => false
  | .brk, st => match st with
    | .Break _ => true
    | _ => false
  | .setf o f e, st => match st with
    | .Assign [.Attribute x n _] z _ => decide (f = n) && noComp z && chkE g o x && chkE g e z
    | _ => false
  | .rais j es, st => match st with
    | .Raise (some (.Call (.Name n _) ys [] _)) none _ => !g.hot && decide (g.cn[j]? = some n) && gloB g.ns n && nameOk n && decide (ys.length ≤ 1) && chkEs g es ys
    | _ => false
  | .tri b j i s, st => match st with
    | .Try ys [.ExceptHandler (some (.Name n _)) nm (z :: zs) _] [] [] _ => !g.hot && decide (g.cn[j]? = some n) && gloB g.ns n && nameOk n && (match i, nm with
        | none, none => true
        | some i, some y => decide (g.N[i]? = some y) && locB g.ns y
        | _, _ => false) && chkSs g b ys && chkSs ⟨g.N, g.ns, g.tn, g.fn, g.bn, g.gl, g.cn, true, i⟩ s (z :: zs)
    | _ => false
  | _, _ => false
termination_by structural s => s
def chkSs (g : Stc) : S → List Stmt → Bool
  | .nop, [] => true
  | .seq s r, y :: ys => chkS g s y && chkSs g r ys
  | .scope b, ys => !g.hot && chkSs g b ys
  | _, _ => false
termination_by structural s => s
end

/-- how a statement's end is to be met -/
def OutP (C : Gc) (Wx : WX) (m : List Addr) (H : Hp) (o : Out) (D : Ends) : Prop :=
  match o with
  | .nx l h => ∀ m' s' H', Evo m H m' H' → HpOk C m' h H' → LocOk C m' H' l s' → D.nx s' H'
  | .rt v h => ∀ m' x H', Evo m H m' H' → HpOk C m' h H' → RepV C.g m' H' v x → D.rt x H'
  | .bk l h => ∀ m' s' H', Evo m H m' H' → HpOk C m' h H' → LocOk C m' H' l s' → D.bk s' H'
  | .ct l h => ∀ m' s' H', Evo m H m' H' → HpOk C m' h H' → LocOk C m' H' l s' → D.ct s' H'
  | .exc c v l h => ∀ m' s' H' d, Evo m H m' H' → HpOk C m' h H' → LocOk C m' H' l s' → XAt C.g m' H' c v d → Wx (.ref (C.g.ca c)) d s' H'
  | .bad => False
def tS (C : Gc) (Wx : WX) (c : Cf) (s : S) : TS := fun D σ H => ∃ m l h, HpOk C m h H ∧ LocOk C m H l σ ∧ OutP C Wx m H (run c s l h) D
section
variable {C : Gc} {Wx : WX} {m m1 : List Addr} {H H1 : Hp} {s : St} {D : Ends}
theorem OutP.weak {o : Out} (x : OutP C Wx m H o D) (e : Evo m H m1 H1) : OutP C Wx m1 H1 o D := by
  cases o with
  | nx l h => exact fun m' s' H' ev => x m' s' H' (e.trans ev)
  | rt v h => exact fun m' s' H' ev => x m' s' H' (e.trans ev)
  | bk l h => exact fun m' s' H' ev => x m' s' H' (e.trans ev)
  | ct l h => exact fun m' s' H' ev => x m' s' H' (e.trans ev)
  | exc c v l h => exact fun m' s' H' d ev => x m' s' H' d (e.trans ev)
  | bad => exact x
/-- an expression's part -/
theorem OutP.res {A : Type} {r : Res A} {l : Loc} {k : A → Heap → Out} (x : OutP C Wx m H (r.out l k) D) (lo : LocOk C m H l s) : RP C Wx m H s r fun a h m' H' => OutP C Wx m' H' (k a h) D := by
  cases r with
  | ok a h => exact fun m' H' ev hp => OutP.weak (show OutP C Wx m H (k a h) D from x) ev
  | exc c v h => exact fun m' H' d ev hp xa => x m' s H' d ev hp (lo.mono ev) xa
  | bad => exact x
/-- .. a further one, behind it -/
theorem OutP.thn {o : Out} {k : Loc → Heap → Out} (x : OutP C Wx m H (o.thn k) D) (y : ∀ l h m' s' H', Evo m H m' H' → HpOk C m' h H' → LocOk C m' H' l s' → OutP C Wx m' H' (k l h) D → D1.nx s' H')
    (h1 : D1.rt = D.rt) (h2 : D1.bk = D.bk) (h3 : D1.ct = D.ct) : OutP C Wx m H o D1 := by
  cases o with
  | nx l h => exact fun m' s' H' ev hp lo => y l h m' s' H' ev hp lo (OutP.weak (show OutP C Wx m H (k l h) D from x) ev)
  | rt v h => exact fun m' s' H' ev hp r => by rw [h1]; exact x m' s' H' ev hp r
  | bk l h => exact fun m' s' H' ev hp r => by rw [h2]; exact x m' s' H' ev hp r
  | ct l h => exact fun m' s' H' ev hp r => by rw [h3]; exact x m' s' H' ev hp r
  | exc c v l h => exact x
  | bad => exact x
theorem OutP.turn {o : Out} {k : Loc → Heap → Out} {N : St → Hp → Prop} (x : OutP C Wx m H (o.turn k) D) (y : ∀ l h m' s' H', Evo m H m' H' → HpOk C m' h H' → LocOk C m' H' l s' → OutP C Wx m' H' (k l h) D → N s' H') :
    OutP C Wx m H o { D with nx := N, ct := N, bk := D.nx } := by
  cases o with
  | nx l h => exact fun m' s' H' ev hp lo => y l h m' s' H' ev hp lo (OutP.weak (show OutP C Wx m H (k l h) D from x) ev)
  | rt v h => exact x
  | bk l h => exact x
  | ct l h => exact fun m' s' H' ev hp lo => y l h m' s' H' ev hp lo (OutP.weak (show OutP C Wx m H (k l h) D from x) ev)
  | exc c v l h => exact x
  | bad => exact x
theorem OutP.trim {o : Out} {h : Heap} (hx : C.xs = none) (hp : HpOk C m h H) (x : OutP C Wx m H (o.trim h.length) D) : OutP C Wx m H o D := by
  cases o with
  | nx l h1 => exact fun m' s' H' ev hp1 lo => let ⟨a, b, d⟩ := trim_ok hx ev hp hp1 lo; x m s' H' a b d
  | rt v h1 => exact x
  | bk l h1 => exact fun m' s' H' ev hp1 lo => let ⟨a, b, d⟩ := trim_ok hx ev hp hp1 lo; x m s' H' a b d
  | ct l h1 => exact fun m' s' H' ev hp1 lo => let ⟨a, b, d⟩ := trim_ok hx ev hp hp1 lo; x m s' H' a b d
  | exc c v l h1 => exact x
  | bad => exact x
end

end MP
/-! MP, loops and statements. -/
namespace MP
open PySem L2

section
variable {g : Stc} {C : Gc} {Wx : WX} {k : Nat} {c : Cf} {X : Cx}
/-! ### statements -/
theorem swaps_no {e t : Expr} {n : Nat} {env : Env} (h : noComp e = true) : swapsWith e (some t) n env = pure false := by
  cases e <;> first | rfl | cases h
theorem swapsN_no {e : Expr} {n : Nat} {env : Env} (h : noComp e = true) : swapsWith e none n env = pure false := by
  cases e <;> first | rfl | cases h
theorem folds_none {ts vs : List Expr} {k1 k2 : Nat} {p1 p2 : Pos} {env : Env} (h : (!(vs.any fun | .Starred .. => true | _ => false) && vs.all (foldedForSure 8)) = true) : swappedStores [.Tuple ts k1 p1] (.Tuple vs k2 p2) env = pure none := by
  rw [Bool.and_eq_true] at h
  unfold swappedStores
  simp only [h.2]
  split
  · rfl
  · split
    · rfl
    · split
      · rfl
      · rfl
theorem par_some {x y : Str} {px py p1 p2 : Pos} {u v : Expr} {k1 k2 : Nat} {env : Env} (kd : env.scope.kind = .function) (hx : env.scope.names.lookup x = some .local) (hy : env.scope.names.lookup y = some .local) (hxy : x ≠ y)
    (hl : (py.line == px.line) = true) (hu : notStar u = true) (hv : notStar v = true) (hf : ([u, v].all (foldedForSure 8)) = false) (hk : ([u, v].all (constantsAlone 8)) = false) :
    swappedStores [.Tuple [.Name x px, .Name y py] k1 p1] (.Tuple [u, v] k2 p2) env = pure (some [x, y]) := by
  have bk : env.blockKind = .function := by
    unfold Env.blockKind
    rw [kd]
    rfl
  have kx : env.kindOf x = some .local := hx
  have ky : env.kindOf y = some .local := hy
  have e2 : py.line = px.line := by simpa using hl
  have ne : (y == x) = false := by simpa using (fun z => hxy (Eq.symm z))
  unfold swappedStores
  simp [bk, hf, hk, kx, ky, e2, ne, Expr.pos, List.eraseDups, List.eraseDupsBy, List.eraseDupsBy.loop]
  intro z
  exfalso
  clear hf hk
  rcases z with z | z
  · cases u <;> first | (simp [notStar] at hu; done) | (simp at z; done)
  · cases v <;> first | (simp [notStar] at hv; done) | (simp at z; done)
theorem t_asg {t : T} {e : E} {te : TE} {g : TG} (s : St) (H : Hp) (D : Ends) (z : tS C Wx c (.asg t e) D s H) : tAsg (tE C Wx c e) (gT C t) D s H := by
  obtain ⟨m, l, h, hp, lo, o⟩ := z
  have o : OutP C Wx m H ((evalE c e l h).out l fun v h1 => Out.opt (store t v l) fun l1 => .nx l1 h1) D := o
  refine ⟨m, l, h, hp, lo, (o.res lo).imp fun v h1 m1 H1 ev hp1 q x rx => ?_⟩
  cases e1 : store t v l with
  | none =>
    rw [e1] at q
    exact q.elim
  | some l1 =>
    rw [e1] at q
    exact ⟨m1, l, v, l1, lo.mono ev, rx, e1, fun s' lo' _ => q m1 s' H1 (Evo.refl _ _) hp1 lo'⟩
theorem s_asg (ok : Cok g C Wx k c X) {t : T} {e : E} {x y : Expr} {p : Pos} (h : ((match t, x with
        | .nm _, .Name _ _ => true
        | .tup _, .Tuple _ _ _ => tupFolds x y
        | _, _ => false) && noComp y && chkTg g t x && chkE g e y) = true) : PS X (.Assign [x] y p) (tS C Wx c (.asg t e)) := by
  simp only [Bool.and_eq_true] at h
  obtain ⟨⟨⟨h1, h2⟩, h3⟩, h4⟩ := h
  have P := sndE ok e y h4
  have Gt := sndTg ok t x h3
  have hs : swapsWithSole [x] y p.line X.env = pure false := swaps_no h2
  have fin := fun (D : Ends) (s : St) (H : Hp) (z : tS C Wx c (.asg t e) D s H) => t_asg (te := tE C Wx c e) (g := gT C t) s H D z
  split at h1
  · exact PS.imp (ps_asg P Gt hs rfl rfl) fin
  · rename_i ts xs k1 p1
    refine PS.imp (ps_asg P Gt hs ?_ rfl) fin
    cases y with
    | Tuple vs k2 p2 => exact folds_none h1
    | _ => rfl
  · cases h1
theorem s_aug (ok : Cok g C Wx k c X) {i : Nat} {e : E} {x : Str} {px p : Pos} {op : Operator} {y : Expr} (h : (decide (op = .Add) && decide (g.N[i]? = some x) && locB g.ns x && chkE g e y) = true) : PS X (.AugAssign (.Name x px) op y p) (tS C Wx c (.aug i e)) := by
  simp only [Bool.and_eq_true, decide_eq_true_eq] at h
  obtain ⟨⟨⟨rfl, h2⟩, h3⟩, h4⟩ := h
  have loc : X.env.scope.names.lookup x = some .local := by
    unfold locB at h3
    rw [← ok.ns] at h3
    split at h3
    · assumption
    · cases h3
  refine PS.imp (ps_aug (i := i) (by rw [ok.N]; exact ok.nd) (by rw [ok.N]; exact h2) (.inl loc) (sndE ok e y h4) ip_add (.inr loc)) fun D s H => ?_
  rintro ⟨m, l, h, hp, lo, o⟩
  have o : OutP C Wx m H (Out.opt (slotI i l) fun a => (evalE c e l h).out l fun v h1 => Out.opt (intO v) fun b => .nx (l.set i (some (.int (a + b)))) h1) D := o
  cases q : slotI i l with
  | none =>
    rw [q] at o
    exact o.elim
  | some a =>
    rw [q] at o
    have o : OutP C Wx m H ((evalE c e l h).out l fun v h1 => Out.opt (intO v) fun b => .nx (l.set i (some (.int (a + b)))) h1) D := o
    have q2 : l[i]? = some (some (.int a)) := by
      unfold slotI at q
      split at q
      · rename_i e1
        cases q
        exact e1
      · cases q
    obtain ⟨x0, e1, r1⟩ := lo.get i _ q2
    have r1 : x0 = V.int a := r1
    subst r1
    refine ⟨.int a, e1, m, l, h, hp, lo, (o.res lo).imp fun v h1 m1 H1 ev hp1 z y ry => ?_⟩
    cases v with
    | int b =>
      have ry : y = V.int b := ry
      subst ry
      exact ⟨a, b, rfl, rfl, z m1 _ H1 (Evo.refl _ _) hp1 ((lo.mono ev).set i rfl)⟩
    | _ => exact (show False from z).elim
theorem s_asgc (ok : Cok g C Wx k c X) {i : Nat} {e : E} {x : Str} {px p : Pos} {y : Expr} (h : ((match y with
        | .ListComp _ _ sc p => (px.line == p.line) && !(sc.names.any fun (n, k) => n == x && (k == .local || k == .cell))
        | _ => false) && decide (g.N[i]? = some x) && locB g.ns x && chkE g e y) = true) : PS X (.Assign [.Name x px] y p) (tS C Wx c (.asgc i e)) := by
  simp only [Bool.and_eq_true, decide_eq_true_eq] at h
  obtain ⟨⟨⟨h1, h2⟩, h3⟩, h4⟩ := h
  have loc : X.env.scope.names.lookup x = some .local := by
    unfold locB at h3
    rw [← ok.ns] at h3
    split at h3
    · assumption
    · cases h3
  split at h1
  · rename_i z gs sc p9
    rw [Bool.and_eq_true, Bool.not_eq_true'] at h1
    cases e with
    | lc b t own it cd elt =>
      unfold chkE at h4
      split at h4
      · rename_i z tg itx ifs sc p heq
        cases heq
        simp only [Bool.and_eq_true] at h4
        obtain ⟨⟨⟨⟨⟨⟨⟨⟨⟨hh, ht⟩, k1⟩, k2⟩, k3⟩, k4⟩, k5⟩, k6⟩, k7⟩, k8⟩ := h4
        rw [Bool.not_eq_true'] at hh
        have bo := blk_ok ok k1
        have ho : ∀ i ∈ tgSlots t, i ∈ own := fun i hi => by
          rw [List.all_eq_true] at k3
          simpa using k3 i hi
        refine PS.imp (ps_setLc (i := i) (own := own.map fun i => (g.N.getD i (Str.ofString ""), i)) (ok.calm hh) (by rw [ok.N]; exact ok.nd) (by rw [ok.N]; exact h2) loc (sw_true ok.kd loc h1.1 h1.2) (sndI ok it itx k5 tg ht) bo
          (fun s H a cl fp => sndTg (ok.blk hh bo.kind s H a cl fp) t tg k6) (fun s H a cl fp => sndIfs (ok.blk hh bo.kind s H a cl fp) cd ifs k7) (fun s H a cl fp => sndE (ok.blk hh bo.kind s H a cl fp) elt z k8) (fold_no k4)) fun D s H => ?_
        rintro ⟨m, l, h, hp, lo, o⟩
        have o : OutP C Wx m H ((evalE c (.lc b t own it cd elt) l h).out l fun v h1 => .nx (l.set i (some v)) h1) D := o
        rw [own_map]
        exact lc_sub (Wx := Wx) (ok.c0 hh) ho s H _ ⟨m, l, h, hp, lo, (o.res lo).imp fun v h1 m1 H1 ev hp1 q x rx => q m1 _ H1 (Evo.refl _ _) hp1 ((lo.mono ev).set i rx)⟩
      · cases h4
    | con v => cases v <;> cases h4
    | bm m o es => cases es <;> cases h4
    | _ => cases h4
  · cases h1
theorem s_par (ok : Cok g C Wx k c X) {i j : Nat} {es : E} {x y : Str} {px py pt p2 p : Pos} {k1 k2 : Nat} {u v : Expr} (h : (!g.hot && decide (g.N[i]? = some x) && decide (g.N[j]? = some y) && decide (i ≠ j) && decide (x ≠ y) && locB g.ns x && locB g.ns y && (py.line == px.line) && notStar u && notStar v
        && !([u, v].all (foldedForSure 8)) && !([u, v].all (constantsAlone 8)) && chkEs g es [u, v]) = true) : PS X (.Assign [.Tuple [.Name x px, .Name y py] k1 pt] (.Tuple [u, v] k2 p2) p) (tS C Wx c (.par i j es)) := by
  simp only [Bool.and_eq_true, Bool.not_eq_true', decide_eq_true_eq] at h
  obtain ⟨⟨⟨⟨⟨⟨⟨⟨⟨⟨⟨⟨h0, h1⟩, h2⟩, h3⟩, h4⟩, h5⟩, h6⟩, h7⟩, h8⟩, h9⟩, h10⟩, h11⟩, h12⟩ := h
  have loc : ∀ z, locB g.ns z = true → X.env.scope.names.lookup z = some .local := fun z hz => by
    unfold locB at hz
    rw [← ok.ns] at hz
    split at hz
    · assumption
    · cases hz
  refine PS.imp (ps_par (ok.calm h0) (by rw [ok.N]; exact ok.nd) (by rw [ok.N]; exact h1) (by rw [ok.N]; exact h2) h3 (loc x h5) (loc y h6) (sndEs ok es _ h12) (par_some ok.kd (loc x h5) (loc y h6) h4 h7 h8 h9 h10 h11) rfl) fun D s H => ?_
  rintro ⟨m, l, h, hp, lo, o⟩
  have o : OutP C Wx m H ((evalEs c es l h).out l fun vs h1 => Out.opt (store2 i j vs l) fun l1 => .nx l1 h1) D := o
  refine ⟨m, l, h, hp, lo, (o.res lo).imp fun vs h1 m1 H1 ev hp1 q xs rx => ?_⟩
  unfold store2 at q
  split at q
  · obtain ⟨x0, r0, rfl, rx0, x1, r1, rfl, rx1, rfl⟩ := rx
    exact ⟨x0, x1, rfl, q m1 _ H1 (Evo.refl _ _) hp1 (((lo.mono ev).set i rx0).set j rx1)⟩
  · exact q.elim
theorem setix_ok {m : List Addr} {h h4 : Heap} {H : Hp} {o i v : Val} {x y z : V} {Q : Hp → Prop} (hp : HpOk C m h H) (ro : RepV C.g m H o x) (ri : RepV C.g m H i y) (rv : RepV C.g m H v z) (e : setixO h o i v = some h4)
    (q : ∀ H', Evo m H m H' → HpOk C m h4 H' → Q H') : rSetL x y z H Q := by
  unfold setixO at e
  split at e
  · rename_i n kk
    obtain ⟨a, rfl, ha⟩ := ro
    cases (show y = V.int kk from ri)
    split at e
    · rename_i xs hx
      split at e
      · rename_i jj hj
        by_cases pv : pure0 v = true
        · rw [if_pos pv] at e
          cases e
          obtain ⟨vs, e1, r1, p1⟩ := hp.obj n _ a hx ha
          refine ⟨a, vs, kk, jj, rfl, rfl, e1, by rw [r1.length]; exact hj, ?_⟩
          have pl : pureL (xs.set jj v) = true := refsLtL_mem.mpr fun w hw => by
            rcases List.mem_or_eq_of_mem_set hw with z | z
            · exact refsLtL_mem.mp p1 w z
            · rw [z]
              exact pv
          exact q _ (Evo.put ha) (hp.put (o := .lst (xs.set jj v)) ha (RepO.put ha (r1.set rv jj) pl)).1
        · rw [if_neg pv] at e
          cases e
      · cases e
    · cases e
  · cases e
theorem s_setix (ok : Cok g C Wx k c X) {o i e : E} {x y z : Expr} {p1 p2 : Pos} (h : (plainIx y && noComp z && chkE g o x && chkE g i y && chkE g e z) = true) : PS X (.Assign [.Subscript x y p1] z p2) (tS C Wx c (.setix o i e)) := by
  simp only [Bool.and_eq_true] at h
  obtain ⟨⟨⟨⟨h1, h2⟩, h3⟩, h4⟩, h5⟩ := h
  have hs : swapsWithSole [.Subscript x y p1] z p2.line X.env = pure false := by cases z <;> first | rfl | cases h2
  refine PS.imp (ps_asg (sndE ok e z h5) (pg_sub (sndE ok o x h3) (sndE ok i y h4) set_list (by intro v; cases y <;> first | rfl | cases h1)) hs rfl rfl) fun D s H => ?_
  rintro ⟨m, l, h, hp, lo, r⟩
  have r : OutP C Wx m H ((evalE c e l h).out l fun v h1 => (evalE c o l h1).out l fun x h2 => (evalE c i l h2).out l fun y h3 => Out.opt (setixO h3 x y v) fun h4 => .nx l h4) D := r
  refine ⟨m, l, h, hp, lo, (r.res lo).imp fun v h1 m1 H1 ev1 hp1 q1 x1 rx1 => ?_⟩
  have lo1 := lo.mono ev1
  refine ⟨m1, l, h1, hp1, lo1, (q1.res lo1).imp fun w h2 m2 H2 ev2 hp2 q2 x2 rx2 => ?_⟩
  have lo2 := lo1.mono ev2
  refine ⟨m2, l, h2, hp2, lo2, (q2.res lo2).imp fun u h3 m3 H3 ev3 hp3 q3 x3 rx3 => ?_⟩
  cases e4 : setixO h3 w u v with
  | none =>
    rw [e4] at q3
    exact q3.elim
  | some h4 =>
    rw [e4] at q3
    exact setix_ok hp3 (rx2.mono ev3) rx3 (rx1.mono (ev2.trans ev3)) e4 fun H' ev4 hp4 => q3 m3 s H' ev4 hp4 ((lo2.mono ev3).mono ev4)
theorem s_ret (ok : Cok g C Wx k c X) {e : E} {x : Expr} {p : Pos} (h : chkE g e x = true) : PS X (.Return (some x) p) (tS C Wx c (.ret e)) :=
  PS.imp (ps_ret (sndE ok e x h)) fun D s H => by
    rintro ⟨m, l, h, hp, lo, r⟩
    have r : OutP C Wx m H ((evalE c e l h).out l fun v h1 => .rt v h1) D := r
    exact ⟨m, l, h, hp, lo, (r.res lo).imp fun v h1 m1 H1 ev1 hp1 q1 x1 rx1 => q1 m1 x1 H1 (Evo.refl _ _) hp1 rx1⟩
theorem s_exp (ok : Cok g C Wx k c X) {e : E} {x : Expr} {p : Pos} (h : (noComp x && chkE g e x) = true) : PS X (.Expr x p) (tS C Wx c (.exp e)) := by
  rw [Bool.and_eq_true] at h
  refine PS.imp (ps_expr (sndE ok e x h.2) (swapsN_no h.1)) fun D s H => ?_
  rintro ⟨m, l, h, hp, lo, r⟩
  have r : OutP C Wx m H ((evalE c e l h).out l fun _ h1 => .nx l h1) D := r
  exact ⟨m, l, h, hp, lo, (r.res lo).imp fun v h1 m1 H1 ev1 hp1 q1 x1 rx1 => q1 m1 s H1 (Evo.refl _ _) hp1 (lo.mono ev1)⟩
theorem s_ite {t : E} {a b : S} {x : Expr} {ys zs : List Stmt} {p : Pos} (ht : PT X x (tT C Wx c t)) (ha : PSs X ys (tS C Wx c a)) (hb : PSs X zs (tS C Wx c b)) : PS X (.If x ys zs p) (tS C Wx c (.ite t a b)) :=
  PS.imp (ps_if ht ha hb) fun D s H => by
    rintro ⟨m, l, h, hp, lo, r⟩
    have r : OutP C Wx m H ((evalT c t l h).out l fun x h1 => if x then run c a l h1 else run c b l h1) D := r
    refine ⟨m, l, h, hp, lo, (r.res lo).imp fun v h1 m1 H1 ev1 hp1 q1 => ?_⟩
    cases v with
    | true => rw [if_pos rfl]; exact ⟨m1, l, h1, hp1, lo.mono ev1, q1⟩
    | false => rw [if_neg Bool.false_ne_true]; exact ⟨m1, l, h1, hp1, lo.mono ev1, q1⟩
theorem s_whl (ok : Cok g C Wx k c X) {t : E} {b : S} {x : Expr} {ys : List Stmt} {p : Pos} (ht : PT X x (tT C Wx c t)) (hb : PSs X ys (tS C Wx c b)) : PS X (.While x ys [] p) (tS C Wx c (.whl t b)) :=
  PS.imp (ps_while ok.po ht hb) fun D s H => by
    rintro ⟨m, l, h, hp, lo, r⟩
    have r : OutP C Wx m H (whileN (evalT c t) (run c b) c.W l h) D := r
    refine ⟨fun n s H => ∃ m l h, HpOk C m h H ∧ LocOk C m H l s ∧ OutP C Wx m H (whileN (evalT c t) (run c b) n l h) D, ⟨c.W, m, l, h, hp, lo, r⟩, ?_⟩
    rintro n s H ⟨m, l, h, hp, lo, r⟩
    cases n with
    | zero => exact (show False from r).elim
    | succ n =>
      have r : OutP C Wx m H ((evalT c t l h).out l fun x h1 => if x then (run c b l h1).turn (whileN (evalT c t) (run c b) n) else .nx l h1) D := r
      refine ⟨m, l, h, hp, lo, (r.res lo).imp fun v h1 m1 H1 ev1 hp1 q1 => ?_⟩
      cases v with
      | true =>
        rw [if_pos rfl] at q1 ⊢
        refine ⟨fun s H => ∃ m l h, HpOk C m h H ∧ LocOk C m H l s ∧ OutP C Wx m H (whileN (evalT c t) (run c b) n l h) D, fun s' H' z => ⟨n, Nat.lt_succ_self n, z⟩, m1, l, h1, hp1, lo.mono ev1, ?_⟩
        exact q1.turn fun l2 h2 m2 s2 H2 ev2 hp2 lo2 q2 => ⟨m2, l2, h2, hp2, lo2, q2⟩
      | false =>
        rw [if_neg Bool.false_ne_true] at q1 ⊢
        exact q1 m1 s H1 (Evo.refl _ _) hp1 (lo.mono ev1)
theorem s_for (ok : Cok g C Wx k c X) (hh : g.hot = false) {t : T} {it : E} {b : S} {tg x : Expr} {ys : List Stmt} {p : Pos} (hi : PI X tg x (tI C Wx c it)) (hf : ∀ y, foldedSetIterable x X.env y = pure y) (hg : PG X tg (gT C t)) (hb : PSs X ys (tS C Wx c b)) :
    PS X (.For tg x ys [] p) (tS C Wx c (.for_ t it b)) :=
  PS.imp (ps_for ok.po (ok.calm hh) hi hg hb hf) fun D s H => by
    rintro ⟨m, l, h, hp, lo, r⟩
    have r : OutP C Wx m H ((evalI c it l h).out l fun xs h1 => forL t (run c b) xs l h1) D := r
    refine ⟨m, l, h, hp, lo, (r.res lo).imp fun xs h1 m1 H1 ev1 hp1 q1 J wk => ?_⟩
    refine ⟨fun i n s H => n = xs.length - i ∧ i ≤ xs.length ∧ ∃ m l h, Evo m1 H1 m H ∧ HpOk C m h H ∧ LocOk C m H l s ∧ OutP C Wx m H (forL t (run c b) (xs.drop i) l h) D, ⟨xs.length, rfl, Nat.zero_le _, m1, l, h1, Evo.refl _ _, hp1, lo.mono ev1, q1⟩, ?_⟩
    rintro i n s H ⟨rfl, hi, m2, l2, h2, ev2, hp2, lo2, q2⟩
    obtain ⟨w1, w2⟩ := wk m2 H ev2 i
    by_cases hl : i < xs.length
    · obtain ⟨g1, g2⟩ := w2 xs[i] (List.getElem?_eq_getElem hl)
      rw [List.drop_eq_getElem_cons hl] at q2
      have q2 : OutP C Wx m2 H (Out.opt (store t xs[i] l2) fun l1 => (run c b l1 h2).turn (forL t (run c b) (xs.drop (i + 1)))) D := q2
      cases e1 : store t xs[i] l2 with
      | none =>
        rw [e1] at q2
        exact q2.elim
      | some l3 =>
        rw [e1] at q2
        have q2 : OutP C Wx m2 H ((run c b l3 h2).turn (forL t (run c b) (xs.drop (i + 1)))) D := q2
        refine .inr ⟨g1, fun s' H' => ∃ m l h, Evo m1 H1 m H' ∧ HpOk C m h H' ∧ LocOk C m H' l s' ∧ OutP C Wx m H' (forL t (run c b) (xs.drop (i + 1)) l h) D, ?_, ?_⟩
        · rintro s' H' ⟨m', l', h', z⟩
          exact ⟨xs.length - (i + 1), by omega, rfl, hl, m', l', h', z⟩
        · intro y H3 hy
          obtain ⟨ev3, hh⟩ := g2 y H3 hy
          refine ⟨m2, l2, xs[i], l3, lo2.mono ev3, (hh _ hp2).2, e1, fun s' lo' _ => ⟨m2, l3, h2, (hh _ hp2).1, lo', ?_⟩⟩
          exact (q2.weak ev3).turn fun l4 h4 m4 s4 H4 ev4 hp4 lo4 q4 => ⟨m4, l4, h4, (ev2.trans ev3).trans ev4, hp4, lo4, q4⟩
    · have e : i = xs.length := by omega
      subst e
      rw [List.drop_length] at q2
      exact .inl ⟨w1 (rfl), q2 m2 s H (Evo.refl _ _) hp2 lo2⟩
/-- a list's items to names -/
theorem s_unl (ok : Cok g C Wx k c X) {ts : T} {e : E} {xs : List Expr} {q2 : Nat} {q3 p : Pos} {y : Expr} (h : (!g.hot && tupFolds (.Tuple xs q2 q3) y && noComp y && chkTgs g ts xs && chkE g e y) = true) : PS X (.Assign [.Tuple xs q2 q3] y p) (tS C Wx c (.unl ts e)) := by
  simp only [Bool.and_eq_true, Bool.not_eq_true'] at h
  obtain ⟨⟨⟨⟨h0, h1⟩, h2⟩, h3⟩, h4⟩ := h
  obtain ⟨a, b⟩ := chkTgs_each (env := X.env) h3
  have P := sndE ok e y h4
  have Gt := pg_unl (pos := q3) (k := q2) (ok.calm h0) (sndTgs ok ts xs h3) b a
  have hs : swapsWithSole [.Tuple xs q2 q3] y p.line X.env = pure false := by cases y <;> first | rfl | cases h2
  have hf : swappedStores [.Tuple xs q2 q3] y X.env = pure none := by
    cases y with
    | Tuple vs k2 p2 => exact folds_none h1
    | _ => rfl
  refine PS.imp (ps_asg P Gt hs hf rfl) fun D s H => ?_
  rintro ⟨m, l, h, hp, lo, o⟩
  have o : OutP C Wx m H ((evalE c e l h).out l fun v h1 => Out.opt ((asL h1 v).bind fun xs => storeL ts xs l) fun l1 => .nx l1 h1) D := o
  refine ⟨m, l, h, hp, lo, (o.res lo).imp fun v h1 m1 H1 ev hp1 q x rx => ?_⟩
  cases e1 : asL h1 v with
  | none => rw [e1] at q; exact q.elim
  | some us =>
    rw [e1] at q
    have q : OutP C Wx m1 H1 (Out.opt (storeL ts us l) fun l1 => .nx l1 h1) D := q
    cases e2 : storeL ts us l with
    | none => rw [e2] at q; exact q.elim
    | some l1 =>
      rw [e2] at q
      obtain ⟨ad, vs, rfl, hs2, hr⟩ := lst_sq hp1 rx e1
      rw [← ok.K] at hs2
      exact ⟨ad, vs, rfl, hs2, by rw [hr.length, storeL_len e2 h3], m1, l, us, l1, lo.mono ev, hr, e2, fun s' lo' _ => q m1 s' H1 (Evo.refl _ _) hp1 lo'⟩
/-! ### fields, errors -/
theorem putF_zip {f : Str} {y : V} : ∀ {ns : List Str} {vs : List V}, ns[vs.length]? = some f → (ns.take vs.length).contains f = false → putF f y (ns.zip vs) = ns.zip (vs ++ [y])
  | [], vs, h, _ => by simp at h
  | n :: ns, [], h, _ => by
    have e : n = f := by simpa using h
    subst e
    simp [putF]
  | n :: ns, v :: vs, h, hc => by
    have h2 : ns[vs.length]? = some f := by simpa using h
    have hc2 : (f == n) = false ∧ (ns.take vs.length).contains f = false := by
      have z : ((n :: ns).take (vs.length + 1)).contains f = false := hc
      rw [List.take_succ_cons, List.contains_cons, Bool.or_eq_false_iff] at z
      exact z
    have ne : ¬ n = f := fun z => by
      rw [z] at hc2
      simp at hc2
    show putF f y ((n, v) :: ns.zip vs) = (n, v) :: ns.zip (vs ++ [y])
    rw [← putF_zip h2 hc2.2]
    simp [putF, ne]
theorem s_setf (ok : Cok g C Wx k c X) {o e : E} {f n : Str} {x z : Expr} {p1 p2 : Pos} (h : (decide (f = n) && noComp z) = true) (ho : PE X x (tE C Wx c o)) (he : PE X z (tE C Wx c e)) : PS X (.Assign [.Attribute x n p1] z p2) (tS C Wx c (.setf o f e)) := by
  simp only [Bool.and_eq_true, decide_eq_true_eq] at h
  obtain ⟨rfl, h2⟩ := h
  refine PS.imp (ps_fld ho he (swaps_no h2)) fun D s H => ?_
  rintro ⟨m, l, h, hp, lo, r⟩
  have r : OutP C Wx m H ((evalE c e l h).out l fun v h1 => (evalE c o l h1).out l fun x h2 => Out.opt (setfO c.t h2 x f v) fun h3 => .nx l h3) D := r
  refine ⟨m, l, h, hp, lo, (r.res lo).imp fun v h1 m1 H1 ev1 hp1 q1 y ry => ?_⟩
  have lo1 := lo.mono ev1
  refine ⟨m1, l, h1, hp1, lo1, (q1.res lo1).imp fun u h2 m2 H2 ev2 hp2 q2 x' rx => ?_⟩
  have lo2 := lo1.mono ev2
  cases e1 : setfO c.t h2 u f v with
  | none => rw [e1] at q2; exact q2.elim
  | some h3 =>
    rw [e1] at q2
    unfold setfO at e1
    split at e1
    · rename_i n
      obtain ⟨a, rfl, ha⟩ := rx
      split at e1
      · rename_i cc fs hx
        split at e1
        · rename_i hc
          cases e1
          rw [ok.tb] at hc
          obtain ⟨c1, c2, c3, c4, c5⟩ := hc
          obtain ⟨dx, vs, g1, g2, g3, g4, g5⟩ := hp2.obj n _ a hx ha
          obtain ⟨k1, k2⟩ := ok.wd.cls cc c1
          rw [← ok.K] at k1 k2
          have hl := g4.length
          have ez : putF f y ((C.g.t.fl cc).zip vs) = (C.g.t.fl cc).zip (vs ++ [y]) := putF_zip (by rw [hl]; exact c2) (by rw [hl]; exact c5)
          have lz : ((C.g.t.fl cc).zip vs).length < 1000 := by
            rw [List.length_zip, hl]
            omega
          refine ⟨a, _, dx, _, rfl, g1, k1, k2 f (List.mem_of_getElem? c2), lz, ?_⟩
          rw [ez]
          have put := hp2.put (o := .ins cc (fs ++ [v])) (u := .ins (C.g.ca cc) dx ((C.g.t.fl cc).zip (vs ++ [y]))) ha ⟨dx, vs ++ [y], upd_same, by
              rw [List.length_append]
              have := (List.getElem?_eq_some_iff.mp c2).1
              simp
              omega, g3, (g4.append (show RepL C.g m2 H2 [v] [y] from ⟨y, [], rfl, ry.mono ev2, rfl⟩)).mono (Evo.put ha), refsLtL_mem.mpr fun w hw => by
              rcases List.mem_append.mp hw with z | z
              · exact refsLtL_mem.mp g5 w z
              · have z : w = v := by simpa using z
                rw [z]
                exact c3⟩
          exact q2 m2 s _ put.2 put.1 (lo2.mono put.2)
        · cases e1
      · cases e1
    · cases e1
theorem s_rais (ok : Cok g C Wx k c X) {j : Nat} {es : E} {n : Str} {ys : List Expr} {p p2 p3 : Pos} (h : (!g.hot && decide (g.cn[j]? = some n) && gloB g.ns n && nameOk n && decide (ys.length ≤ 1)) = true) (he : chkEs g es ys = true) (ha : PA X ys (tEs C Wx c es)) :
    PS X (.Raise (some (.Call (.Name n p) ys [] p2)) none p3) (tS C Wx c (.rais j es)) := by
  simp only [Bool.and_eq_true, decide_eq_true_eq, Bool.not_eq_true'] at h
  obtain ⟨⟨⟨⟨h0, h1⟩, h2⟩, h3⟩, h4⟩ := h
  obtain ⟨d1, d2, d3⟩ := nameOk_d h3
  have hm := ok.cn j n h1
  cases hr : raisOk c j es with
  | false =>
    refine ⟨fun pins s σ H D I z => ?_⟩
    obtain ⟨m, l, h, hp, lo, r⟩ := z
    have r : OutP C Wx m H (if raisOk c j es then _ else .bad) D := r
    rw [hr, if_neg Bool.false_ne_true] at r
    exact r.elim
  | true =>
    have red : ∀ {m : List Addr} {H : Hp} {l : Loc} {h : Heap} {D : Ends}, OutP C Wx m H (run c (.rais j es) l h) D → OutP C Wx m H ((evalEs c es l h).out l fun vs h1 => raisO j vs l h1) D := fun {m H l h D} r => by
      have r : OutP C Wx m H (if raisOk c j es then (evalEs c es l h).out l fun vs h1 => raisO j vs l h1 else .bad) D := r
      rw [hr, if_pos rfl] at r
      exact r
    unfold raisOk at hr
    rw [Bool.and_eq_true, ok.tb] at hr
    obtain ⟨hX, hr⟩ := hr
    obtain ⟨E0, E1, E2⟩ := ok.wd.ex j hX
    rw [← ok.K] at E0 E1 E2
    cases hf : C.g.t.xf j with
    | none =>
      rw [hf] at hr
      cases es with
      | nl =>
        cases ys with
        | nil =>
          refine PS.imp (ps_raise (W := Wx) (ok.calm h0) ok.tk (mk0 E0 (E1 hf) (ok.glo h2) hm d1)) fun D s H => ?_
          rintro ⟨m, l, h, hp, lo, r⟩
          have r := red r
          have r : OutP C Wx m H (.exc j .non l h) D := r
          refine r m s H none (Evo.refl _ _) hp lo ?_
          unfold XAt
          rw [hf]
        | cons _ _ => cases he
      | _ => cases hr
    | some f =>
      rw [hf] at hr
      cases es with
      | cs a rest =>
        cases rest with
        | nl =>
          cases ys with
          | nil => cases he
          | cons y ys =>
            cases ys with
            | cons _ _ => exact absurd h4 (by simp)
            | nil =>
              obtain ⟨st, sr⟩ := chkEs_cons (env := X.env) he
              have hlv : 2 ≤ k := by
                rw [← ok.lv]
                exact of_decide_eq_true hr
              refine PS.imp (ps_raise (W := Wx) (ok.calm h0) ok.tk (mk1 (E2 f hf) ((ok.room h0).mono hlv) ok.tk (ok.glo h2) hm ha d1 st)) fun D s H => ?_
              rintro ⟨m, l, h, hp, lo, r⟩
              have r := red r
              refine ⟨m, l, h, hp, lo, ?_⟩
              have r := r.res lo
              cases e : evalEs c (.cs a .nl) l h with
              | bad => rw [e] at r; exact r
              | exc _ _ _ => rw [e] at r; exact r
              | ok vs h1 =>
                rw [e] at r
                have hl : vs.length = 1 := evalEs_len he e
                intro m1 H1 ev1 hp1 xs rx
                have q := r m1 H1 ev1 hp1
                match vs, hl with
                | [v], _ =>
                  obtain ⟨y, r0, rfl, ry, rfl⟩ := rx
                  refine mk1_post (K := X.K) (fn := f) (Q := fun cls d H' => Wx cls d s H') ⟨y, rfl, fun d nd => ?_⟩
                  refine (show OutP C Wx m1 H1 (.exc j v l h1) D from q) m1 s _ (some d) (Evo.lay nd) (hp1.lay nd).1 ((lo.mono ev1).mono (Evo.lay nd)) ?_
                  unfold XAt
                  rw [hf]
                  exact ⟨d, y, rfl, ry.mono (Evo.lay nd), upd_same, hp1.notIn nd⟩
        | _ => cases hr
      | _ => cases hr
/-- the context of an except suite -/
def gcX (G : Gk) (i : Option Nat) (a : Addr) (m0 : List Addr) (H0 : Hp) : Gc := ⟨G, fun m H => Evo m0 H0 m H, fun _ _ _ _ h e => h.trans e, i.map fun i => (i, a)⟩
theorem hp_x {G : Gk} {i : Option Nat} {a : Addr} {m : List Addr} {h : Heap} {H : Hp} (hp : HpOk (gc0 G) m h H) : HpOk (gcX G i a m H) m h H := ⟨hp.len, hp.nd, hp.obj, Evo.refl _ _⟩
theorem hp_o {G : Gk} {i : Option Nat} {a : Addr} {m m' : List Addr} {h : Heap} {H H' : Hp} (hp : HpOk (gcX G i a m H) m' h H') : HpOk (gc0 G) m' h H' := ⟨hp.len, hp.nd, hp.obj, trivial⟩
theorem lo_o {G : Gk} {i : Option Nat} {a : Addr} {m m' : List Addr} {l : Loc} {s : St} {H H' : Hp} (lo : LocOk (gcX G i a m H) m' H' l s) : LocOk (gc0 G) m' H' l s := ⟨lo.len, lo.get, fun i a z => by cases z⟩
theorem lo_none {G : Gk} {m : List Addr} {l : Loc} {s : St} {H : Hp} (i : Nat) (lo : LocOk (gc0 G) m H l s) (o : Option V) : LocOk (gc0 G) m H (l.set i none) (s.set i o) := by
  refine ⟨by simp [lo.len], fun j w q => ?_, fun j a z => by cases z⟩
  by_cases hj : i = j
  · subst hj
    by_cases hl : i < l.length
    · rw [List.getElem?_set_self hl] at q
      cases q
    · rw [List.getElem?_eq_none (by simpa using hl)] at q
      cases q
  · rw [List.getElem?_set_ne hj] at q ⊢
    exact lo.get j w q
/-- what a suite leaves, outside it -/
theorem out_o {G : Gk} {i : Option Nat} {a : Addr} {m : List Addr} {H : Hp} {o : Out} {D : Ends} {Wx : WX} (q : OutP (gc0 G) Wx m H (o.unx i) D) :
    OutP (gcX G i a m H) W0 m H o { nx := fun s' H' => D.nx (match i with | some i => s'.set i none | none => s') H', rt := D.rt, bk := fun s' H' => D.bk (match i with | some i => s'.set i none | none => s') H', ct := fun s' H' => D.ct (match i with | some i => s'.set i none | none => s') H' } := by
  cases o with
  | nx l h =>
    intro m' s' H' ev hp lo
    cases i with
    | none => exact q m' s' H' ev (hp_o hp) (lo_o lo)
    | some i => exact q m' _ H' ev (hp_o hp) (lo_none i (lo_o lo) none)
  | rt v h => exact fun m' x H' ev hp r => q m' x H' ev (hp_o hp) r
  | bk l h =>
    intro m' s' H' ev hp lo
    cases i with
    | none => exact q m' s' H' ev (hp_o hp) (lo_o lo)
    | some i => exact q m' _ H' ev (hp_o hp) (lo_none i (lo_o lo) none)
  | ct l h =>
    intro m' s' H' ev hp lo
    cases i with
    | none => exact q m' s' H' ev (hp_o hp) (lo_o lo)
    | some i => exact q m' _ H' ev (hp_o hp) (lo_none i (lo_o lo) none)
  | exc cc v l h => exact (show False from q).elim
  | bad => exact q
end
end MP
/-! MP, try, and the whole of statements. -/
namespace MP
open PySem L2
theorem Cok.tr {g : Stc} {C : Gc} {Wx W : WX} {k : Nat} {c : Cf} {X : Cx} (ok : Cok g C Wx k c X) (hh : g.hot = false) {pn : List (Addr × PySem.Obj)} {xe : Value → Shared → Prop} (tk : Takes (X.tr pn xe) W) (po : PassesOwn (model X.prog X.w) X.A X.env xe) : Cok g C W k c (X.tr pn xe) :=
  { K := ok.K, N := ok.N, nd := ok.nd, ns := ok.ns, kd := ok.kd, calm := ok.calm, un := ok.un, room := ok.room, gd := ok.gd, tk := tk, po := po, fnc := ok.fnc, bn := ok.bn, tb := ok.tb, lv := ok.lv, gl := ok.gl, c0 := ok.c0, wd := ok.wd, cn := ok.cn, fn := ok.fn, fok := ok.fok, fok1 := ok.fok1, mtl := ok.mtl,
    hx := fun z => by rw [hh] at z; cases z }
theorem Cok.sx {g : Stc} {C : Gc} {Wx : WX} {k : Nat} {c : Cf} {X : Cx} (ok : Cok g C Wx k c X) (hh : g.hot = false) {i : Option Nat} {a : Addr} {oe : PySem.Obj} {d : Option Addr} {pn : List (Addr × PySem.Obj)} {cc : Nat} {v : Val} {m0 : List Addr} {H0 : Hp} (hz : Zc (.ref (C.g.ca cc)) d oe) (hf : ∃ vs, oe.data = .fields vs)
    (xa : XAt C.g m0 H0 cc v d) : Cok ⟨g.N, g.ns, g.tn, g.fn, g.bn, g.gl, g.cn, true, i⟩ (gcX C.g i a m0 H0) W0 k { c with exn := some (cc, v) } (X.suite a ((a, oe) :: pn)) :=
  { K := ok.K, N := ok.N, nd := ok.nd, ns := ok.ns, kd := ok.kd, calm := (fun z => by cases z), un := ok.un, room := (fun z => by cases z), gd := ok.gd, tk := takes0, po := PassesOwn.never, fnc := ok.fnc, bn := ok.bn, tb := ok.tb, lv := ok.lv,
    gl := (fun x v hx hv => by
      obtain ⟨y, u, h1, h2, h3⟩ := ok.gl x v hx hv
      exact ⟨y, u, h1, h2, fun m H h hp => h3 m H h (by rw [ok.c0 hh]; exact hp_o hp)⟩),
    c0 := (fun z => by cases z), wd := ok.wd, cn := ok.cn, fn := ok.fn, fok := ok.fok, fok1 := ok.fok1, mtl := ok.mtl,
    hx := fun _ => ⟨X, a, oe, d, pn, cc, v, m0, H0, rfl, hz, hf, rfl, rfl, fun m H h => h, xa⟩ }
section
variable {g : Stc} {C : Gc} {Wx : WX} {k : Nat} {c : Cf} {X : Cx}
/-- the suite, of any error that may come -/
def tsX (C : Gc) (c : Cf) (i : Option Nat) (s : S) : Addr → Value → Option Addr → TS := fun a cls d D σ H => ∃ cc v m0 H0, cls = .ref (C.g.ca cc) ∧ XAt C.g m0 H0 cc v d ∧ tS (gcX C.g i a m0 H0) W0 { c with exn := some (cc, v) } s D σ H
theorem lo_x {G : Gk} {i : Nat} {a : Addr} {m : List Addr} {l : Loc} {s : St} {H : Hp} (lo : LocOk (gc0 G) m H l s) : LocOk (gcX G (some i) a m H) m H (l.set i none) (s.set i (some (.ref a))) := by
  have z := lo_none i lo (some (.ref a))
  refine ⟨z.len, z.get, fun j b e q => ?_⟩
  have e : some (i, a) = some (j, b) := e
  cases e
  have hl : i < l.length := by
    have := (List.getElem?_eq_some_iff.mp q).1
    simpa using this
  rw [List.getElem?_set_self (by rw [← lo.len]; exact hl)]
theorem lo_x0 {G : Gk} {a : Addr} {m : List Addr} {l : Loc} {s : St} {H : Hp} (lo : LocOk (gc0 G) m H l s) : LocOk (gcX G none a m H) m H l s := ⟨lo.len, lo.get, fun j b e => by cases e⟩
theorem s_tri (ok : Cok g C Wx k c X) (hs1 : X.stack = X.env :: X.outer) (hs2 : X.env.frame = some X.env.locals) {b s : S} {j : Nat} {i : Option Nat} {n : Str} {nm : Option Str} {ys zs : List Stmt} {z : Stmt} {np p p' : Pos}
    (h : (!g.hot && decide (g.cn[j]? = some n) && gloB g.ns n && nameOk n && (match i, nm with
        | none, none => true
        | some i, some y => decide (g.N[i]? = some y) && locB g.ns y
        | _, _ => false)) = true)
    (hb : ∀ (W : WX) (pn : List (Addr × PySem.Obj)) (xe : Value → Shared → Prop), Takes (X.tr pn xe) W → PassesOwn (model X.prog X.w) X.A X.env xe → PSs (X.tr pn xe) ys (tS C W c b))
    (hs : ∀ (a : Addr) (oe : PySem.Obj) (d : Option Addr) (pn : List (Addr × PySem.Obj)) (cc : Nat) (v : Val) (m0 : List Addr) (H0 : Hp), Zc (.ref (C.g.ca cc)) d oe → (∃ vs, oe.data = .fields vs) → XAt C.g m0 H0 cc v d →
      PSs (X.suite a ((a, oe) :: pn)) (z :: zs) (tS (gcX C.g i a m0 H0) W0 { c with exn := some (cc, v) } s)) :
    PS X (.Try ys [.ExceptHandler (some (.Name n np)) nm (z :: zs) p'] [] [] p) (tS C Wx c (.tri b j i s)) := by
  simp only [Bool.and_eq_true, decide_eq_true_eq, Bool.not_eq_true'] at h
  obtain ⟨⟨⟨⟨h0, h1⟩, h2⟩, h3⟩, h4⟩ := h
  obtain ⟨d1, d2, d3⟩ := nameOk_d h3
  have nms : Names X n (.ref (C.g.ca j)) := ⟨ok.glo h2, d1, .inl (ok.cn j n h1)⟩
  have su : ∀ (a : Addr) (oe : PySem.Obj) (cls : Value) (d : Option Addr) (pn : List (Addr × PySem.Obj)), Zc cls d oe → (∃ vs, oe.data = .fields vs) → PSs (X.suite a ((a, oe) :: pn)) (z :: zs) (tsX C c i s a cls d) := fun a oe cls d pn hz hf => ⟨fun pins sh σ H D I q => by
    obtain ⟨cc, v, m0, H0, rfl, xa, q⟩ := q
    exact (hs a oe d pn cc v m0 H0 hz hf xa).run pins sh σ H D I q⟩
  have c0 := ok.c0 h0
  have key : ∀ (W : Ends → WX), (∀ D e v l1 h1 m' s' H' d, OutP C Wx m' H' ((Out.exc e v l1 h1).tri c j i (fun c' => run c' s)) D → HpOk C m' h1 H' → LocOk C m' H' l1 s' → XAt C.g m' H' e v d → W D (.ref (C.g.ca e)) d s' H') →
      ∀ D s0 H, tS C Wx c (.tri b j i s) D s0 H → tS C (W D) c b D s0 H := by
    rintro W hW D s0 H ⟨m, l, h, hp, lo, r⟩
    have r : OutP C Wx m H ((run c b l h).tri c j i (fun c' => run c' s)) D := r
    refine ⟨m, l, h, hp, lo, ?_⟩
    cases he : run c b l h with
    | nx l1 h1 => rw [he] at r; exact r
    | rt v h1 => rw [he] at r; exact r
    | bk l1 h1 => rw [he] at r; exact r
    | ct l1 h1 => rw [he] at r; exact r
    | bad => rw [he] at r; exact r
    | exc e v l1 h1 =>
      rw [he] at r
      exact fun m' s' H' d ev hp' lo' xa => hW D e v l1 h1 m' s' H' d (r.weak ev) hp' lo' xa
  have sub : ∀ {e : Nat}, (c.t.isX e && c.t.isX j) = true → PySem.W.exmOne X.K (.ref (C.g.ca e)) (.ref (C.g.ca j)) = some (c.t.sub e j) := fun {e} z => by
    rw [Bool.and_eq_true, ok.tb] at z
    rw [ok.K, ok.tb]
    exact (ok.wd.sub e j z.1 z.2).1
  have rw0 : ∀ {D : Ends} {e : Nat} {v : Val} {l1 : Loc} {h1 : Heap} {m' : List Addr} {H' : Hp}, OutP C Wx m' H' ((Out.exc e v l1 h1).tri c j i (fun c' => run c' s)) D → (c.t.isX e && c.t.isX j) = true ∧
      OutP C Wx m' H' (if c.t.sub e j then (run { c with exn := some (e, v) } s (slotX i l1) h1).unx i else .exc e v l1 h1) D := fun {D e v l1 h1 m' H'} r => by
    have r : OutP C Wx m' H' (if c.t.isX e && c.t.isX j then if c.t.sub e j then (run { c with exn := some (e, v) } s (slotX i l1) h1).unx i else .exc e v l1 h1 else .bad) D := r
    by_cases hx : (c.t.isX e && c.t.isX j) = true
    · rw [if_pos hx] at r
      exact ⟨hx, r⟩
    · rw [if_neg hx] at r
      exact r.elim
  cases i with
  | none =>
    cases nm with
    | some _ => cases h4
    | none =>
      refine PS.imp (ps_try_only (tb := fun W => tS C W c b) (ts := tsX C c none s) hs1 hs2 nms ok.tk hb su) (key (fun D => wOnly X.K (.ref (C.g.ca j)) (tsX C c none s) Wx D) ?_)
      intro D e v l1 h1 m' s' H' d r hp' lo' xa
      obtain ⟨hx, r⟩ := rw0 r
      refine ⟨_, sub hx, fun hb a na => ?_, fun hb => ?_⟩
      · rw [if_pos hb] at r
        rw [c0] at r hp' lo'
        exact ⟨e, v, m', H', rfl, xa, m', l1, h1, hp_x hp', lo_x0 lo', out_o (i := none) r⟩
      · rw [if_neg (by rw [hb]; exact Bool.false_ne_true)] at r
        exact r m' s' H' d (Evo.refl _ _) hp' lo' xa
  | some i =>
    cases nm with
    | none => cases h4
    | some y =>
      have h4 : (decide (g.N[i]? = some y) && locB g.ns y) = true := h4
      rw [Bool.and_eq_true, decide_eq_true_eq] at h4
      have loc : X.env.scope.names.lookup y = some .local := by
        have h5 := h4.2
        unfold locB at h5
        rw [← ok.ns] at h5
        split at h5
        · assumption
        · cases h5
      refine PS.imp (ps_try_as (i := i) (tb := fun W => tS C W c b) (ts := tsX C c (some i) s) hs1 hs2 (by rw [ok.N]; exact ok.nd) (by rw [ok.N]; exact h4.1) loc nms ok.tk hb su) (key (fun D => wAs X.K (.ref (C.g.ca j)) i (tsX C c (some i) s) Wx D) ?_)
      intro D e v l1 h1 m' s' H' d r hp' lo' xa
      obtain ⟨hx, r⟩ := rw0 r
      refine ⟨_, sub hx, fun hb a na => ?_, fun hb => ?_⟩
      · rw [if_pos hb] at r
        rw [c0] at r hp' lo'
        exact ⟨e, v, m', H', rfl, xa, m', l1.set i none, h1, hp_x hp', lo_x lo', out_o (i := some i) r⟩
      · rw [if_neg (by rw [hb]; exact Bool.false_ne_true)] at r
        exact r m' s' H' d (Evo.refl _ _) hp' lo' xa
end
mutual
theorem sndS_ {k : Nat} : ∀ (s : S) (g : Stc) (C : Gc) (Wx : WX) (c : Cf) (X : Cx), Cok g C Wx k c X → X.stack = X.env :: X.outer → X.env.frame = some X.env.locals → ∀ st : Stmt, chkS g s st = true → PS X st (tS C Wx c s)
  | .nop, g, C, Wx, c, X, ok, a1, a2, st, h => by cases h
  | .seq _ _, g, C, Wx, c, X, ok, a1, a2, st, h => by cases h
  | .scope _, g, C, Wx, c, X, ok, a1, a2, st, h => by cases h
  | .asg t e, g, C, Wx, c, X, ok, a1, a2, st, h => by
    dsimp only [chkS] at h
    split at h
    · exact s_asg ok h
    · cases h
  | .asgc i e, g, C, Wx, c, X, ok, a1, a2, st, h => by
    dsimp only [chkS] at h
    split at h
    · exact s_asgc ok h
    · cases h
  | .par i j es, g, C, Wx, c, X, ok, a1, a2, st, h => by
    dsimp only [chkS] at h
    split at h
    · exact s_par ok h
    · cases h
  | .setix o i e, g, C, Wx, c, X, ok, a1, a2, st, h => by
    dsimp only [chkS] at h
    split at h
    · exact s_setix ok h
    · cases h
  | .ret e, g, C, Wx, c, X, ok, a1, a2, st, h => by
    dsimp only [chkS] at h
    split at h
    · exact s_ret ok h
    · cases h
  | .exp e, g, C, Wx, c, X, ok, a1, a2, st, h => by
    dsimp only [chkS] at h
    split at h
    · exact s_exp ok h
    · cases h
  | .unl ts e, g, C, Wx, c, X, ok, a1, a2, st, h => by
    dsimp only [chkS] at h
    split at h
    · exact s_unl ok h
    · cases h
  | .aug i e, g, C, Wx, c, X, ok, a1, a2, st, h => by
    dsimp only [chkS] at h
    split at h
    · exact s_aug ok h
    · cases h
  | .gif i n a b, g, C, Wx, c, X, ok, a1, a2, st, h => by
    have h2 : (chkS g a st && chkS g b st) = true := h
    rw [Bool.and_eq_true] at h2
    have pa := sndS_ a _ _ _ _ _ ok a1 a2 st h2.1
    have pb := sndS_ b _ _ _ _ _ ok a1 a2 st h2.2
    refine ⟨fun pins s σ H D I z => ?_⟩
    obtain ⟨m, l, h, hp, lo, o⟩ := z
    have o : OutP C Wx m H (if gTup i n l = true then run c a l h else run c b l h) D := o
    by_cases e : gTup i n l = true
    · rw [if_pos e] at o
      exact pa.run pins s σ H D I ⟨m, l, h, hp, lo, o⟩
    · rw [if_neg e] at o
      exact pb.run pins s σ H D I ⟨m, l, h, hp, lo, o⟩
  | .brk, g, C, Wx, c, X, ok, a1, a2, st, h => by
    dsimp only [chkS] at h
    split at h
    · refine PS.imp ps_break fun D s H => ?_
      rintro ⟨m, l, h, hp, lo, r⟩
      exact r m s H (Evo.refl _ _) hp lo
    · cases h
  | .setf o f e, g, C, Wx, c, X, ok, a1, a2, st, h => by
    dsimp only [chkS] at h
    split at h
    · rw [Bool.and_eq_true, Bool.and_eq_true] at h
      exact s_setf ok h.1.1 (sndE ok o _ h.1.2) (sndE ok e _ h.2)
    · cases h
  | .rais j es, g, C, Wx, c, X, ok, a1, a2, st, h => by
    dsimp only [chkS] at h
    split at h
    · rw [Bool.and_eq_true] at h
      exact s_rais ok h.1 h.2 (sndEs ok es _ h.2)
    · cases h
  | .tri b j i s, g, C, Wx, c, X, ok, a1, a2, st, h => by
    dsimp only [chkS] at h
    split at h
    · rw [Bool.and_eq_true, Bool.and_eq_true] at h
      have hh : g.hot = false := by
        have z := h.1.1
        simp only [Bool.and_eq_true, Bool.not_eq_true'] at z
        exact z.1.1.1.1
      exact s_tri ok a1 a2 h.1.1 (fun W pn xe tk po => sndSs_ b _ _ _ _ _ (ok.tr hh tk po) a1 a2 _ h.1.2) (fun a oe d pn cc v m0 H0 hz hf xa => sndSs_ s _ _ _ _ _ (ok.sx hh hz hf xa) a1 a2 _ h.2)
    · cases h
  | .ite t a b, g, C, Wx, c, X, ok, a1, a2, st, h => by
    dsimp only [chkS] at h
    split at h
    · simp only [Bool.and_eq_true] at h
      exact s_ite (sndT ok t _ h.1.1) (sndSs_ a _ _ _ _ _ ok a1 a2 _ h.1.2) (sndSs_ b _ _ _ _ _ ok a1 a2 _ h.2)
    · cases h
  | .whl t b, g, C, Wx, c, X, ok, a1, a2, st, h => by
    dsimp only [chkS] at h
    split at h
    · rw [Bool.and_eq_true] at h
      exact s_whl ok (sndT ok t _ h.1) (sndSs_ b _ _ _ _ _ ok a1 a2 _ h.2)
    · cases h
  | .for_ t it b, g, C, Wx, c, X, ok, a1, a2, st, h => by
    dsimp only [chkS] at h
    split at h
    · simp only [Bool.and_eq_true, Bool.not_eq_true'] at h
      obtain ⟨⟨⟨⟨⟨h8, h9⟩, h1⟩, h2⟩, h3⟩, h4⟩ := h
      exact s_for ok h8 (sndI ok it _ h3 _ h9) (fold_no h1) (sndTg ok t _ h2) (sndSs_ b _ _ _ _ _ ok a1 a2 _ h4)
    · cases h
theorem sndSs_ {k : Nat} : ∀ (s : S) (g : Stc) (C : Gc) (Wx : WX) (c : Cf) (X : Cx), Cok g C Wx k c X → X.stack = X.env :: X.outer → X.env.frame = some X.env.locals → ∀ st : List Stmt, chkSs g s st = true → PSs X st (tS C Wx c s)
  | .nop, g, C, Wx, c, X, ok, a1, a2, st, h => by
    cases st with
    | nil =>
      refine PSs.imp pss_nil fun D s H => ?_
      rintro ⟨m, l, h, hp, lo, r⟩
      exact r m s H (Evo.refl _ _) hp lo
    | cons _ _ => cases h
  | .seq s r, g, C, Wx, c, X, ok, a1, a2, st, h => by
    cases st with
    | nil => cases h
    | cons y ys =>
      have h2 : (chkS g s y && chkSs g r ys) = true := h
      rw [Bool.and_eq_true] at h2
      refine PSs.imp (pss_cons (sndS_ s _ _ _ _ _ ok a1 a2 y h2.1) (sndSs_ r _ _ _ _ _ ok a1 a2 ys h2.2)) fun D s0 H => ?_
      rintro ⟨m, l, h, hp, lo, o⟩
      have o : OutP C Wx m H ((run c s l h).thn (run c r)) D := o
      exact ⟨m, l, h, hp, lo, o.thn (D1 := { D with nx := _ }) (fun l2 h2 m2 s2 H2 ev2 hp2 lo2 q2 => ⟨m2, l2, h2, hp2, lo2, q2⟩) rfl rfl rfl⟩
  | .scope b, g, C, Wx, c, X, ok, a1, a2, st, h => by
    have h2 : (!g.hot && chkSs g b st) = true := h
    rw [Bool.and_eq_true, Bool.not_eq_true'] at h2
    refine PSs.imp (sndSs_ b _ _ _ _ _ ok a1 a2 st h2.2) fun D s0 H => ?_
    rintro ⟨m, l, h, hp, lo, o⟩
    exact ⟨m, l, h, hp, lo, OutP.trim (by rw [ok.c0 h2.1]; rfl) hp o⟩
  | .asg _ _, g, C, Wx, c, X, ok, a1, a2, st, h | .asgc _ _, g, C, Wx, c, X, ok, a1, a2, st, h | .par _ _ _, g, C, Wx, c, X, ok, a1, a2, st, h | .setix _ _ _, g, C, Wx, c, X, ok, a1, a2, st, h | .ret _, g, C, Wx, c, X, ok, a1, a2, st, h | .exp _, g, C, Wx, c, X, ok, a1, a2, st, h | .ite _ _ _, g, C, Wx, c, X, ok, a1, a2, st, h | .whl _ _, g, C, Wx, c, X, ok, a1, a2, st, h | .for_ _ _ _, g, C, Wx, c, X, ok, a1, a2, st, h
  | .aug _ _, g, C, Wx, c, X, ok, a1, a2, st, h | .gif _ _ _ _, g, C, Wx, c, X, ok, a1, a2, st, h | .unl _ _, g, C, Wx, c, X, ok, a1, a2, st, h | .brk, g, C, Wx, c, X, ok, a1, a2, st, h | .setf _ _ _, g, C, Wx, c, X, ok, a1, a2, st, h | .rais _ _, g, C, Wx, c, X, ok, a1, a2, st, h | .tri _ _ _ _, g, C, Wx, c, X, ok, a1, a2, st, h => by cases h
end
end MP
/-! MP, defs and the law's end. -/
namespace MP
open PySem L2

/-- a def of the text: its name, its place, its slots' names, its parameters -/
structure Dn where
  name : Str
  qual : Str
  st : Stmt
  N : List Str
  ps : List Str
/-- the def's text is what the small language's def was read from -/
def okDef (fn bn gl cn : List Str) (d : Dn) (f : Fn) : Bool := decide (f.n = d.N.length) && decide (f.np = d.ps.length) && chkSs ⟨d.N, (defScope d.st).names, (defScope d.st).names, fn, bn, gl, cn, false, none⟩ f.body (defBody d.st)
/-- a def as it stands -/
structure DefAt (K : PySem.W.Frag) (d : Dn) (fa : Addr) (fd : FuncData) : Prop where
  sc : FnScope d.N d.ps (defScope d.st)
  fn : Fun K d.name d.qual d.st fa fd
  bi : Binds K fd d.ps []

section
variable {C : Gc}
mutual
theorem fz_ok {m m1 : List Addr} {H1 : Hp} {h1 : Heap} (hm : ∃ n, m1 = m ++ n) (hp1 : HpOk C m1 h1 H1) : ∀ {v w : Val} {x : V}, RepV C.g m1 H1 v x → fz h1 m.length v = some w → RepV C.g m H1 w x
  | .non, w, x, r, e => by cases e; exact r
  | .bl _, w, x, r, e => by cases e; exact r
  | .int _, w, x, r, e => by cases e; exact r
  | .str _, w, x, r, e => by cases e; exact r
  | .ty _, w, x, r, e => by cases e; exact r
  | .rol xs, w, x, r, e => by
    obtain ⟨n, en⟩ := hm
    have e : (if refsLtL m.length xs = true then some (Val.rol xs) else none) = some w := e
    by_cases q : refsLtL m.length xs = true
    · rw [if_pos q] at e
      cases e
      exact RepV.place (b := m.length) (fun a o _ na z => na (by rw [en]; exact List.mem_append_left _ z)) (fun k a hk e2 => by rw [en, List.getElem?_append_left hk] at e2; exact e2) (v := .rol xs) q r
    · rw [if_neg q] at e
      cases e
  | .dct ks xs, w, x, r, e => by
    obtain ⟨n, en⟩ := hm
    have e : (if refsLtL m.length xs = true then some (Val.dct ks xs) else none) = some w := e
    by_cases q : refsLtL m.length xs = true
    · rw [if_pos q] at e
      cases e
      exact RepV.place (b := m.length) (fun a o _ na z => na (by rw [en]; exact List.mem_append_left _ z)) (fun k a hk e2 => by rw [en, List.getElem?_append_left hk] at e2; exact e2) (v := .dct ks xs) q r
    · rw [if_neg q] at e
      cases e
  | .cls _, w, x, r, e => by cases e; exact r
  | .ins cc xs, w, x, r, e => by
    obtain ⟨n, en⟩ := hm
    have e : (if refsLtL m.length xs = true then some (Val.ins cc xs) else none) = some w := e
    by_cases q : refsLtL m.length xs = true
    · rw [if_pos q] at e
      cases e
      exact RepV.place (b := m.length) (fun a o _ na z => na (by rw [en]; exact List.mem_append_left _ z)) (fun k a hk e2 => by rw [en, List.getElem?_append_left hk] at e2; exact e2) (v := .ins cc xs) q r
    · rw [if_neg q] at e
      cases e
  | .lst xs, w, x, r, e => by
    obtain ⟨n, en⟩ := hm
    have e : (if refsLtL m.length xs = true then some (Val.lst xs) else none) = some w := e
    by_cases q : refsLtL m.length xs = true
    · rw [if_pos q] at e
      cases e
      exact RepV.place (b := m.length) (fun a o _ na z => na (by rw [en]; exact List.mem_append_left _ z)) (fun k a hk e2 => by rw [en, List.getElem?_append_left hk] at e2; exact e2) (v := .lst xs) q r
    · rw [if_neg q] at e
      cases e
  | .tup xs, w, x, r, e => by
    obtain ⟨n, en⟩ := id hm
    have e : (match fzL h1 m.length xs with | some ys => some (Val.tup ys) | none => none) = some w := e
    cases q : fzL h1 m.length xs with
    | none => rw [q] at e; cases e
    | some ys =>
      rw [q] at e
      cases e
      obtain ⟨a, vs, rfl, ha, hr⟩ := r
      refine ⟨a, vs, rfl, ?_, fzL_ok hm hp1 hr q⟩
      rcases ha with ⟨na, ha⟩ | ha
      · exact .inl ⟨fun z => na (by rw [en]; exact List.mem_append_left _ z), ha⟩
      · exact .inr ha
  | .ref k, w, x, r, e => by
    obtain ⟨n, en⟩ := hm
    obtain ⟨a, rfl, ha⟩ := r
    have e : (if k < m.length then some (Val.ref k) else match h1[k]? with | some (.lst xs) => some (Val.lst xs) | some (.ins c xs) => some (Val.ins c xs) | none => none) = some w := e
    by_cases hk : k < m.length
    · rw [if_pos hk] at e
      cases e
      rw [en, List.getElem?_append_left hk] at ha
      exact ⟨a, rfl, ha⟩
    · rw [if_neg hk] at e
      cases q : h1[k]? with
      | none => rw [q] at e; cases e
      | some o =>
        rw [q] at e
        cases o with
        | lst xs =>
          cases e
          obtain ⟨vs, e1, r1, p1⟩ := hp1.obj k _ a q ha
          have na : a ∉ m := fun z => by
            obtain ⟨j, hj, ej⟩ := List.mem_iff_getElem.mp z
            have e3 : m1[j]? = some a := by
              rw [en, List.getElem?_append_left hj, List.getElem?_eq_getElem hj, ej]
            have e4 := nd_ix hp1.nd e3 ha
            omega
          refine ⟨a, vs, rfl, ⟨na, e1⟩, ?_⟩
          exact r1.place (fun b o _ nb z => nb (by rw [en]; exact List.mem_append_left _ z)) (fun n a hn => absurd hn (Nat.not_lt_zero n)) p1
        | ins cc xs =>
          cases e
          obtain ⟨dx, vs, e1, l1, n1, r1, p1⟩ := hp1.obj k _ a q ha
          have na : a ∉ m := fun z => by
            obtain ⟨j, hj, ej⟩ := List.mem_iff_getElem.mp z
            have e3 : m1[j]? = some a := by
              rw [en, List.getElem?_append_left hj, List.getElem?_eq_getElem hj, ej]
            have e4 := nd_ix hp1.nd e3 ha
            omega
          refine ⟨a, dx, vs, rfl, ⟨na, e1⟩, l1, n1, ?_⟩
          exact r1.place (fun b o _ nb z => nb (by rw [en]; exact List.mem_append_left _ z)) (fun n a hn => absurd hn (Nat.not_lt_zero n)) p1
theorem fzL_ok {m m1 : List Addr} {H1 : Hp} {h1 : Heap} (hm : ∃ n, m1 = m ++ n) (hp1 : HpOk C m1 h1 H1) : ∀ {v w : List Val} {x : List V}, RepL C.g m1 H1 v x → fzL h1 m.length v = some w → RepL C.g m H1 w x
  | [], w, x, r, e => by cases e; exact r
  | v :: vs, w, x, r, e => by
    have e : (match fz h1 m.length v, fzL h1 m.length vs with | some y, some ys => some (y :: ys) | _, _ => none) = some w := e
    cases q : fz h1 m.length v with
    | none => rw [q] at e; cases e
    | some y =>
      cases q2 : fzL h1 m.length vs with
      | none => rw [q, q2] at e; cases e
      | some ys =>
        rw [q, q2] at e
        cases e
        obtain ⟨x0, r0, rfl, r1, r2⟩ := r
        exact ⟨x0, r0, rfl, fz_ok hm hp1 r1 q, fzL_ok hm hp1 r2 q2⟩
end
theorem fin_ok {m m1 : List Addr} {H H1 : Hp} {h h1 : Heap} {Wx : WX} {s : St} {f : Fn} {v : Val} {x : V} {Q : VK} (hx : C.xs = none) (hp : HpOk C m h H) (ev : Evo m H m1 H1) (hp1 : HpOk C m1 h1 H1) (rv : RepV C.g m1 H1 v x)
    (q : RP C Wx m H s (finish f h.length v h1) fun v _ m' H' => ∀ x, RepV C.g m' H' v x → Q x H') : Q x H1 := by
  unfold finish at q
  cases hf : f.frz with
  | false =>
    rw [hf, if_neg Bool.false_ne_true] at q
    exact q m1 H1 ev hp1 x rv
  | true =>
    rw [hf, if_pos rfl] at q
    cases e : fz h1 h.length v with
    | none => rw [e] at q; exact q.elim
    | some w =>
      rw [e] at q
      have t := trim_ok (s := []) (l1 := []) hx ev hp hp1 ⟨rfl, (fun i v z => by simp at z), fun i a z => by rw [hx] at z; cases z⟩
      rw [← hp.len] at e
      exact fin2 q t.1 t.2.1 (fz_ok ev.pre hp1 rv e)
theorem start_ok {m : List Addr} {H : Hp} {args : List Val} {vs : List V} {N : List Str} {a b : Nat} (hx : C.xs = none) (r : RepL C.g m H args vs) (ha : a = N.length) (hb : b = vs.length) : LocOk C m H (args.map some ++ List.replicate (a - b) none) (L2.start N vs) := by
  subst ha hb
  refine ⟨?_, fun i v q => ?_, fun i a z => by rw [hx] at z; cases z⟩
  · unfold L2.start
    simp [r.length]
  · have hi : i < args.length := by
      by_cases hi : i < args.length
      · exact hi
      · rw [List.getElem?_append_right (by simpa using hi), List.getElem?_replicate] at q
        split at q <;> cases q
    rw [List.getElem?_append_left (by simpa using hi), List.getElem?_map] at q
    cases e : args[i]? with
    | none => rw [e] at q; cases q
    | some w =>
      rw [e] at q
      cases q
      obtain ⟨x, h1, h2⟩ := r.get e
      refine ⟨x, ?_, h2⟩
      unfold L2.start
      rw [List.getElem?_append_left (by rw [List.length_map, r.length]; exact hi), List.getElem?_map, h1]
      rfl
end

theorem un_of {j : Nat} {A : Around} (r : Room j A) : A.units + 65 < cLine := by have := r.un; omega
theorem fnc_of {X : Cx} {x : Str} (hf : X.fn x = true) (h : locCB X.env.scope.names x = true) : L2.Loc X.env.scope x ∧ (X.fn x = true ∨ X.env.scope.names.lookup x = some .local) := by
  unfold locCB at h
  split at h
  · rename_i e
    exact ⟨.inl e, .inr e⟩
  · rename_i e
    exact ⟨.inr e, .inl hf⟩
  · cases h
/-- a name of the module stands for the value v -/
def GlOk (G : Gk) (mg : Str → Option Value) (x : Str) (v : Val) : Prop := ∃ y u, mg x = some u ∧ RelV y u ∧ ∀ m H h, HpOk (gc0 G) m h H → RepV G m H v y
/-- all that the proof of the defs leans on -/
structure Prg (G : Gk) (mg : Str → Option Value) (P : List Fn) (D : List Dn) (fn bn gl cn : List Str) : Prop where
  df : ∀ (i : Nat) (d : Dn), D[i]? = some d → ∃ f fd, P[i]? = some f ∧ okDef fn bn gl cn d f = true ∧ DefAt G.K d (G.fa i) fd
  len : fn.length = D.length
  fnm : ∀ (i : Nat) (x : Str), fn[i]? = some x → x ≠ "" → mg x = some (.ref (G.fa i)) ∧ PySem.W.keepIn G.K (.ref (G.fa i)) = true
  nob : ∀ x, bn.contains x = true → mg x = none
  glo : ∀ x v, gl.contains x = true → G.t.gv x = some v → GlOk G mg x v
  cls : ∀ (i : Nat) (x : Str), cn[i]? = some x → mg x = some (.ref (G.ca i))
  wd : Wd G
  mtl : ∀ i m f, G.t.mt i m = some f → f < D.length
/-- every def keeps the promise of its run -/
theorem defs_ok {Pr : Program} {w : World} {mg : Str → Option Value} {base : PySem.Heap} {G : Gk} {P : List Fn} {W : Nat} {D : List Dn} {fn bn gl cn : List Str} (A : Prg G mg P D fn bn gl cn) :
    ∀ (k j : Nat), j ≤ k → ∀ (i : Nat) (d : Dn) (f : Fn) (fd : FuncData), D[i]? = some d → P[i]? = some f → okDef fn bn gl cn d f = true → DefAt G.K d (G.fa i) fd →
      FnG Pr w G.K mg base (L2.CX Pr w) j (G.fa i) fd d.ps (spI (gc0 G) (callF P W G.t j) i d.ps.length) := by
  have zero : ∀ (i : Nat) (d : Dn) (f : Fn) (fd : FuncData), D[i]? = some d → P[i]? = some f → okDef fn bn gl cn d f = true → DefAt G.K d (G.fa i) fd → FnG Pr w G.K mg base (L2.CX Pr w) 0 (G.fa i) fd d.ps (spI (gc0 G) (callF P W G.t 0) i d.ps.length) := by
    intro i d f fd _ _ _ _
    refine ⟨fun vs H Q E h => h.1, fun A outer s H args us vs Q E _ _ _ _ _ h => ?_⟩
    obtain ⟨_, m, hh, ar, _, _, r⟩ := h
    exact (show False from r).elim
  have arity : ∀ (k i : Nat) (d : Dn) (f : Fn), P[i]? = some f → okDef fn bn gl cn d f = true → ∀ args h, callF P W G.t k i args h = .bad ∨ args.length = d.ps.length := by
    intro k i d f hf hok args h
    unfold okDef at hok
    simp only [Bool.and_eq_true, decide_eq_true_eq] at hok
    cases k with
    | zero => exact .inl rfl
    | succ k =>
      by_cases hc : args.length = f.np
      · exact .inr (hc.trans hok.1.2)
      · left
        show callB P (cfAt P W G.t k) i args h = _
        unfold callB
        rw [hf]
        exact if_neg hc
  intro k
  induction k with
  | zero =>
    intro j hj
    have e : j = 0 := by omega
    subst e
    exact zero
  | succ k ih =>
    intro j hj
    by_cases hjk : j ≤ k
    · exact ih j hjk
    have e : j = k + 1 := by omega
    subst e
    intro i d f fd hd hf hok at_
    have hok2 := hok
    unfold okDef at hok
    simp only [Bool.and_eq_true, decide_eq_true_eq] at hok
    obtain ⟨⟨k1, k2⟩, k3⟩ := hok
    refine fnG_of at_.fn at_.sc (fun vs H Q E h => h.1) (fun cdv Ar outer s H vs Q E hg hr h => ?_)
    obtain ⟨hl, m, h0, args, hp, ra, r⟩ := h
    have ok : Cok ⟨d.N, (defScope d.st).names, (defScope d.st).names, fn, bn, gl, cn, false, none⟩ (gc0 G) (fun cls dd _ H' => E cls dd H') k (cfAt P W G.t k) (cxOf (L2.CX Pr w) Pr w G.K mg base d.N d.qual (defScope d.st) (G.fa i) cdv Ar outer s H E) :=
      { K := rfl, N := rfl, nd := at_.sc.nd, ns := rfl, kd := at_.sc.kind, calm := fun _ => rfl, un := un_of hr, room := fun _ => hr, gd := hg, tk := takes_of rfl rfl rfl rfl, po := passes_of rfl, fnc := fun x hx => fnc_of rfl hx, bn := A.nob, tb := rfl, lv := rfl, gl := A.glo, c0 := fun _ => rfl, wd := A.wd, cn := A.cls, fn := A.fnm,
        mtl := (fun i m f e => by rw [A.len]; exact A.mtl i m f e),
        hx := (fun z => by cases z),
        fok := fun i hi => by
          rw [A.len] at hi
          obtain ⟨f2, fd2, a1, a2, a3⟩ := A.df i D[i] (List.getElem?_eq_getElem hi)
          exact ⟨fd2, D[i].ps, a3.bi, arity k i D[i] f2 a1 a2, ih k (Nat.le_refl k) i D[i] f2 fd2 (List.getElem?_eq_getElem hi) a1 a2 a3⟩
        fok1 := fun i hi hk => by
          rw [A.len] at hi
          obtain ⟨f2, fd2, a1, a2, a3⟩ := A.df i D[i] (List.getElem?_eq_getElem hi)
          cases k with
          | zero => exact absurd rfl hk
          | succ k => exact ⟨k, fd2, D[i].ps, rfl, a3.bi, arity k i D[i] f2 a1 a2, ih k (Nat.le_succ k) i D[i] f2 fd2 (List.getElem?_eq_getElem hi) a1 a2 a3⟩ }
    refine ⟨tS (gc0 G) (fun cls dd _ H' => E cls dd H') (cfAt P W G.t k) f.body, sndSs_ f.body _ _ _ _ _ ok rfl rfl _ k3, m, _, h0, hp, start_ok rfl ra k1 (k2.trans hl.symm), ?_⟩
    have hal : args.length = f.np := by
      rw [k2, ← hl, ra.length]
    have r : RP (gc0 G) (fun cls d _ H' => E cls d H') m H [] (callB P (cfAt P W G.t k) i args h0) _ := r
    unfold callB at r
    rw [hf] at r
    dsimp only at r
    rw [if_pos hal] at r
    generalize run (cfAt P W G.t k) f.body (args.map some ++ List.replicate (f.n - f.np) none) h0 = o at r ⊢
    cases o with
    | nx l1 h1 => exact fun m1 s1 H1 ev hp1 lo1 => fin_ok (v := .non) (x := .non) rfl hp ev hp1 rfl r
    | rt v h1 => exact fun m1 x H1 ev hp1 rv => fin_ok rfl hp ev hp1 rv r
    | exc c v l1 h1 =>
      intro m1 s1 H1 dd ev hp1 lo1 xa
      have r : RP (gc0 G) (fun cls d _ H' => E cls d H') m H [] (Res.opt (fz h1 h0.length v) fun w => .exc c w (h1.take h0.length)) _ := r
      cases e : fz h1 h0.length v with
      | none => rw [e] at r; exact r.elim
      | some w2 =>
        rw [e] at r
        have t := trim_ok rfl ev hp hp1 lo1
        rw [← hp.len] at e
        obtain ⟨n, en⟩ := ev.pre
        refine r m H1 dd t.1 t.2.1 ?_
        unfold XAt at xa ⊢
        split at xa
        · exact xa
        · obtain ⟨d2, x, e1, rv, e2, nd⟩ := xa
          exact ⟨d2, x, e1, fz_ok (C := gc0 G) ev.pre hp1 rv e, e2, fun z => nd (by rw [en]; exact List.mem_append_left _ z)⟩
    | bk l1 h1 => exact r.elim
    | ct l1 h1 => exact r.elim
    | bad => exact r.elim

theorem vals_rep {G : Gk} {H : Hp} {m : List Addr} : ∀ ns : List Int, RepL G m H (ns.map .int) (ns.map V.int)
  | [] => rfl
  | n :: ns => ⟨_, _, rfl, rfl, vals_rep ns⟩
/-- the promise of the law at its call -/
theorem law_sp {G : Gk} {P : List Fn} {W k i : Nat} {H : Hp} {a : Addr} {ns : List Int} (hS : SqL G.K H a (ns.map V.int)) (h : ∃ h', callF P W G.t k i [.rol (ns.map .int)] [] = .ok (.bl true) h') :
    spI (gc0 G) (callF P W G.t k) i 1 [.ref a] H (fun v _ => v = .bl true) fun _ _ _ => False := by
  obtain ⟨h', e⟩ := h
  refine ⟨rfl, [], [], [.rol (ns.map .int)], ⟨rfl, List.nodup_nil, (fun n o b q => by simp at q), trivial⟩, ⟨_, _, rfl, ⟨a, _, rfl, ?_, vals_rep ns⟩, rfl⟩, ?_⟩
  · rcases hS with hS | hS
    · exact .inl ⟨by simp, hS⟩
    · exact .inr hS
  · rw [e]
    exact fun m' H' ev hp x r => r
/-- a def's facts, as they are read off the top -/
theorem defAt_mk {K : PySem.W.Frag} {name qual : Str} {st : Stmt} {N ps : List Str} {f : Addr} {oc : Value} {od an : Option Addr} {osl : Array (Option Value)} {kV doc pm cdv ct : Value}
    (sc : FnScope N ps (defScope st)) (hb : ∀ (kV doc pm : Value) (an : Option Addr) (cdv ct : Value) (us : List Value), us.length = ps.length → bindArgs (PySem.W.fnOf name qual (defArgs st) (defBody st) (defScope st) .none kV doc pm an cdv ct) ⟨us, []⟩ = pure (ps.zip us))
    (l : K.lookup f = some ⟨oc, od, .func (PySem.W.fnOf name qual (defArgs st) (defBody st) (defScope st) .none kV doc pm an cdv ct), osl⟩)
    (c : PySem.W.codeIn K cdv qual = true) (k : PySem.W.keepIn K (.ref f) = true) : ∃ fd, DefAt K ⟨name, qual, st, N, ps⟩ f fd :=
  ⟨_, sc, fun_mk l c k, (fun_mk (st := st) l c k).binds hb⟩
/-- the promise by some measure of the whiles -/
def spW (G : Gk) (P : List Fn) (k i n : Nat) : Sp := fun vs H Q E => ∃ W, spI (gc0 G) (callF P W G.t k) i n vs H Q E
theorem fnW {Pr : Program} {w : World} {mg : Str → Option Value} {base : PySem.Heap} {G : Gk} {P : List Fn} {k i n : Nat} {fa : Addr} {fd : FuncData} {ps : List Str} {CX : CXT} (hn : n = ps.length) (F : ∀ W, FnG Pr w G.K mg base CX k fa fd ps (spI (gc0 G) (callF P W G.t k) i n)) :
    FnG Pr w G.K mg base CX k fa fd ps (spW G P k i n) :=
  ⟨fun vs H Q E ⟨W, h⟩ => h.1.trans hn, fun A outer s H args us vs Q E hg hr he hb hv ⟨W, h⟩ => (F W).go A outer s H args us vs Q E hg hr he hb hv h⟩
end MP
/-! MP, the run's rules for rewriting: each fully applied, so that a loop's test and body stay folded. -/
namespace MP
open PySem
def varR (o : Option (Option Val)) (h : Heap) : Res Val := match o with
  | some (some v) => .ok v h
  | _ => .bad
theorem varR_ok (v : Val) (h : Heap) : varR (some (some v)) h = .ok v h := rr rfl
def andR (x : Val) (k : Res Val) (h : Heap) : Res Val := match x with
  | .bl true => k
  | .bl false => .ok (.bl false) h
  | _ => .bad
theorem andR_t (k : Res Val) (h : Heap) : andR (.bl true) k h = k := rr rfl
theorem andR_f (k : Res Val) (h : Heap) : andR (.bl false) k h = .ok (.bl false) h := rr rfl
def orR (x : Val) (k : Res Val) (h : Heap) : Res Val := match x with
  | .bl true => .ok (.bl true) h
  | .bl false => k
  | _ => .bad
theorem orR_t (k : Res Val) (h : Heap) : orR (.bl true) k h = .ok (.bl true) h := rr rfl
theorem orR_f (k : Res Val) (h : Heap) : orR (.bl false) k h = k := rr rfl
def notR (x : Val) (h : Heap) : Res Val := match x with
  | .bl b => .ok (.bl (!b)) h
  | _ => .bad
theorem notR_b (b : Bool) (h : Heap) : notR (.bl b) h = .ok (.bl (!b)) h := rr rfl
def negR (x : Val) (h : Heap) : Res Val := match x with
  | .int i => .ok (.int (-i)) h
  | _ => .bad
theorem negR_i (i : Int) (h : Heap) : negR (.int i) h = .ok (.int (-i)) h := rr rfl
def partR (x : Val) (h : Heap) : Res (Option Int) := match x with
  | .int i => .ok (some i) h
  | _ => .bad
theorem partR_i (i : Int) (h : Heap) : partR (.int i) h = .ok (some i) h := rr rfl
theorem tru_b (h : Heap) (b : Bool) : truO h (.bl b) = some b := rr rfl
theorem tru_i (h : Heap) (i : Int) : truO h (.int i) = some (decide (i ≠ 0)) := rr rfl
theorem tru_n (h : Heap) : truO h .non = some false := rr rfl
theorem tru_l (h : Heap) (xs : List Val) : truO h (.lst xs) = some (!xs.isEmpty) := rr rfl
theorem tru_t (h : Heap) (xs : List Val) : truO h (.tup xs) = some (!xs.isEmpty) := rr rfl
theorem tru_s {x : Str} (h : Heap) (e : x.length ≤ 16777216) : truO h (.str x) = some (decide (x.length ≠ 0)) := if_pos e
def lstR (k : Bool) (vs : List Val) (h : Heap) : Res Val :=
  if vs.length ≤ 1000 then (if k then (if pureL vs then .ok (.ref h.length) (h ++ [.lst vs]) else .bad) else .ok (.lst vs) h) else .bad
def tupR (vs : List Val) (h : Heap) : Res Val := if vs.length ≤ 1000 then .ok (.tup vs) h else .bad
def ixR (x y : Val) (h : Heap) : Res Val := match y with
  | .int i => (match x with
    | .str z => if z.length ≤ 16777216 then Res.opt (L2.atI z.cps.toList i) fun d => .ok (.str ⟨#[d]⟩) h else .bad
    | x => Res.opt ((asSeq h x).bind fun xs => L2.atI xs i) fun v => .ok v h)
  | _ => .bad
theorem ixR_l (xs : List Val) (i : Int) (h : Heap) : ixR (.lst xs) (.int i) h = Res.opt (L2.atI xs i) fun v => .ok v h := rr rfl
theorem ixR_r (xs : List Val) (i : Int) (h : Heap) : ixR (.rol xs) (.int i) h = Res.opt (L2.atI xs i) fun v => .ok v h := rr rfl
theorem ixR_t (xs : List Val) (i : Int) (h : Heap) : ixR (.tup xs) (.int i) h = Res.opt (L2.atI xs i) fun v => .ok v h := rr rfl
theorem ixR_h (n : Nat) (i : Int) (h : Heap) : ixR (.ref n) (.int i) h = Res.opt ((asSeq h (.ref n)).bind fun xs => L2.atI xs i) fun v => .ok v h := rr rfl
theorem ixR_s {z : Str} (i : Int) (h : Heap) (e : z.length ≤ 16777216) : ixR (.str z) (.int i) h = Res.opt (L2.atI z.cps.toList i) fun d => .ok (.str ⟨#[d]⟩) h := if_pos e
section
variable (c : Cf) (l : Loc) (h : Heap)
theorem e_var (i : Nat) : evalE c (.var i) l h = varR l[i]? h := rr rfl
theorem e_con (v : Val) : evalE c (.con v) l h = .ok v h := rr rfl
theorem e_glo (x : Str) : evalE c (.glo x) l h = Res.opt (c.t.gv x) fun v => .ok v h := rr rfl
theorem e_d0 : evalE c .d0 l h = .ok (.dct [] []) h := rr rfl
theorem e_d1 (k : L2.Key) (v : Val) : evalE c (.d1 k v) l h = .ok (.dct [k] [v]) h := rr rfl
theorem e_chn (o1 o2 : CmpOp) (a b d : E) : evalE c (.chn o1 o2 a b d) l h = (evalE c a l h).bind fun x h1 => (evalE c b l h1).bind fun y h2 => Res.opt (cmpop h2 o1 x y) fun v =>
      if v then (evalE c d l h2).bind fun z h3 => Res.opt (cmpop h3 o2 y z) fun w => .ok (.bl w) h3 else .ok (.bl false) h2 := rr rfl
theorem e_sl (a lo hi : E) : evalE c (.sl a lo hi) l h = (evalE c a l h).bind fun x h1 => (evalO c lo l h1).bind fun i h2 => (evalO c hi l h2).bind fun j h3 => Res.opt (slO h3 x i j) fun v => .ok v h3 := rr rfl
theorem e_lc (k : Bool) (t : T) (own : List Nat) (it cd elt : E) : evalE c (.lc k t own it cd elt) l h = (evalI c it l h).bind fun xs h1 => (compL (evalT c cd) (evalE c elt) t (wipeL l own) h1.length xs (h1 ++ [.lst []])).bind fun _ h2 => compF k h1.length h2 := rr rfl
theorem o_nl : evalO c .nl l h = .ok none h := rr rfl
theorem o_cs (a : E) : evalO c (.cs a .nl) l h = (evalE c a l h).bind partR := rr rfl
theorem t_nl : evalT c .nl l h = .ok true h := rr rfl
theorem t_chn (o1 o2 : CmpOp) (a b d : E) : evalT c (.chn o1 o2 a b d) l h = (evalE c a l h).bind fun x h1 => (evalE c b l h1).bind fun y h2 => Res.opt (cmpop h2 o1 x y) fun v =>
      if v then (evalE c d l h2).bind fun z h3 => Res.opt (cmpop h3 o2 y z) fun w => .ok w h3 else .ok false h2 := rr rfl
theorem r_asgc (i : Nat) (e : E) : run c (.asgc i e) l h = (evalE c e l h).out l fun v h1 => .nx (l.set i (some v)) h1 := rr rfl
theorem e_bt (n : String) : evalE c (.bt n) l h = .ok (.ty n) h := rr rfl
theorem e_tup (es : E) : evalE c (.tup es) l h = (evalEs c es l h).bind tupR := rr rfl
theorem e_lst (k : Bool) (es : E) : evalE c (.lst k es) l h = (evalEs c es l h).bind (lstR k) := rr rfl
theorem e_bin (op : Operator) (a b : E) : evalE c (.bin op a b) l h = (evalE c a l h).bind fun x h1 => (evalE c b l h1).bind fun y h2 => Res.opt (binop h2 op x y) fun v => .ok v h2 := rr rfl
theorem e_neg (a : E) : evalE c (.neg a) l h = (evalE c a l h).bind negR := rr rfl
theorem e_cmp (op : CmpOp) (a b : E) : evalE c (.cmp op a b) l h = (evalE c a l h).bind fun x h1 => (evalE c b l h1).bind fun y h2 => Res.opt (cmpop h2 op x y) fun v => .ok (.bl v) h2 := rr rfl
theorem e_and (a b : E) : evalE c (.and a b) l h = (evalE c a l h).bind fun x h1 => andR x (evalE c b l h1) h1 := rr rfl
theorem e_or (a b : E) : evalE c (.or a b) l h = (evalE c a l h).bind fun x h1 => orR x (evalE c b l h1) h1 := rr rfl
theorem e_not (a : E) : evalE c (.not a) l h = (evalE c a l h).bind notR := rr rfl
theorem e_rev (a s : E) : evalE c (.rev a s) l h = (evalE c a l h).bind fun x h1 => (evalE c s l h1).bind fun y h2 => Res.opt (revO x y) fun v => .ok v h2 := rr rfl
theorem rev_t (xs : List Val) : revO (.tup xs) (.int (-1)) = some (.tup xs.reverse) := rr rfl
theorem e_ife (t a b : E) : evalE c (.ife t a b) l h = (evalT c t l h).bind fun x h1 => if x then evalE c a l h1 else evalE c b l h1 := rr rfl
theorem e_cal (f : Nat) (es : E) : evalE c (.cal f es) l h = (evalEs c es l h).bind fun vs h1 => c.call f vs h1 := rr rfl
theorem e_bi (f : Bi) (es : E) : evalE c (.bi f es) l h = (evalEs c es l h).bind fun vs h1 => Res.opt (biF h1 f vs) fun v => .ok v h1 := rr rfl
theorem e_bm (m : Bm) (o es : E) : evalE c (.bm m o es) l h = (evalE c o l h).bind fun x h1 => if bmTy h1 m x then (evalEs c es l h1).bind fun vs h2 => Res.opt (bmF h2 m x vs) fun p => .ok p.1 p.2 else .bad := rr rfl
theorem e_ix (a b : E) : evalE c (.ix a b) l h = (evalE c a l h).bind fun x h1 => (evalE c b l h1).bind fun y h2 => ixR x y h2 := rr rfl
theorem es_nl : evalEs c .nl l h = .ok [] h := rr rfl
theorem es_cs (a r : E) : evalEs c (.cs a r) l h = (evalE c a l h).bind fun x h1 => (evalEs c r l h1).bind fun xs h2 => .ok (x :: xs) h2 := rr rfl
theorem t_and (a b : E) : evalT c (.and a b) l h = (evalT c a l h).bind fun x h1 => if x then evalT c b l h1 else .ok false h1 := rr rfl
theorem t_or (a b : E) : evalT c (.or a b) l h = (evalT c a l h).bind fun x h1 => if x then .ok true h1 else evalT c b l h1 := rr rfl
theorem t_not (a : E) : evalT c (.not a) l h = (evalT c a l h).bind fun x h1 => .ok (!x) h1 := rr rfl
theorem t_cmp (op : CmpOp) (a b : E) : evalT c (.cmp op a b) l h = (evalE c a l h).bind fun x h1 => (evalE c b l h1).bind fun y h2 => Res.opt (cmpop h2 op x y) fun v => .ok v h2 := rr rfl
theorem t_tst (a : E) : evalT c (.tst a) l h = (evalE c a l h).bind fun x h1 => Res.opt (truO h1 x) fun b => .ok b h1 := rr rfl
theorem i_seq (e : E) : evalI c (.iSeq e) l h = (evalE c e l h).bind seqItems := rr rfl
theorem i_rng (es : E) : evalI c (.iRng es) l h = (evalEs c es l h).bind rngItems := rr rfl
theorem r_nop : run c .nop l h = .nx l h := rr rfl
theorem r_seq (s r : S) : run c (.seq s r) l h = (run c s l h).thn (run c r) := rr rfl
theorem r_asg (t : T) (e : E) : run c (.asg t e) l h = (evalE c e l h).out l fun v h1 => Out.opt (store t v l) fun l1 => .nx l1 h1 := rr rfl
theorem r_par (i j : Nat) (es : E) : run c (.par i j es) l h = (evalEs c es l h).out l fun vs h1 => Out.opt (store2 i j vs l) fun l1 => .nx l1 h1 := rr rfl
theorem r_setix (o i e : E) : run c (.setix o i e) l h = (evalE c e l h).out l fun v h1 => (evalE c o l h1).out l fun x h2 => (evalE c i l h2).out l fun y h3 => Out.opt (setixO h3 x y v) fun h4 => .nx l h4 := rr rfl
theorem r_ret (e : E) : run c (.ret e) l h = (evalE c e l h).out l fun v h1 => .rt v h1 := rr rfl
theorem r_exp (e : E) : run c (.exp e) l h = (evalE c e l h).out l fun _ h1 => .nx l h1 := rr rfl
theorem r_ite (t : E) (a b : S) : run c (.ite t a b) l h = (evalT c t l h).out l fun x h1 => if x then run c a l h1 else run c b l h1 := rr rfl
theorem e_cl (i : Nat) : evalE c (.cl i) l h = .ok (.cls i) h := rr rfl
theorem e_new (k : Bool) (j : Nat) (es : E) : evalE c (.new k j es) l h = Res.opt (if c.lv = 0 then none else c.t.mt j "__init__") fun f => (evalEs c es l h).bind fun vs h1 => (c.call1 f (.ref h1.length :: vs) (h1 ++ [.ins j []])).bind fun v h2 => newF k h1.length v h2 := rr rfl
theorem e_fld (o : E) (f : Str) : evalE c (.fld o f) l h = (evalE c o l h).bind fun x h1 => Res.opt (fldO c.t h1 x f) fun v => .ok v h1 := rr rfl
theorem e_mth (m : Str) (o es : E) : evalE c (.mth m o es) l h = (evalE c o l h).bind fun x h1 => Res.opt (mthO c.t h1 x m) fun f => (evalEs c es l h1).bind fun vs h2 => c.call f (x :: vs) h2 := rr rfl
theorem e_xf (i : Nat) (f : Str) : evalE c (.xf i f) l h = xfR c i f l h := rr rfl
theorem e_xi (i j : Nat) : evalE c (.xi i j) l h = xiR c i j l h := rr rfl
theorem e_tm (m : Tm) (o a : E) : evalE c (.tm m o a) l h = (evalE c o l h).bind fun x h1 => Res.opt (strV x) fun s => (evalE c a l h1).bind fun y h2 => Res.opt (strV y) fun t => Res.opt (tmF m s t) fun v => .ok v h2 := rr rfl
theorem e_itx (a : E) : evalE c (.itx a) l h = (evalE c a l h).bind fun x h1 => Res.opt (strV x) fun s => Res.opt (itxO s) fun i => .ok (.int i) h1 := rr rfl
theorem e_fmt (a : E) : evalE c (.fmt a) l h = (evalE c a l h).bind fun x h1 => Res.opt (fmtO x) fun s => .ok (.str s) h1 := rr rfl
theorem e_fst (es : E) : evalE c (.fst es) l h = (evalEs c es l h).bind fun vs h1 => Res.opt (fstO vs) fun s => .ok (.str s) h1 := rr rfl
theorem strV_s (s : Str) : strV (.str s) = some s := rr rfl
theorem tm_sw (s t : Str) : tmF .startswith s t = some (.bl (Txt.startswith s t)) := rr rfl
theorem tm_find (s t : Str) : tmF .find s t = some (.int (Txt.find s t)) := rr rfl
theorem e_lH (a : E) : evalE c (.lH a) l h = (evalE c a l h).bind fun x h1 => Res.opt (asSeq h1 x) fun xs => if pureL xs then .ok (.ref h1.length) (h1 ++ [.lst xs]) else .bad := rr rfl
theorem e_isC (a : E) (j : Nat) : evalE c (.isC a j) l h = (evalE c a l h).bind fun x h1 => Res.opt (isCO c.t h1 x j) fun b => .ok (.bl b) h1 := rr rfl
theorem e_xiT (i : Nat) (e : E) : evalE c (.xiT i e) l h = Res.opt (xkO c i l) fun k => (evalE c e l h).bind fun v h1 => xiTR c.t k v h1 := rr rfl
theorem e_xt (i : Nat) (t : String) : evalE c (.xt i t) l h = xtR c i t l h := rr rfl
theorem i_zip (es : E) : evalI c (.iZip es) l h = (evalEs c es l h).bind zipItems := rr rfl
theorem i_enu (es : E) : evalI c (.iEnu es) l h = (evalEs c es l h).bind enuItems := rr rfl
theorem r_unl (ts : T) (e : E) : run c (.unl ts e) l h = (evalE c e l h).out l fun v h1 => Out.opt ((asL h1 v).bind fun xs => storeL ts xs l) fun l1 => .nx l1 h1 := rr rfl
theorem r_brk : run c .brk l h = .bk l h := rr rfl
theorem r_setf (o : E) (f : Str) (e : E) : run c (.setf o f e) l h = (evalE c e l h).out l fun v h1 => (evalE c o l h1).out l fun x h2 => Out.opt (setfO c.t h2 x f v) fun h3 => .nx l h3 := rr rfl
theorem r_rais (k : Nat) (es : E) : run c (.rais k es) l h = if raisOk c k es then (evalEs c es l h).out l fun vs h1 => raisO k vs l h1 else .bad := rr rfl
theorem r_tri (b : S) (j : Nat) (i : Option Nat) (s : S) : run c (.tri b j i s) l h = (run c b l h).tri c j i (fun c' => run c' s) := rr rfl
theorem r_whl (t : E) (b : S) : run c (.whl t b) l h = whileN (evalT c t) (run c b) c.W l h := rr rfl
theorem r_for (t : T) (it : E) (b : S) : run c (.for_ t it b) l h = (evalI c it l h).out l fun xs h1 => forL t (run c b) xs l h1 := rr rfl
theorem r_aug (i : Nat) (e : E) : run c (.aug i e) l h = Out.opt (slotI i l) fun a => (evalE c e l h).out l fun v h1 => Out.opt (intO v) fun b => .nx (l.set i (some (.int (a + b)))) h1 := rr rfl
theorem intO_i (a : Int) : intO (.int a) = some a := rr rfl
theorem r_gif (i n : Nat) (a b : S) : run c (.gif i n a b) l h = if gTup i n l then run c a l h else run c b l h := rr rfl
theorem r_scope (b : S) : run c (.scope b) l h = (run c b l h).trim h.length := rr rfl
theorem w_succ (t : Loc → Heap → Res Bool) (b : Loc → Heap → Out) (n : Nat) : whileN t b (n + 1) l h = (t l h).out l fun x h1 => if x then (b l h1).turn (whileN t b n) else .nx l h1 := rr rfl
theorem fl_nil (t : T) (b : Loc → Heap → Out) : forL t b [] l h = .nx l h := rr rfl
theorem fl_cons (t : T) (b : Loc → Heap → Out) (x : Val) (xs : List Val) : forL t b (x :: xs) l h = Out.opt (store t x l) fun l1 => (b l1 h).turn (forL t b xs) := rr rfl
end
theorem st_nm (i : Nat) (v : Val) (l : Loc) : store (.nm i) v l = some (l.set i (some v)) := rr rfl
theorem st_tup (ts : T) (xs : List Val) (l : Loc) : store (.tup ts) (.tup xs) l = storeL ts xs l := rr rfl
theorem st_nl (l : Loc) : storeL .nl [] l = some l := rr rfl
theorem st_cs (t r : T) (x : Val) (xs : List Val) (l : Loc) : storeL (.cs t r) (x :: xs) l = (store t x l).bind fun l1 => storeL r xs l1 := rr rfl
theorem st_2 (i j : Nat) (x y : Val) (l : Loc) : store2 i j [x, y] l = some ((l.set i (some x)).set j (some y)) := rr rfl
theorem bin_ii (h : Heap) (op : Operator) (i j : Int) : binop h op (.int i) (.int j) = binI op i j := rr rfl
theorem bin_ss (h : Heap) (x y : Str) : binop h .Add (.str x) (.str y) = if x.length + y.length ≤ 16777216 then some (.str (x ++ y)) else none := rr rfl
theorem bin_tt (h : Heap) (xs ys : List Val) : binop h .Add (.tup xs) (.tup ys) = if xs.length + ys.length ≤ 100000 then some (.tup (xs ++ ys)) else none := rr rfl
theorem bin_add (i j : Int) : binI .Add i j = some (.int (i + j)) := rr rfl
theorem bin_sub (i j : Int) : binI .Sub i j = some (.int (i - j)) := rr rfl
theorem bin_mul {i j : Int} (h : bits i + bits j ≤ 134217728) : binI .Mult i j = some (.int (i * j)) := if_pos h
theorem bin_div {i j : Int} (h0 : j ≠ 0) (h : Builtin.divisionGoesByPylong i j = false) : binI .FloorDiv i j = some (.int (i.fdiv j)) := if_pos ⟨h0, h⟩
theorem bin_mod {i j : Int} (h0 : j ≠ 0) : binI .Mod i j = some (.int (i.fmod j)) := if_pos h0
theorem bin_pow {i j : Int} (h0 : 0 ≤ j) (h : (bits i : Int) * j ≤ 2 ^ 27) : binI .Pow i j = some (.int (i ^ j.toNat)) := if_pos ⟨h0, h⟩
theorem bin_shl {i j : Int} (h0 : 0 ≤ j) (h : (bits i : Int) + j ≤ 2 ^ 27) : binI .LShift i j = some (.int (i * 2 ^ j.toNat)) := if_pos ⟨h0, h⟩
theorem cmp_ii (h : Heap) (op : CmpOp) (i j : Int) : cmpop h op (.int i) (.int j) = cmpI op i j := rr rfl
theorem cmp_ss (h : Heap) (op : CmpOp) (i j : Str) : cmpop h op (.str i) (.str j) = cmpS op i j := rr rfl
theorem cs_eq (i j : Str) : cmpS .Eq i j = some (decide (i = j)) := rr rfl
theorem cs_ne (i j : Str) : cmpS .NotEq i j = some (!decide (i = j)) := rr rfl
theorem cs_lt (i j : Str) : cmpS .Lt i j = some (decide (i.cps.toList < j.cps.toList)) := rr rfl
theorem cs_gt (i j : Str) : cmpS .Gt i j = some (decide (j.cps.toList < i.cps.toList)) := rr rfl
theorem cs_in (i j : Str) : cmpS .In i j = some (strIn i j) := rr rfl
theorem cs_nin (i j : Str) : cmpS .NotIn i j = some (!strIn i j) := rr rfl
theorem cmp_eq (i j : Int) : cmpI .Eq i j = some (decide (i = j)) := rr rfl
theorem cmp_ne (i j : Int) : cmpI .NotEq i j = some (!decide (i = j)) := rr rfl
theorem cmp_lt (i j : Int) : cmpI .Lt i j = some (decide (i < j)) := rr rfl
theorem cmp_le (i j : Int) : cmpI .LtE i j = some (decide (i ≤ j)) := rr rfl
theorem cmp_gt (i j : Int) : cmpI .Gt i j = some (decide (j < i)) := rr rfl
theorem cmp_ge (i j : Int) : cmpI .GtE i j = some (decide (j ≤ i)) := rr rfl
theorem seq_lst (h : Heap) (xs : List Val) : asSeq h (.lst xs) = some xs := rr rfl
theorem seq_rol (h : Heap) (xs : List Val) : asSeq h (.rol xs) = some xs := rr rfl
theorem seq_tup (h : Heap) (xs : List Val) : asSeq h (.tup xs) = some xs := rr rfl
theorem seq_ref {h : Heap} {n : Nat} {xs : List Val} (e : h[n]? = some (.lst xs)) : asSeq h (.ref n) = some xs := by
  show (match h[n]? with | some (.lst xs) => some xs | _ => none) = _
  rw [e]
/-- the list of an object -/
def objL : Option Obj → Option (List Val)
  | some (.lst xs) => some xs
  | _ => none
theorem objL_s (xs : List Val) : objL (some (.lst xs)) = some xs := rr rfl
theorem seq_refO (h : Heap) (n : Nat) : asSeq h (.ref n) = objL h[n]? := by
  show (match h[n]? with | some (.lst xs) => some xs | _ => none) = _
  cases h[n]? with
  | none => rfl
  | some o => cases o <;> rfl
theorem asL_r (h : Heap) (n : Nat) : asL h (.ref n) = objL h[n]? := seq_refO h n
theorem asL_l (h : Heap) (xs : List Val) : asL h (.lst xs) = some xs := rr rfl
def setL (h : Heap) (n : Nat) (k : Int) (e : Val) (xs : List Val) : Option Heap := match L2.ixN xs.length k with
  | some j => if pure0 e then some (h.set n (.lst (xs.set j e))) else none
  | none => none
theorem setix_ref (h : Heap) (n : Nat) (k : Int) (e : Val) : setixO h (.ref n) (.int k) e = (objL h[n]?).bind (setL h n k e) := by
  show (match h[n]? with
    | some (.lst xs) => (match L2.ixN xs.length k with
      | some j => if pure0 e then some (h.set n (.lst (xs.set j e))) else none
      | none => none)
    | _ => none) = _
  cases q : h[n]? with
  | none => rfl
  | some o => cases o <;> rfl
theorem setL_0 (h : Heap) (n : Nat) (e x : Val) (xs : List Val) (p : pure0 e = true) : setL h n 0 e (x :: xs) = some (h.set n (.lst (e :: xs))) := by
  have z : L2.ixN (x :: xs).length 0 = some 0 := by
    unfold L2.ixN
    rw [if_pos (by decide), if_pos (by rw [List.length_cons]; omega)]
    rfl
  unfold setL
  rw [z]
  exact if_pos p
theorem setL_1 (h : Heap) (n : Nat) (e x y : Val) (xs : List Val) (p : pure0 e = true) : setL h n 1 e (x :: y :: xs) = some (h.set n (.lst (x :: e :: xs))) := by
  have z : L2.ixN (x :: y :: xs).length 1 = some 1 := by
    unfold L2.ixN
    rw [if_pos (by decide), if_pos (by rw [List.length_cons, List.length_cons]; omega)]
    rfl
  unfold setL
  rw [z]
  exact if_pos p
theorem setL_2 (h : Heap) (n : Nat) (e x y w : Val) (xs : List Val) (p : pure0 e = true) : setL h n 2 e (x :: y :: w :: xs) = some (h.set n (.lst (x :: y :: e :: xs))) := by
  have z : L2.ixN (x :: y :: w :: xs).length 2 = some 2 := by
    unfold L2.ixN
    rw [if_pos (by decide), if_pos (by rw [List.length_cons, List.length_cons, List.length_cons]; omega)]
    rfl
  unfold setL
  rw [z]
  exact if_pos p
theorem bm_rev (h : Heap) (n : Nat) : bmF h .reverse (.ref n) [] = (objL h[n]?).map fun xs => (.non, h.set n (.lst xs.reverse)) := by
  show (match h[n]? with | some (.lst xs) => some (Val.non, h.set n (.lst xs.reverse)) | _ => none) = _
  cases q : h[n]? with
  | none => rfl
  | some o => cases o <;> rfl
theorem bi_abs (h : Heap) (i : Int) : biF h .abs [.int i] = some (.int i.natAbs) := by
  show some (Val.int (if i < 0 then -i else i)) = _
  congr 2
  split <;> omega
theorem bi_max (h : Heap) (i j : Int) : biF h .max2 [.int i, .int j] = some (.int (max i j)) := by
  show some (Val.int (if j > i then j else i)) = _
  congr 2
  split <;> omega
theorem bi_min (h : Heap) (i j : Int) : biF h .min2 [.int i, .int j] = some (.int (min i j)) := by
  show some (Val.int (if j < i then j else i)) = _
  congr 2
  split <;> omega
theorem bi_int_i (h : Heap) (i : Int) : biF h .int [.int i] = some (.int i) := rr rfl
theorem bi_int_b (h : Heap) (b : Bool) : biF h .int [.bl b] = some (.int (if b then 1 else 0)) := rr rfl
theorem bi_len_l (h : Heap) (xs : List Val) : biF h .len [.lst xs] = some (.int xs.length) := rr rfl
theorem bi_len_r (h : Heap) (xs : List Val) : biF h .len [.rol xs] = some (.int xs.length) := rr rfl
theorem bi_len_h (h : Heap) (n : Nat) : biF h .len [.ref n] = (objL h[n]?).map fun xs => .int xs.length := by
  show (match asSeq h (.ref n) with | some xs => some (Val.int xs.length) | none => none) = _
  rw [seq_refO]
  cases objL h[n]? <;> rfl
theorem bi_len_s {x : Str} (h : Heap) (e : x.length ≤ 16777216) : biF h .len [.str x] = some (.int x.length) := if_pos e
theorem bi_len_t (h : Heap) (xs : List Val) : biF h .len [.tup xs] = some (.int xs.length) := rr rfl
theorem bi_isi (h : Heap) (v : Val) (n : String) : biF h .isi [v, .ty n] = (tyName h v).bind fun t => (L2.kitB t n).map .bl := by
  show (match tyName h v with | some t => (L2.kitB t n).map Val.bl | none => none) = _
  cases tyName h v <;> rfl
theorem ty_non (h : Heap) : tyName h .non = some "NoneType" := rr rfl
theorem ty_bl (h : Heap) (b : Bool) : tyName h (.bl b) = some "bool" := rr rfl
theorem ty_int (h : Heap) (i : Int) : tyName h (.int i) = some "int" := rr rfl
theorem ty_str (h : Heap) (x : Str) : tyName h (.str x) = some "str" := rr rfl
theorem ty_tup (h : Heap) (xs : List Val) : tyName h (.tup xs) = some "tuple" := rr rfl
theorem ty_lst (h : Heap) (xs : List Val) : tyName h (.lst xs) = some "list" := rr rfl
theorem ty_rol (h : Heap) (xs : List Val) : tyName h (.rol xs) = some "list" := rr rfl
theorem ty_dct (h : Heap) (ks : List L2.Key) (xs : List Val) : tyName h (.dct ks xs) = some "dict" := rr rfl
theorem kit_int_int : L2.kitB "int" "int" = some true := by decide +kernel
theorem kit_int_bool : L2.kitB "int" "bool" = some false := by decide +kernel
theorem kit_int_str : L2.kitB "int" "str" = some false := by decide +kernel
theorem kit_int_list : L2.kitB "int" "list" = some false := by decide +kernel
theorem kit_int_tuple : L2.kitB "int" "tuple" = some false := by decide +kernel
theorem kit_int_dict : L2.kitB "int" "dict" = some false := by decide +kernel
theorem kit_bool_int : L2.kitB "bool" "int" = some true := by decide +kernel
theorem kit_bool_bool : L2.kitB "bool" "bool" = some true := by decide +kernel
theorem kit_bool_str : L2.kitB "bool" "str" = some false := by decide +kernel
theorem kit_bool_list : L2.kitB "bool" "list" = some false := by decide +kernel
theorem kit_bool_tuple : L2.kitB "bool" "tuple" = some false := by decide +kernel
theorem kit_bool_dict : L2.kitB "bool" "dict" = some false := by decide +kernel
theorem kit_str_int : L2.kitB "str" "int" = some false := by decide +kernel
theorem kit_str_bool : L2.kitB "str" "bool" = some false := by decide +kernel
theorem kit_str_str : L2.kitB "str" "str" = some true := by decide +kernel
theorem kit_str_list : L2.kitB "str" "list" = some false := by decide +kernel
theorem kit_str_tuple : L2.kitB "str" "tuple" = some false := by decide +kernel
theorem kit_str_dict : L2.kitB "str" "dict" = some false := by decide +kernel
theorem kit_none_int : L2.kitB "NoneType" "int" = some false := by decide +kernel
theorem kit_none_bool : L2.kitB "NoneType" "bool" = some false := by decide +kernel
theorem kit_none_str : L2.kitB "NoneType" "str" = some false := by decide +kernel
theorem kit_none_list : L2.kitB "NoneType" "list" = some false := by decide +kernel
theorem kit_none_tuple : L2.kitB "NoneType" "tuple" = some false := by decide +kernel
theorem kit_none_dict : L2.kitB "NoneType" "dict" = some false := by decide +kernel
theorem kit_list_int : L2.kitB "list" "int" = some false := by decide +kernel
theorem kit_list_bool : L2.kitB "list" "bool" = some false := by decide +kernel
theorem kit_list_str : L2.kitB "list" "str" = some false := by decide +kernel
theorem kit_list_list : L2.kitB "list" "list" = some true := by decide +kernel
theorem kit_list_tuple : L2.kitB "list" "tuple" = some false := by decide +kernel
theorem kit_list_dict : L2.kitB "list" "dict" = some false := by decide +kernel
theorem kit_tuple_int : L2.kitB "tuple" "int" = some false := by decide +kernel
theorem kit_tuple_bool : L2.kitB "tuple" "bool" = some false := by decide +kernel
theorem kit_tuple_str : L2.kitB "tuple" "str" = some false := by decide +kernel
theorem kit_tuple_list : L2.kitB "tuple" "list" = some false := by decide +kernel
theorem kit_tuple_tuple : L2.kitB "tuple" "tuple" = some true := by decide +kernel
theorem kit_tuple_dict : L2.kitB "tuple" "dict" = some false := by decide +kernel
theorem kit_dict_int : L2.kitB "dict" "int" = some false := by decide +kernel
theorem kit_dict_bool : L2.kitB "dict" "bool" = some false := by decide +kernel
theorem kit_dict_str : L2.kitB "dict" "str" = some false := by decide +kernel
theorem kit_dict_list : L2.kitB "dict" "list" = some false := by decide +kernel
theorem kit_dict_tuple : L2.kitB "dict" "tuple" = some false := by decide +kernel
theorem kit_dict_dict : L2.kitB "dict" "dict" = some true := by decide +kernel
theorem bt_bits (h : Heap) (i : Int) : bmTy h .bits (.int i) = true := rr rfl
theorem bt_rev (h : Heap) (n : Nat) : bmTy h .reverse (.ref n) = isLstO h[n]? := rr rfl
theorem bt_app (h : Heap) (n : Nat) : bmTy h .append (.ref n) = isLstO h[n]? := rr rfl
theorem isLst_l (xs : List Val) : isLstO (some (.lst xs)) = true := rr rfl
theorem bt_join (h : Heap) (x : Str) : bmTy h .join (.str x) = true := rr rfl
theorem bm_join (h : Heap) (a : Str) (v : Val) : bmF h .join (.str a) [v] = ((asSeq h v).bind strsOf).bind fun ys => if (ys.map (·.length)).sum + ys.length * a.length ≤ 16777216 then some (.str (Txt.join a ys), h) else none := by
  show (match (asSeq h v).bind strsOf with | some ys => _ | none => none) = _
  cases (asSeq h v).bind strsOf <;> rfl
theorem bm_app (h : Heap) (n : Nat) (v : Val) : bmF h .append (.ref n) [v] = (appO h n v).map fun h2 => (.non, h2) := rr rfl
theorem app_obj {h : Heap} {n : Nat} {xs : List Val} {v : Val} (e : h[n]? = some (.lst xs)) (p : pure0 v = true) (l : xs.length < 100000) : appO h n v = some (h.set n (.lst (xs ++ [v]))) := by
  unfold appO
  rw [e]
  exact if_pos ⟨p, l⟩
theorem bm_bits (h : Heap) (i : Int) : bmF h .bits (.int i) [] = some (.int (bits i : Nat), h) := rr rfl
theorem rng_i {j : Int} {h : Heap} (h0 : j < 2 ^ 62) (h1 : -(2 ^ 62) ≤ j) : rngItems [.int j] h = .ok (rangeL 0 j.toNat) h := if_pos ⟨h0, h1⟩
theorem seqI_l (xs : List Val) (h : Heap) : seqItems (.lst xs) h = .ok xs h := rr rfl
theorem seqI_r (xs : List Val) (h : Heap) : seqItems (.rol xs) h = .ok xs h := rr rfl
theorem seqI_s (x : Str) (h : Heap) : seqItems (.str x) h = .ok (x.cps.toList.map fun d => .str ⟨#[d]⟩) h := rr rfl
theorem rng_2 {i j : Int} {h : Heap} (h0 : (j < 2 ^ 62 ∧ -(2 ^ 62) ≤ j) ∧ i < 2 ^ 62 ∧ -(2 ^ 62) ≤ i) : rngItems [.int i, .int j] h = .ok (rangeL i (j - i).toNat) h := if_pos h0
theorem seqI_t (xs : List Val) (h : Heap) : seqItems (.tup xs) h = .ok xs h := rr rfl
theorem lstR_v {vs : List Val} (h : Heap) (e : vs.length ≤ 1000) : lstR false vs h = .ok (.lst vs) h := if_pos e
theorem lstR_h {vs : List Val} (h : Heap) (e : vs.length ≤ 1000) (p : pureL vs = true) : lstR true vs h = .ok (.ref h.length) (h ++ [.lst vs]) := by
  unfold lstR
  rw [if_pos e, if_pos rfl, if_pos p]
theorem tupR_v {vs : List Val} (h : Heap) (e : vs.length ≤ 1000) : tupR vs h = .ok (.tup vs) h := if_pos e
theorem rl_nil (b : Nat) : refsLtL b [] = true := rr rfl
theorem rl_cons (b : Nat) (x : Val) (xs : List Val) : refsLtL b (x :: xs) = (refsLt b x && refsLtL b xs) := rr rfl
theorem rv_int (b : Nat) (i : Int) : refsLt b (.int i) = true := rr rfl
theorem rv_bl (b : Nat) (i : Bool) : refsLt b (.bl i) = true := rr rfl
theorem rv_non (b : Nat) : refsLt b .non = true := rr rfl
theorem rv_str (b : Nat) (s : Str) : refsLt b (.str s) = true := rr rfl
theorem rv_tup (b : Nat) (xs : List Val) : refsLt b (.tup xs) = refsLtL b xs := rr rfl
theorem rv_lst (b : Nat) (xs : List Val) : refsLt b (.lst xs) = refsLtL b xs := rr rfl
/-- a def's end -/
def endF (f : Fn) (b : Nat) : Out → Res Val
  | .nx _ h1 => finish f b .non h1
  | .rt v h1 => finish f b v h1
  | .exc c v _ h1 => Res.opt (fz h1 b v) fun w => .exc c w (h1.take b)
  | _ => .bad
theorem end_nx (f : Fn) (b : Nat) (l : Loc) (h : Heap) : endF f b (.nx l h) = finish f b .non h := rr rfl
theorem end_rt (f : Fn) (b : Nat) (v : Val) (h : Heap) : endF f b (.rt v h) = finish f b v h := rr rfl
theorem callF_succ {P : List Fn} {gv : Tb} {W k i : Nat} {vs : List Val} {h : Heap} {f : Fn} (hf : P[i]? = some f) (hl : vs.length = f.np) : callF P W gv (k + 1) i vs h = endF f h.length (run (cfAt P W gv k) f.body (vs.map some ++ List.replicate (f.n - f.np) none) h) := by
  show callB P (cfAt P W gv k) i vs h = _
  unfold callB
  rw [hf]
  dsimp only
  rw [if_pos hl]
  rfl
theorem callF_go {P : List Fn} {gv : Tb} {W k i : Nat} {vs : List Val} {h : Heap} {f : Fn} (hf : P[i]? = some f) (body : S) (n : Nat) (hl : vs.length = f.np := by rfl) (hb : f.body = body := by rfl) (hn : f.n - f.np = n := by rfl) :
    callF P W gv (k + 1) i vs h = endF f h.length (run (cfAt P W gv k) body (vs.map some ++ List.replicate n none) h) := by
  rw [callF_succ hf hl, hb, hn]
theorem cf_call (P : List Fn) (W : Nat) (gv : Tb) (k : Nat) : (cfAt P W gv k).call = callF P W gv k := rr rfl
theorem cf_call1 (P : List Fn) (W : Nat) (gv : Tb) (k : Nat) : (cfAt P W gv (k + 1)).call1 = callF P W gv k := rr rfl
theorem cf_W (P : List Fn) (W : Nat) (gv : Tb) (k : Nat) : (cfAt P W gv k).W = W := rr rfl
theorem cf_t (P : List Fn) (W : Nat) (gv : Tb) (k : Nat) : (cfAt P W gv k).t = gv := rr rfl
theorem cf_lv (P : List Fn) (W : Nat) (gv : Tb) (k : Nat) : (cfAt P W gv k).lv = k := rr rfl
theorem end_exc (f : Fn) (b c : Nat) (v : Val) (l : Loc) (h : Heap) : endF f b (.exc c v l h) = Res.opt (fz h b v) fun w => .exc c w (h.take b) := rr rfl
theorem finish_v {f : Fn} {b : Nat} {v : Val} {h : Heap} (e : f.frz = true) (p : refsLt b v = true) (hb : b = h.length) (t : ∀ xs, v ≠ .tup xs) : finish f b v h = .ok v h := by
  unfold finish
  rw [e, if_pos rfl]
  have z : fz h b v = some v := by
    cases v with
    | tup xs => exact absurd rfl (t xs)
    | ref n =>
      show (if n < b then some (Val.ref n) else _) = _
      rw [if_pos (of_decide_eq_true p)]
    | lst xs =>
      show (if refsLtL b xs = true then some (Val.lst xs) else none) = _
      rw [if_pos (show refsLtL b xs = true from p)]
    | rol xs =>
      show (if refsLtL b xs = true then some (Val.rol xs) else none) = _
      rw [if_pos (show refsLtL b xs = true from p)]
    | dct ks xs =>
      show (if refsLtL b xs = true then some (Val.dct ks xs) else none) = _
      rw [if_pos (show refsLtL b xs = true from p)]
    | ins ks xs =>
      show (if refsLtL b xs = true then some (Val.ins ks xs) else none) = _
      rw [if_pos (show refsLtL b xs = true from p)]
    | _ => rfl
  rw [z, hb]
  simp
theorem finish_i {f : Fn} {i : Int} {h : Heap} (e : f.frz = true) : finish f h.length (.int i) h = .ok (.int i) h := finish_v e rfl rfl (fun _ z => nomatch z)
theorem finish_b {f : Fn} {i : Bool} {h : Heap} (e : f.frz = true) : finish f h.length (.bl i) h = .ok (.bl i) h := finish_v e rfl rfl (fun _ z => nomatch z)
theorem finish_bt {f : Fn} {b : Nat} {i : Bool} {h h' : Heap} (e : f.frz = true) (t : h.take b = h') : finish f b (.bl i) h = .ok (.bl i) h' := by
  unfold finish
  rw [e, if_pos rfl]
  show Res.ok (Val.bl i) (h.take b) = _
  rw [t]
theorem finish_it {f : Fn} {b : Nat} {i : Int} {h h' : Heap} (e : f.frz = true) (t : h.take b = h') : finish f b (.int i) h = .ok (.int i) h' := by
  unfold finish
  rw [e, if_pos rfl]
  show Res.ok (Val.int i) (h.take b) = _
  rw [t]
mutual
theorem fz_pure {h : Heap} {b : Nat} : ∀ {v : Val}, refsLt b v = true → fz h b v = some v
  | .non, _ => rfl
  | .bl _, _ => rfl
  | .int _, _ => rfl
  | .str _, _ => rfl
  | .ty _, _ => rfl
  | .cls _, _ => rfl
  | .ins ks xs, p => by
    show (if refsLtL b xs = true then some (Val.ins ks xs) else none) = _
    rw [if_pos (show refsLtL b xs = true from p)]
  | .ref n, p => by
    show (if n < b then some (Val.ref n) else _) = _
    rw [if_pos (of_decide_eq_true p)]
  | .lst xs, p => by
    show (if refsLtL b xs = true then some (Val.lst xs) else none) = _
    rw [if_pos (show refsLtL b xs = true from p)]
  | .rol xs, p => by
    show (if refsLtL b xs = true then some (Val.rol xs) else none) = _
    rw [if_pos (show refsLtL b xs = true from p)]
  | .dct ks xs, p => by
    show (if refsLtL b xs = true then some (Val.dct ks xs) else none) = _
    rw [if_pos (show refsLtL b xs = true from p)]
  | .tup xs, p => by
    show (match fzL h b xs with | some ys => some (Val.tup ys) | none => none) = _
    rw [fzL_pure (show refsLtL b xs = true from p)]
theorem fzL_pure {h : Heap} {b : Nat} : ∀ {v : List Val}, refsLtL b v = true → fzL h b v = some v
  | [], _ => rfl
  | v :: vs, p => by
    have p2 : (refsLt b v && refsLtL b vs) = true := p
    rw [Bool.and_eq_true] at p2
    show (match fz h b v, fzL h b vs with | some y, some ys => some (y :: ys) | _, _ => none) = _
    rw [fz_pure p2.1, fzL_pure p2.2]
end
/-- a value that meets no new object leaves as it is -/
theorem finish_p {f : Fn} {b : Nat} {v : Val} {h h' : Heap} (e : f.frz = true) (p : refsLt b v = true) (t : h.take b = h') : finish f b v h = .ok v h' := by
  unfold finish
  rw [e, if_pos rfl, fz_pure p, ← t]
  rfl
theorem finish_s {f : Fn} {i : Str} {h : Heap} (e : f.frz = true) : finish f h.length (.str i) h = .ok (.str i) h := finish_p e rfl (by simp)
theorem finish_keep {f : Fn} {b : Nat} {v : Val} {h : Heap} (e : f.frz = false) : finish f b v h = .ok v h := by
  unfold finish
  rw [e, if_neg Bool.false_ne_true]
theorem at0 {A : Type} (x : A) (xs : List A) : L2.atI (x :: xs) 0 = some x := L2.atI_nat (j := 0) rfl
theorem at1 {A : Type} (x y : A) (xs : List A) : L2.atI (x :: y :: xs) 1 = some y := L2.atI_nat (j := 1) rfl
theorem at2 {A : Type} (x y z : A) (xs : List A) : L2.atI (x :: y :: z :: xs) 2 = some z := L2.atI_nat (j := 2) rfl
theorem at3 {A : Type} (x y z w : A) (xs : List A) : L2.atI (x :: y :: z :: w :: xs) 3 = some w := L2.atI_nat (j := 3) rfl
theorem at4 {A : Type} (x y z w v : A) (xs : List A) : L2.atI (x :: y :: z :: w :: v :: xs) 4 = some v := L2.atI_nat (j := 4) rfl
theorem at5 {A : Type} (x0 x1 x2 x3 x4 x5 : A) (xs : List A) : L2.atI (x0 :: x1 :: x2 :: x3 :: x4 :: x5 :: xs) 5 = some x5 := L2.atI_nat (j := 5) rfl
theorem at6 {A : Type} (x0 x1 x2 x3 x4 x5 x6 : A) (xs : List A) : L2.atI (x0 :: x1 :: x2 :: x3 :: x4 :: x5 :: x6 :: xs) 6 = some x6 := L2.atI_nat (j := 6) rfl
theorem at7 {A : Type} (x0 x1 x2 x3 x4 x5 x6 x7 : A) (xs : List A) : L2.atI (x0 :: x1 :: x2 :: x3 :: x4 :: x5 :: x6 :: x7 :: xs) 7 = some x7 := L2.atI_nat (j := 7) rfl
theorem at8 {A : Type} (x0 x1 x2 x3 x4 x5 x6 x7 x8 : A) (xs : List A) : L2.atI (x0 :: x1 :: x2 :: x3 :: x4 :: x5 :: x6 :: x7 :: x8 :: xs) 8 = some x8 := L2.atI_nat (j := 8) rfl
theorem at9 {A : Type} (x0 x1 x2 x3 x4 x5 x6 x7 x8 x9 : A) (xs : List A) : L2.atI (x0 :: x1 :: x2 :: x3 :: x4 :: x5 :: x6 :: x7 :: x8 :: x9 :: xs) 9 = some x9 := L2.atI_nat (j := 9) rfl
theorem at10 {A : Type} (x0 x1 x2 x3 x4 x5 x6 x7 x8 x9 x10 : A) (xs : List A) : L2.atI (x0 :: x1 :: x2 :: x3 :: x4 :: x5 :: x6 :: x7 :: x8 :: x9 :: x10 :: xs) 10 = some x10 := L2.atI_nat (j := 10) rfl
theorem at11 {A : Type} (x0 x1 x2 x3 x4 x5 x6 x7 x8 x9 x10 x11 : A) (xs : List A) : L2.atI (x0 :: x1 :: x2 :: x3 :: x4 :: x5 :: x6 :: x7 :: x8 :: x9 :: x10 :: x11 :: xs) 11 = some x11 := L2.atI_nat (j := 11) rfl
theorem at12 {A : Type} (x0 x1 x2 x3 x4 x5 x6 x7 x8 x9 x10 x11 x12 : A) (xs : List A) : L2.atI (x0 :: x1 :: x2 :: x3 :: x4 :: x5 :: x6 :: x7 :: x8 :: x9 :: x10 :: x11 :: x12 :: xs) 12 = some x12 := L2.atI_nat (j := 12) rfl
theorem at13 {A : Type} (x0 x1 x2 x3 x4 x5 x6 x7 x8 x9 x10 x11 x12 x13 : A) (xs : List A) : L2.atI (x0 :: x1 :: x2 :: x3 :: x4 :: x5 :: x6 :: x7 :: x8 :: x9 :: x10 :: x11 :: x12 :: x13 :: xs) 13 = some x13 := L2.atI_nat (j := 13) rfl
theorem bits_le {x : Int} {n : Nat} (h : x.natAbs < 2 ^ n) : bits x ≤ n := PyProof.Rows.intBits_le h
theorem lt_bits (x : Int) : x.natAbs < 2 ^ bits x := by
  show x.natAbs < 2 ^ Builtin.Int.intBits x
  unfold Builtin.Int.intBits
  split
  · rename_i e
    have z : x = 0 := by simpa using e
    subst z
    decide
  · rename_i e
    have z : x.natAbs ≠ 0 := by simpa using e
    exact (Nat.log2_lt z).mp (Nat.lt_succ_self _)
theorem pylong_small {i j : Int} (h : bits j ≤ 9000) : Builtin.divisionGoesByPylong i j = false := by
  have h1 : j.natAbs.log2 / 30 + 1 ≤ 300 ∨ j = 0 := by
    have h : Builtin.Int.intBits j ≤ 9000 := h
    unfold Builtin.Int.intBits at h
    split at h
    · rename_i e
      exact .inr (by simpa using e)
    · left
      omega
  unfold Builtin.divisionGoesByPylong
  rcases h1 with h1 | h1
  · have z : ((if j == 0 then 0 else j.natAbs.log2 / 30 + 1) : Nat) ≤ 300 := by
      split
      · exact Nat.zero_le _
      · exact h1
    simp only [Bool.and_eq_false_iff, decide_eq_false_iff_not]
    left
    omega
  · subst h1
    rfl
/-! ### slots behind a turn -/
def trim1 (b : Nat) (o : Option Val) : Option Val := match o with
  | some v => if refsLt b v then some v else none
  | none => none
theorem trimL_nil (b : Nat) : trimL b [] = [] := rr rfl
theorem trimL_cons (b : Nat) (o : Option Val) (l : Loc) : trimL b (o :: l) = trim1 b o :: trimL b l := rr rfl
theorem trim1_s {b : Nat} {v : Val} (h : refsLt b v = true) : trim1 b (some v) = some v := if_pos h
theorem refsLtL_ints (b : Nat) : ∀ ns : List Int, refsLtL b (ns.map .int) = true
  | [] => rfl
  | n :: ns => by
    show (true && refsLtL b (ns.map .int)) = true
    rw [refsLtL_ints b ns]
    rfl
theorem rangeL_succ (lo : Int) (n : Nat) : rangeL lo (n + 1) = .int lo :: rangeL (lo + 1) n := rr rfl
theorem rangeL_zero (lo : Int) : rangeL lo 0 = [] := rr rfl
/-! ### written powers -/
theorem p10_6 : binI .Pow 10 6 = some (.int 1000000) := by kernel_rfl
theorem p10_9 : binI .Pow 10 9 = some (.int 1000000000) := by kernel_rfl
theorem p10_10 : binI .Pow 10 10 = some (.int 10000000000) := by kernel_rfl
theorem p10_12 : binI .Pow 10 12 = some (.int 1000000000000) := by kernel_rfl
theorem p10_18 : binI .Pow 10 18 = some (.int 1000000000000000000) := by kernel_rfl
theorem p10_27 : binI .Pow 10 27 = some (.int 1000000000000000000000000000) := by kernel_rfl
theorem p10_30 : binI .Pow 10 30 = some (.int 1000000000000000000000000000000) := by kernel_rfl
/-! ### sizes -/
theorem bits_abs {a b : Int} (h : a.natAbs ≤ b.natAbs) : bits a ≤ bits b := bits_le (Nat.lt_of_le_of_lt h (lt_bits b))
theorem bits_mul (a b : Int) : bits (a * b) ≤ bits a + bits b := bits_le (by
  rw [Int.natAbs_mul, Nat.pow_add]
  exact Nat.mul_lt_mul'' (lt_bits a) (lt_bits b))
theorem two_le {a b : Nat} (h : a ≤ b) : 2 ^ a ≤ 2 ^ b := Nat.pow_le_pow_right (by decide) h
theorem bits_add (a b : Int) : bits (a + b) ≤ max (bits a) (bits b) + 1 := bits_le (by
  have h1 := lt_bits a
  have h2 := lt_bits b
  have h3 := two_le (Nat.le_max_left (bits a) (bits b))
  have h4 := two_le (Nat.le_max_right (bits a) (bits b))
  rw [Nat.pow_succ]
  omega)
theorem bits_sub (a b : Int) : bits (a - b) ≤ max (bits a) (bits b) + 1 := bits_le (by
  have h1 := lt_bits a
  have h2 := lt_bits b
  have h3 := two_le (Nat.le_max_left (bits a) (bits b))
  have h4 := two_le (Nat.le_max_right (bits a) (bits b))
  rw [Nat.pow_succ]
  omega)
theorem bits_neg (a : Int) : bits (-a) ≤ bits a := bits_abs (by omega)
theorem bits_pos {a b : Int} (h0 : 0 ≤ a) (h : a ≤ b) : bits a ≤ bits b := bits_abs (by omega)
theorem bits_nat {n k : Nat} (h : n < 2 ^ k) : bits (n : Int) ≤ k := bits_le (by rw [Int.natAbs_natCast]; exact h)
theorem bits_lt {a : Int} {k : Nat} (h0 : 0 ≤ a) (h : a < 2 ^ k) : bits a ≤ k := by
  obtain ⟨n, rfl⟩ := Int.eq_ofNat_of_zero_le h0
  refine bits_nat ?_
  exact_mod_cast h
theorem fdiv_nat (a b : Nat) : Int.fdiv (a : Int) (b : Int) = ((a / b : Nat) : Int) := by
  rw [Int.fdiv_eq_ediv_of_nonneg _ (by omega)]
  rfl
theorem fmod_nat (a b : Nat) : Int.fmod (a : Int) (b : Int) = ((a % b : Nat) : Int) := by
  rw [Int.fmod_eq_emod_of_nonneg _ (by omega)]
  rfl
theorem fmod_rng (a : Int) {b : Int} (hb : 0 < b) : 0 ≤ a.fmod b ∧ a.fmod b < b := by
  rw [Int.fmod_eq_emod_of_nonneg _ (by omega)]
  exact ⟨Int.emod_nonneg _ (by omega), Int.emod_lt_of_pos _ hb⟩
theorem fdiv_pos {a b : Int} (ha : 0 ≤ a) (hb : 0 < b) : 0 ≤ a.fdiv b ∧ a.fdiv b ≤ a := by
  rw [Int.fdiv_eq_ediv_of_nonneg _ (by omega)]
  exact ⟨Int.ediv_nonneg ha (by omega), Int.ediv_le_self _ ha⟩
theorem nlt_up {a k m : Nat} (h : a < 2 ^ k) (hm : k ≤ m) : a < 2 ^ m := Nat.lt_of_lt_of_le h (two_le hm)
theorem nlt_add {a b k : Nat} (ha : a < 2 ^ k) (hb : b < 2 ^ k) : a + b < 2 ^ (k + 1) := by
  rw [Nat.pow_succ]
  omega
theorem nlt_mul {a b k m : Nat} (ha : a < 2 ^ k) (hb : b < 2 ^ m) : a * b < 2 ^ (k + m) := by
  rw [Nat.pow_add]
  exact Nat.mul_lt_mul'' ha hb
/-! ### errors, instances -/
/-- where an except suite stands -/
def cfX (P : List Fn) (W : Nat) (gv : Tb) (k e : Nat) (v : Val) : Cf := { cfAt P W gv k with exn := some (e, v) }
theorem cx_t (P : List Fn) (W : Nat) (gv : Tb) (k e : Nat) (v : Val) : (cfX P W gv k e v).t = gv := rr rfl
theorem tri_nx (l : Loc) (h : Heap) (c : Cf) (j : Nat) (i : Option Nat) (k : Cf → Loc → Heap → Out) : (Out.nx l h).tri c j i k = .nx l h := rr rfl
theorem tri_rt (v : Val) (h : Heap) (c : Cf) (j : Nat) (i : Option Nat) (k : Cf → Loc → Heap → Out) : (Out.rt v h).tri c j i k = .rt v h := rr rfl
theorem tri_bk (l : Loc) (h : Heap) (c : Cf) (j : Nat) (i : Option Nat) (k : Cf → Loc → Heap → Out) : (Out.bk l h).tri c j i k = .bk l h := rr rfl
theorem tri_exc (e : Nat) (v : Val) (l : Loc) (h : Heap) (P : List Fn) (W : Nat) (gv : Tb) (n j : Nat) (i : Option Nat) (k : Cf → Loc → Heap → Out) :
    (Out.exc e v l h).tri (cfAt P W gv n) j i k = if gv.isX e && gv.isX j then if gv.sub e j then (k (cfX P W gv n e v) (slotX i l) h).unx i else .exc e v l h else .bad := rr rfl
theorem slot_s (i : Nat) (l : Loc) : slotX (some i) l = l.set i none := rr rfl
theorem slot_n (l : Loc) : slotX none l = l := rr rfl
theorem unx_s (i : Nat) (l : Loc) (h : Heap) : (Out.nx l h).unx (some i) = .nx (l.set i none) h := rr rfl
theorem unx_n (l : Loc) (h : Heap) : (Out.nx l h).unx none = .nx l h := rr rfl
theorem unx_r (i : Option Nat) (v : Val) (h : Heap) : (Out.rt v h).unx i = .rt v h := rr rfl
def xfO (gv : Tb) (e : Nat) (v : Val) (f : Str) (o : Option (Option Val)) (h : Heap) : Res Val := match o with
  | some none => if gv.isX e = true ∧ gv.xf e = some f then .ok v h else .bad
  | _ => .bad
theorem xf_x (P : List Fn) (W : Nat) (gv : Tb) (k e : Nat) (v : Val) (i : Nat) (f : Str) (l : Loc) (h : Heap) : xfR (cfX P W gv k e v) i f l h = xfO gv e v f l[i]? h := by
  show (match l[i]?, some (e, v) with
    | some none, some (k, v) => if gv.isX k = true ∧ gv.xf k = some f then Res.ok v h else .bad
    | _, _ => .bad) = _
  cases l[i]? with
  | none => rfl
  | some o => cases o <;> rfl
theorem xfO_n (gv : Tb) (e : Nat) (v : Val) (f : Str) (h : Heap) : xfO gv e v f (some none) h = if gv.isX e = true ∧ gv.xf e = some f then .ok v h else .bad := rr rfl
def xiO (gv : Tb) (e j : Nat) (o : Option (Option Val)) (h : Heap) : Res Val := match o with
  | some none => if gv.isX e && gv.isX j then .ok (.bl (gv.sub e j)) h else .bad
  | _ => .bad
theorem xi_x (P : List Fn) (W : Nat) (gv : Tb) (k e : Nat) (v : Val) (i j : Nat) (l : Loc) (h : Heap) : xiR (cfX P W gv k e v) i j l h = xiO gv e j l[i]? h := by
  show (match l[i]?, some (e, v) with
    | some none, some (k, _) => if gv.isX k && gv.isX j then Res.ok (Val.bl (gv.sub k j)) h else .bad
    | _, _ => .bad) = _
  cases l[i]? with
  | none => rfl
  | some o => cases o <;> rfl
def xkG (gv : Tb) (e : Nat) (o : Option (Option Val)) : Option Nat := match o with
  | some none => if gv.isX e then some e else none
  | _ => none
theorem xk_x (P : List Fn) (W : Nat) (gv : Tb) (k e : Nat) (v : Val) (i : Nat) (l : Loc) : xkO (cfX P W gv k e v) i l = xkG gv e l[i]? := by
  show (match l[i]?, some (e, v) with
    | some none, some (k, _) => if gv.isX k then some k else none
    | _, _ => none) = _
  cases l[i]? with
  | none => rfl
  | some o => cases o <;> rfl
theorem xkG_n (gv : Tb) (e : Nat) : xkG gv e (some none) = if gv.isX e then some e else none := rr rfl
theorem xiT_2 (gv : Tb) (k a b : Nat) (h : Heap) : xiTR gv k (.tup [.cls a, .cls b]) h = if gv.isX a && (gv.isX b && true) then .ok (.bl (gv.sub k a || (gv.sub k b || false))) h else .bad := rr rfl
theorem xiO_n (gv : Tb) (e j : Nat) (h : Heap) : xiO gv e j (some none) h = if gv.isX e && gv.isX j then .ok (.bl (gv.sub e j)) h else .bad := rr rfl
def xtO (gv : Tb) (e : Nat) (t : String) (o : Option (Option Val)) (h : Heap) : Res Val := match o with
  | some none => if gv.isX e && gv.bt t then .ok (.bl (gv.subT e t)) h else .bad
  | _ => .bad
theorem xt_x (P : List Fn) (W : Nat) (gv : Tb) (k e : Nat) (v : Val) (i : Nat) (t : String) (l : Loc) (h : Heap) : xtR (cfX P W gv k e v) i t l h = xtO gv e t l[i]? h := by
  show (match l[i]?, some (e, v) with
    | some none, some (k, _) => if gv.isX k && gv.bt t then Res.ok (Val.bl (gv.subT k t)) h else .bad
    | _, _ => .bad) = _
  cases l[i]? with
  | none => rfl
  | some o => cases o <;> rfl
theorem xtO_n (gv : Tb) (e : Nat) (t : String) (h : Heap) : xtO gv e t (some none) h = if gv.isX e && gv.bt t then .ok (.bl (gv.subT e t)) h else .bad := rr rfl
theorem rais_0 (k : Nat) (l : Loc) (h : Heap) : raisO k [] l h = .exc k .non l h := rr rfl
theorem rais_1 (k : Nat) (v : Val) (l : Loc) (h : Heap) : raisO k [v] l h = .exc k v l h := rr rfl
theorem raisOk_0 {P : List Fn} {W : Nat} {gv : Tb} {n k : Nat} (h : gv.isX k = true) (hf : gv.xf k = none) : raisOk (cfAt P W gv n) k .nl = true := by
  unfold raisOk
  rw [cf_t, h, hf]
  rfl
theorem raisOk_1 {P : List Fn} {W : Nat} {gv : Tb} {n k : Nat} {a : E} {f : Str} (h : gv.isX k = true) (hf : gv.xf k = some f) : raisOk (cfAt P W gv (n + 2)) k (.cs a .nl) = true := by
  unfold raisOk
  rw [cf_t, h, hf, cf_lv]
  simp
/-- an instance behind its __init__ -/
def newO (n : Nat) (h : Heap) : Option Obj → Res Val
  | some (.ins c fs) => .ok (.ins c fs) (h.take n)
  | _ => .bad
theorem new_v (n : Nat) (h : Heap) : newF false n .non h = newO n h h[n]? := by
  show (match h[n]? with | some (.ins c fs) => Res.ok (Val.ins c fs) (h.take n) | _ => .bad) = _
  cases h[n]? with
  | none => rfl
  | some o => cases o <;> rfl
theorem newO_i (n c : Nat) (h : Heap) (fs : List Val) : newO n h (some (.ins c fs)) = .ok (.ins c fs) (h.take n) := rr rfl
/-- a field set -/
def setfG (t : Tb) (f : Str) (v : Val) (h : Heap) (n : Nat) : Option Obj → Option Heap
  | some (.ins c fs) => if t.isC c = true ∧ (t.fl c)[fs.length]? = some f ∧ pure0 v = true ∧ fs.length < 100 ∧ ((t.fl c).take fs.length).contains f = false then some (h.set n (.ins c (fs ++ [v]))) else none
  | _ => none
theorem setf_r (t : Tb) (f : Str) (v : Val) (h : Heap) (n : Nat) : setfO t h (.ref n) f v = setfG t f v h n h[n]? := by
  show (match h[n]? with
    | some (.ins c fs) => if t.isC c = true ∧ (t.fl c)[fs.length]? = some f ∧ pure0 v = true ∧ fs.length < 100 ∧ ((t.fl c).take fs.length).contains f = false then some (h.set n (.ins c (fs ++ [v]))) else none
    | _ => none) = _
  cases h[n]? with
  | none => rfl
  | some o => cases o <;> rfl
theorem setf_i {t : Tb} {f : Str} {v : Val} {h : Heap} {n c m : Nat} {fs : List Val} (h1 : (t.isC c && decide ((t.fl c)[m]? = some f) && decide (m < 100) && !((t.fl c).take m).contains f) = true) (h2 : pure0 v = true) (hm : fs.length = m := by rfl) : setfG t f v h n (some (.ins c fs)) = some (h.set n (.ins c (fs ++ [v]))) := by
  subst hm
  simp only [Bool.and_eq_true, Bool.not_eq_true', decide_eq_true_eq] at h1
  exact if_pos ⟨h1.1.1.1, h1.1.1.2, h2, h1.1.2, h1.2⟩
theorem bi_any (h : Heap) (v : Val) : biF h .any [v] = ((asSeq h v).bind truL).map fun bs => .bl (bs.any id) := rr rfl
theorem bi_all (h : Heap) (v : Val) : biF h .all [v] = ((asSeq h v).bind truL).map fun bs => .bl (bs.all id) := rr rfl
theorem bi_tup (h : Heap) (v : Val) : biF h .tup [v] = (asSeq h v).map .tup := rr rfl
theorem bi_lst (h : Heap) (v : Val) : biF h .lst [v] = (asSeq h v).map .lst := rr rfl
theorem bi_repr (h : Heap) (v : Val) : biF h .repr [v] = (shownO h v).map .str := rr rfl
theorem bi_str (h : Heap) (v : Val) : biF h .str [v] = (strO h v).map .str := rr rfl
theorem zip_t (xs ys : List Val) (h : Heap) : zipItems [.tup xs, .tup ys] h = .ok (zipV xs ys) h := rr rfl
theorem zip_tl (xs ys : List Val) (h : Heap) : zipItems [.tup xs, .lst ys] h = .ok (zipV xs ys) h := rr rfl
theorem zip_l (xs ys : List Val) (h : Heap) : zipItems [.lst xs, .lst ys] h = .ok (zipV xs ys) h := rr rfl
theorem rv_ins (b c : Nat) (xs : List Val) : refsLt b (.ins c xs) = refsLtL b xs := rr rfl
theorem rv_cls (b c : Nat) : refsLt b (.cls c) = true := rr rfl
theorem rv_dct (b : Nat) (ks : List L2.Key) (xs : List Val) : refsLt b (.dct ks xs) = refsLtL b xs := rr rfl
/-- repr twice of the same is the same -/
theorem shown_eq (h : Heap) (z : Str) : cmpop h .Eq (.str z) (.str z) = some true := by
  show some (decide (z = z)) = _
  simp
theorem look_mem {A B : Type} [BEq A] [LawfulBEq A] {a : A} {b : B} : ∀ {l : List (A × B)}, l.lookup a = some b → (a, b) ∈ l
  | [], h => by cases h
  | (x, y) :: r, h => by
    rw [List.lookup_cons] at h
    cases e : a == x with
    | true =>
      rw [e] at h
      cases h
      have z := eq_of_beq e
      subst z
      simp
    | false =>
      rw [e] at h
      exact List.mem_cons_of_mem _ (look_mem h)
/-- the statements of a class -/
def clsB (st : Stmt) : List Stmt := match st with
  | .ClassDef (body := ys) .. => ys
  | _ => []
end MP
/-! Whole roots, in plain Lean. -/
namespace MP
theorem isq_ex : ∀ n : Nat, ∃ r : Nat, r * r ≤ n ∧ n < (r + 1) * (r + 1)
  | 0 => ⟨0, by decide, by decide⟩
  | n + 1 => by
    obtain ⟨r, h1, h2⟩ := isq_ex n
    by_cases h : n + 1 < (r + 1) * (r + 1)
    · exact ⟨r, by omega, h⟩
    · refine ⟨r + 1, by omega, ?_⟩
      have e : (r + 1 + 1) * (r + 1 + 1) = (r + 1) * (r + 1) + 2 * (r + 1) + 1 := by
        simp only [Nat.add_mul, Nat.mul_add, Nat.one_mul, Nat.mul_one]
        omega
      omega
noncomputable def isq (n : Nat) : Nat := Classical.choose (isq_ex n)
theorem isq_le (n : Nat) : isq n * isq n ≤ n := (Classical.choose_spec (isq_ex n)).1
theorem lt_isq (n : Nat) : n < (isq n + 1) * (isq n + 1) := (Classical.choose_spec (isq_ex n)).2
theorem sq_le {a b : Nat} (h : a ≤ b) : a * a ≤ b * b := Nat.mul_le_mul h h
theorem le_of_sq {a b : Nat} (h : a * a < (b + 1) * (b + 1)) : a ≤ b := by
  by_cases c : a ≤ b
  · exact c
  · have z := sq_le (show b + 1 ≤ a by omega)
    omega
theorem isq_eq {n r : Nat} (h1 : r * r ≤ n) (h2 : n < (r + 1) * (r + 1)) : isq n = r := by
  have a := isq_le n
  have b := lt_isq n
  have c : r ≤ isq n := le_of_sq (by omega)
  have d : isq n ≤ r := le_of_sq (by omega)
  omega
/-- a Newton step stays at or above the root -/
theorem newton_ge {n x : Nat} (hx : 0 < x) : isq n ≤ (x + n / x) / 2 := by
  generalize hs : isq n = s
  have h1 := isq_le n
  rw [hs] at h1
  have key : 2 * s ≤ x + n / x := by
    by_cases c : 2 * s ≤ x
    · exact Nat.le_trans c (Nat.le_add_right _ _)
    · have e : (2 * s - x) * x ≤ n := by
        refine Nat.le_trans ?_ h1
        obtain ⟨d, hd⟩ : ∃ d, 2 * s = x + d := ⟨2 * s - x, by omega⟩
        have e2 : 2 * s - x = d := by omega
        rw [e2]
        have e3 : (2 * s) * (2 * s) = (x + d) * (x + d) := by rw [hd]
        have e4 : (2 * s) * (2 * s) = 4 * (s * s) := by
          rw [Nat.mul_mul_mul_comm]
        have e5 : (x + d) * (x + d) = x * x + 2 * (d * x) + d * d := by
          simp only [Nat.add_mul, Nat.mul_add]
          rw [Nat.mul_comm x d]
          omega
        have e6 : 2 * (d * x) ≤ x * x + d * d := by
          rcases Nat.le_total d x with q | q
          · obtain ⟨t, rfl⟩ := Nat.exists_eq_add_of_le q
            simp only [Nat.add_mul, Nat.mul_add]
            rw [Nat.mul_comm t d]
            have := Nat.zero_le (t * t)
            omega
          · obtain ⟨t, rfl⟩ := Nat.exists_eq_add_of_le q
            simp only [Nat.add_mul, Nat.mul_add]
            rw [Nat.mul_comm t x]
            have := Nat.zero_le (t * t)
            omega
        omega
      have := (Nat.le_div_iff_mul_le hx).mpr e
      omega
  omega
/-- where it does not go down, it is there -/
theorem newton_end {n x : Nat} (hx : 0 < x) (h : x ≤ (x + n / x) / 2) : x * x ≤ n := by
  have h1 : x ≤ n / x := by omega
  have := (Nat.le_div_iff_mul_le hx).mp h1
  exact this
theorem isq_pos {n : Nat} (h : 0 < n) : 0 < isq n := by
  have := lt_isq n
  rcases Nat.eq_zero_or_pos (isq n) with z | z
  · rw [z] at this
    omega
  · exact z
theorem isq_mono {a b : Nat} (h : a ≤ b) : isq a ≤ isq b := by
  have h1 := isq_le a
  have h2 := lt_isq b
  exact le_of_sq (by omega)
theorem isq_le_pow {n k : Nat} (h : n < 2 ^ (2 * k)) : isq n < 2 ^ k := by
  have h1 := isq_le n
  rcases Nat.lt_or_ge (isq n) (2 ^ k) with c | c
  · exact c
  · have := sq_le c
    rw [← Nat.pow_add] at this
    rw [Nat.two_mul] at h
    omega
end MP
/-! Defs that many laws share: the draws, whole roots, the greatest common divisor. -/
namespace MP
open PySem
theorem setix_at {h : Heap} {n j : Nat} {k : Int} {xs : List Val} {e : Val} (hn : h[n]? = some (.lst xs)) (hj : L2.ixN xs.length k = some j) (p : pure0 e = true) : setixO h (.ref n) (.int k) e = some (h.set n (.lst (xs.set j e))) := by
  unfold setixO
  simp only [hn, hj]
  rw [if_pos p]
theorem set_get {h : Heap} {r : Nat} {o o' : Obj} (hr : h[r]? = some o) : (h.set r o')[r]? = some o' := List.getElem?_set_self (List.getElem?_eq_some_iff.mp hr).1
theorem ix3_0 {x y z : Val} : L2.ixN [x, y, z].length 0 = some 0 := rfl
theorem ix3_2 {x y z : Val} : L2.ixN [x, y, z].length 2 = some 2 := rfl
local macro_rules | `(tactic| walk_at "mp") => `(tactic| try simp only [e_var, e_con, e_bt, e_glo, e_d0, e_d1, e_tup, e_lst, e_bin, e_neg, e_cmp, e_chn, e_sl, e_lc, e_and, e_or, e_not, e_ife, e_cal, e_bi, e_bm, e_ix, es_nl, es_cs, o_nl, o_cs, t_nl, t_and, t_or, t_not, t_cmp, t_chn, t_tst, i_seq, i_rng, e_cl, e_new, e_fld, e_mth, e_xf, e_xi, e_xt, i_zip, i_enu, r_brk, r_setf, r_rais, r_tri, cf_call, cf_call1, cf_W, cf_t, cf_lv, cx_t, tri_nx, tri_rt, tri_bk, tri_exc, slot_s, slot_n, unx_s, unx_n, unx_r, xf_x, xfO_n, xi_x, xiO_n, xt_x, xtO_n, rais_0, rais_1, new_v, newO_i, setf_r, bi_any, bi_all, bi_tup, bi_lst, bi_repr, bi_str, zip_t, zip_l, rv_ins, rv_cls, rv_dct, isLst_l, r_nop, r_seq, r_asg, r_asgc, r_par, r_setix, r_ret, r_exp, r_ite, r_whl, r_for, r_scope, st_nm, st_tup, st_nl, st_cs, st_2, bin_ii, bin_add, bin_sub, bin_ss, bin_tt, cmp_ii, cmp_eq, cmp_ne, cmp_lt, cmp_le, cmp_gt, cmp_ge, cmp_ss, cs_eq, cs_ne, cs_lt, cs_gt, cs_in, cs_nin, seq_lst, seq_rol, seq_tup, bi_abs, bi_max, bi_min, bi_int_i, bi_int_b, bi_len_l, bi_len_r, bi_len_t, bi_len_h, bi_isi, ty_non, ty_bl, ty_int, ty_str, ty_tup, ty_lst, ty_rol, ty_dct, bm_bits, bt_bits, bt_rev, bt_app, bt_join, bm_join, kit_int_int, kit_int_bool, kit_int_str, kit_int_list, kit_int_tuple, kit_int_dict, kit_bool_int, kit_bool_bool, kit_bool_str, kit_bool_list, kit_bool_tuple, kit_bool_dict, kit_str_int, kit_str_bool, kit_str_str, kit_str_list, kit_str_tuple, kit_str_dict, kit_none_int, kit_none_bool, kit_none_str, kit_none_list, kit_none_tuple, kit_none_dict, kit_list_int, kit_list_bool, kit_list_str, kit_list_list, kit_list_tuple, kit_list_dict, kit_tuple_int, kit_tuple_bool, kit_tuple_str, kit_tuple_list, kit_tuple_tuple, kit_tuple_dict, kit_dict_int, kit_dict_bool, kit_dict_str, kit_dict_list, kit_dict_tuple, kit_dict_dict, seqI_l, seqI_r, seqI_t, seqI_s, varR_ok, andR_t, andR_f, orR_t, orR_f, notR_b, negR_i, partR_i, tru_b, tru_i, tru_n, ixR_l, ixR_r, ixR_t, ixR_h, at0, at1, at2, at3, at4, at5, at6, at7, at8, at9, at10, at11, at12, at13, bind_ok, bind_exc, bind_bad, noX_ok, noX_bad, opt_some, opt_none, out_ok, out_exc, out_bad, oopt_some, oopt_none, thn_nx, thn_rt, thn_bk, thn_ct, thn_exc, thn_bad, turn_nx, turn_ct, turn_bk, turn_rt, turn_exc, turn_bad, trim_nx, trim_bk, trim_ct, trim_rt, trim_exc, trim_bad, end_nx, end_rt, end_exc, objL_s, seq_refO, setix_ref, setL_0, setL_1, setL_2, bm_rev, Option.map_some, List.reverse_cons, List.reverse_nil, fl_nil, fl_cons, tupR_v, lstR_v, lstR_h, rl_nil, rl_cons, rv_int, rv_bl, rv_non, rv_str, rv_tup, rv_lst, Bool.and_self, Bool.and_true, Bool.true_and, List.length_cons, List.length_nil, Nat.zero_add, Nat.reduceAdd, Nat.reduceLeDiff, p10_6, p10_9, p10_10, p10_12, p10_18, p10_27, p10_30, List.getElem?_cons_zero, List.getElem?_cons_succ, List.set_cons_zero, List.set_cons_succ, List.map_cons, List.map_nil, List.cons_append, List.nil_append, List.append_nil, List.replicate, Nat.sub_self, Nat.reduceSub, Option.bind_some, decide_true, decide_false, Bool.not_true, Bool.not_false, if_true, if_false, Bool.false_eq_true, ↓reduceIte, reduceCtorEq])
local macro_rules | `(tactic| walk_at "mph") => `(tactic| try simp only [*, bin_mod, bin_mul, ne_eq, Int.reduceEq, not_false_eq_true, e_var, e_con, e_bt, e_glo, e_d0, e_d1, e_tup, e_lst, e_bin, e_neg, e_cmp, e_chn, e_sl, e_lc, e_and, e_or, e_not, e_ife, e_cal, e_bi, e_bm, e_ix, es_nl, es_cs, o_nl, o_cs, t_nl, t_and, t_or, t_not, t_cmp, t_chn, t_tst, i_seq, i_rng, e_cl, e_new, e_fld, e_mth, e_xf, e_xi, e_xt, i_zip, i_enu, r_brk, r_setf, r_rais, r_tri, cf_call, cf_call1, cf_W, cf_t, cf_lv, cx_t, tri_nx, tri_rt, tri_bk, tri_exc, slot_s, slot_n, unx_s, unx_n, unx_r, xf_x, xfO_n, xi_x, xiO_n, xt_x, xtO_n, rais_0, rais_1, new_v, newO_i, setf_r, bi_any, bi_all, bi_tup, bi_lst, bi_repr, bi_str, zip_t, zip_l, rv_ins, rv_cls, rv_dct, isLst_l, r_nop, r_seq, r_asg, r_asgc, r_par, r_setix, r_ret, r_exp, r_ite, r_whl, r_for, r_scope, st_nm, st_tup, st_nl, st_cs, st_2, bin_ii, bin_add, bin_sub, bin_ss, bin_tt, cmp_ii, cmp_eq, cmp_ne, cmp_lt, cmp_le, cmp_gt, cmp_ge, cmp_ss, cs_eq, cs_ne, cs_lt, cs_gt, cs_in, cs_nin, seq_lst, seq_rol, seq_tup, bi_abs, bi_max, bi_min, bi_int_i, bi_int_b, bi_len_l, bi_len_r, bi_len_t, bi_len_h, bi_isi, ty_non, ty_bl, ty_int, ty_str, ty_tup, ty_lst, ty_rol, ty_dct, bm_bits, bt_bits, bt_rev, bt_app, bt_join, bm_join, kit_int_int, kit_int_bool, kit_int_str, kit_int_list, kit_int_tuple, kit_int_dict, kit_bool_int, kit_bool_bool, kit_bool_str, kit_bool_list, kit_bool_tuple, kit_bool_dict, kit_str_int, kit_str_bool, kit_str_str, kit_str_list, kit_str_tuple, kit_str_dict, kit_none_int, kit_none_bool, kit_none_str, kit_none_list, kit_none_tuple, kit_none_dict, kit_list_int, kit_list_bool, kit_list_str, kit_list_list, kit_list_tuple, kit_list_dict, kit_tuple_int, kit_tuple_bool, kit_tuple_str, kit_tuple_list, kit_tuple_tuple, kit_tuple_dict, kit_dict_int, kit_dict_bool, kit_dict_str, kit_dict_list, kit_dict_tuple, kit_dict_dict, seqI_l, seqI_r, seqI_t, seqI_s, varR_ok, andR_t, andR_f, orR_t, orR_f, notR_b, negR_i, partR_i, tru_b, tru_i, tru_n, ixR_l, ixR_r, ixR_t, ixR_h, at0, at1, at2, at3, at4, at5, at6, at7, at8, at9, at10, at11, at12, at13, bind_ok, bind_exc, bind_bad, noX_ok, noX_bad, opt_some, opt_none, out_ok, out_exc, out_bad, oopt_some, oopt_none, thn_nx, thn_rt, thn_bk, thn_ct, thn_exc, thn_bad, turn_nx, turn_ct, turn_bk, turn_rt, turn_exc, turn_bad, trim_nx, trim_bk, trim_ct, trim_rt, trim_exc, trim_bad, end_nx, end_rt, end_exc, objL_s, seq_refO, setix_ref, setL_0, setL_1, setL_2, bm_rev, Option.map_some, List.reverse_cons, List.reverse_nil, fl_nil, fl_cons, tupR_v, lstR_v, lstR_h, rl_nil, rl_cons, rv_int, rv_bl, rv_non, rv_str, rv_tup, rv_lst, Bool.and_self, Bool.and_true, Bool.true_and, List.length_cons, List.length_nil, Nat.zero_add, Nat.reduceAdd, Nat.reduceLeDiff, p10_6, p10_9, p10_10, p10_12, p10_18, p10_27, p10_30, List.getElem?_cons_zero, List.getElem?_cons_succ, List.set_cons_zero, List.set_cons_succ, List.map_cons, List.map_nil, List.cons_append, List.nil_append, List.append_nil, List.replicate, Nat.sub_self, Nat.reduceSub, Option.bind_some, decide_true, decide_false, Bool.not_true, Bool.not_false, if_true, if_false, Bool.false_eq_true, ↓reduceIte, reduceCtorEq])
/-! ### common, whole_root -/
def bCommon : S := (.seq (.asg (.nm 0) (.bi .abs (.cs (.var 0) .nl))) (.seq (.asg (.nm 1) (.bi .abs (.cs (.var 1) .nl))) (.seq (.whl (.cmp .Gt (.var 1) (.con (.int 0))) (.seq (.par 0 1 (.cs (.var 1) (.cs (.bin .Mod (.var 0) (.var 1)) .nl))) .nop)) (.seq (.ret (.var 0)) .nop))))
def fCommon : Fn := ⟨2, 2, true, bCommon⟩
theorem common_loop (c : Cf) (h : Heap) : ∀ (n : Nat) (a b : Nat), b < n → whileN (evalT c (.cmp .Gt (.var 1) (.con (.int 0)))) (run c (.seq (.par 0 1 (.cs (.var 1) (.cs (.bin .Mod (.var 0) (.var 1)) .nl))) .nop)) n [some (.int a), some (.int b)] h = .nx [some (.int (Nat.gcd a b)), some (.int 0)] h
  | 0, a, b, hb => absurd hb (Nat.not_lt_zero b)
  | n + 1, a, b, hb => by
    rw [w_succ]
    walk_at "mp"
    by_cases h0 : b = 0
    · subst h0
      simp
    · have hp : (0 : Int) < (b : Int) := by omega
      have hm : Int.fmod (a : Int) (b : Int) = ((a % b : Nat) : Int) := by
        rw [Int.fmod_eq_emod_of_nonneg _ (by omega)]; rfl
      simp only [hp, decide_true, if_true]
      walk_at "mp"
      rw [bin_mod (by omega)]
      walk_at "mp"
      rw [hm, common_loop c h n b (a % b) (by have := Nat.mod_lt a (Nat.pos_of_ne_zero h0); omega)]
      rw [Nat.gcd_comm a b, Nat.gcd_rec b a, Nat.gcd_comm]
theorem common_ok {P : List Fn} {gv : Tb} {i W k : Nat} {a b : Int} {h : Heap} (hP : P[i]? = some fCommon) (hW : b.natAbs < W) : callF P W gv (k + 1) i [.int a, .int b] h = .ok (.int (Int.gcd a b)) h := by
  rw [callF_go hP bCommon 0]
  unfold bCommon
  walk_at "mp"
  rw [common_loop _ _ _ _ _ hW]
  walk_at "mp"
  rw [finish_i rfl]
  rfl
def bRoot : S := (.seq (.ite (.cmp .Eq (.var 0) (.con (.int 0))) (.seq (.ret (.con (.int 0))) .nop) .nop) (.seq (.asg (.nm 1) (.bin .LShift (.con (.int 1)) (.bin .FloorDiv (.bin .Add (.bm .bits (.var 0) .nl) (.con (.int 1))) (.con (.int 2))))) (.seq (.asg (.nm 2) (.bin .FloorDiv (.bin .Add (.var 1) (.bin .FloorDiv (.var 0) (.var 1))) (.con (.int 2)))) (.seq (.whl (.cmp .Lt (.var 2) (.var 1)) (.seq (.asg (.nm 1) (.var 2)) (.seq (.asg (.nm 2) (.bin .FloorDiv (.bin .Add (.var 1) (.bin .FloorDiv (.var 0) (.var 1))) (.con (.int 2)))) .nop))) (.seq (.ret (.var 1)) .nop)))))
def fRoot : Fn := ⟨3, 1, true, bRoot⟩
theorem root_loop (c : Cf) (h : Heap) (n : Nat) (hn : 0 < n) : ∀ (m x : Nat), x < m → 0 < x → x < 2 ^ 9000 → isq n ≤ x →
    ∃ y, whileN (evalT c (.cmp .Lt (.var 2) (.var 1))) (run c (.seq (.asg (.nm 1) (.var 2)) (.seq (.asg (.nm 2) (.bin .FloorDiv (.bin .Add (.var 1) (.bin .FloorDiv (.var 0) (.var 1))) (.con (.int 2)))) .nop))) m
      [some (.int n), some (.int x), some (.int ((x + n / x) / 2 : Nat))] h = .nx [some (.int n), some (.int (isq n)), y] h
  | 0, x, hm, _, _, _ => absurd hm (Nat.not_lt_zero x)
  | m + 1, x, hm, hx, hb, hi => by
    rw [w_succ]
    walk_at "mp"
    by_cases hc : (x + n / x) / 2 < x
    · have hp : 0 < (x + n / x) / 2 := Nat.lt_of_lt_of_le (isq_pos hn) (newton_ge hx)
      have hd : (((x + n / x) / 2 : Nat) : Int) < (x : Int) := by exact_mod_cast hc
      simp only [hd, decide_true, if_true]
      generalize hz : (x + n / x) / 2 = z at *
      rw [bin_div (by omega) (pylong_small (bits_nat (Nat.lt_trans hc hb)))]
      walk_at "mp"
      rw [bin_div (by omega) (pylong_small (by decide +kernel))]
      walk_at "mp"
      have e : Int.fdiv ((z : Int) + Int.fdiv (n : Int) (z : Int)) 2 = (((z + n / z) / 2 : Nat) : Int) := by
        rw [fdiv_nat, ← Int.natCast_add, show (2 : Int) = ((2 : Nat) : Int) from rfl, fdiv_nat]
      rw [e]
      exact root_loop c h n hn m z (by omega) hp (Nat.lt_trans hc hb) (by rw [← hz]; exact newton_ge hx)
    · have hd : ¬ ((((x + n / x) / 2 : Nat) : Int) < (x : Int)) := by
        intro z
        exact hc (by exact_mod_cast z)
      simp only [hd, decide_false, if_false, Bool.false_eq_true]
      have e1 := newton_end (n := n) hx (by omega)
      have e2 : isq n = x := by
        have := lt_isq n
        have : x ≤ isq n := le_of_sq (by omega)
        omega
      rw [e2]
      exact ⟨_, rfl⟩
theorem root_ok {P : List Fn} {gv : Tb} {i W k n : Nat} {h : Heap} (hP : P[i]? = some fRoot) (hn : n < 2 ^ 16000) (hW : 2 ^ 9000 ≤ W) : callF P W gv (k + 1) i [.int n] h = .ok (.int (isq n)) h := by
  rw [callF_go hP bRoot 2]
  unfold bRoot
  walk_at "mp"
  by_cases h0 : n = 0
  · subst h0
    have e : isq 0 = 0 := isq_eq (by decide) (by decide)
    rw [e]
    simp
    walk_at "mp"
    exact finish_i rfl
  · have hi : ¬ ((n : Int) = 0) := by omega
    simp only [hi, decide_false, if_false, Bool.false_eq_true]
    walk_at "mp"
    have hb : bits (n : Int) ≤ 16000 := bits_nat hn
    generalize hbb : bits (n : Int) = b at *
    rw [bin_div (by omega) (pylong_small (by decide +kernel))]
    walk_at "mp"
    have e1 : Int.fdiv ((b : Int) + 1) 2 = (((b + 1) / 2 : Nat) : Int) := by
      rw [show (b : Int) + 1 = ((b + 1 : Nat) : Int) from rfl, show (2 : Int) = ((2 : Nat) : Int) from rfl, fdiv_nat]
    rw [e1]
    have b1 : bits 1 = 1 := by decide +kernel
    rw [bin_shl (by omega) (by rw [b1]; omega)]
    walk_at "mp"
    have e2 : (1 : Int) * 2 ^ (((b + 1) / 2 : Nat) : Int).toNat = ((2 ^ ((b + 1) / 2) : Nat) : Int) := by
      rw [Int.toNat_natCast, Int.one_mul]
      exact_mod_cast rfl
    rw [e2]
    have hx : 0 < 2 ^ ((b + 1) / 2) := Nat.two_pow_pos _
    have hlt : 2 ^ ((b + 1) / 2) < 2 ^ 9000 := Nat.pow_lt_pow_right (by decide) (by omega)
    have hnb : n < 2 ^ b := by
      have := lt_bits (n : Int)
      rw [hbb, Int.natAbs_natCast] at this
      exact this
    have hiq : isq n ≤ 2 ^ ((b + 1) / 2) := by
      refine Nat.le_of_lt (isq_le_pow (Nat.lt_of_lt_of_le hnb (two_le ?_)))
      omega
    generalize 2 ^ ((b + 1) / 2) = x at *
    rw [bin_div (by omega) (pylong_small (bits_nat hlt))]
    walk_at "mp"
    rw [bin_div (by omega) (pylong_small (by decide +kernel))]
    walk_at "mp"
    have e : Int.fdiv ((x : Int) + Int.fdiv (n : Int) (x : Int)) 2 = (((x + n / x) / 2 : Nat) : Int) := by
      rw [fdiv_nat, ← Int.natCast_add, show (2 : Int) = ((2 : Nat) : Int) from rfl, fdiv_nat]
    rw [e]
    obtain ⟨y, ey⟩ := root_loop (cfAt P W gv k) h n (by omega) W x (by omega) hx hlt hiq
    rw [ey]
    walk_at "mp"
    exact finish_i rfl
/-! ### the draws: a box is a list of three ints -/
def IsBox (o : Obj) (n : Nat) : Prop := ∃ a b c : Int, o = .lst [.int a, .int b, .int c] ∧ 0 ≤ a ∧ 0 ≤ b ∧ b < 2147483629 ∧ 0 ≤ c ∧ c ≤ n
theorem IsBox.mono {o : Obj} {n m : Nat} (h : IsBox o n) (hm : n ≤ m) : IsBox o m := by
  obtain ⟨a, b, c, rfl, h1, h2, h3, h4, h5⟩ := h
  exact ⟨a, b, c, rfl, h1, h2, h3, h4, by omega⟩
def bCell : S := (.seq (.ite (.cmp .Lt (.var 1) (.bi .len (.cs (.var 0) .nl))) (.seq (.ret (.ix (.var 0) (.var 1))) .nop) .nop) (.seq (.ret (.bin .Add (.bin .Mult (.con (.int 7919)) (.var 1)) (.con (.int 13)))) .nop))
def fCell : Fn := ⟨2, 2, true, bCell⟩
theorem cell_ok {P : List Fn} {gv : Tb} {i W k j : Nat} {ns : List Int} {h : Heap} (hP : P[i]? = some fCell) (hj : j < 1000) : ∃ v, callF P W gv (k + 1) i [.rol (ns.map .int), .int j] h = .ok (.int v) h := by
  rw [callF_go hP bCell 0]
  unfold bCell
  walk_at "mp"
  by_cases hc : j < ns.length
  · have hd : (j : Int) < (((ns.map Val.int).length : Nat) : Int) := by rw [List.length_map]; omega
    simp only [hd, decide_true, if_true]
    have ha : L2.atI (ns.map Val.int) (j : Int) = some (.int ns[j]) := L2.atI_nat (by rw [List.getElem?_map, List.getElem?_eq_getElem hc]; rfl)
    rw [ha]
    walk_at "mp"
    exact ⟨_, finish_i rfl⟩
  · have hd : ¬ ((j : Int) < (((ns.map Val.int).length : Nat) : Int)) := by rw [List.length_map]; omega
    simp only [hd, decide_false, if_false, Bool.false_eq_true]
    walk_at "mp"
    have b1 : bits 7919 ≤ 13 := bits_le (by decide)
    have b2 : bits (j : Int) ≤ 10 := bits_nat (by omega)
    rw [bin_mul (by omega)]
    walk_at "mp"
    exact ⟨_, finish_i rfl⟩
def bBox : S := (.seq (.ret (.lst true (.cs (.bi .max2 (.cs (.con (.int 0)) (.cs (.bin .Sub (.var 0) (.bin .Pow (.con (.int 10)) (.con (.int 18)))) .nl))) (.cs (.bin .Mod (.var 0) (.con (.int 2147483629))) (.cs (.con (.int 0)) .nl))))) .nop)
def fBox : Fn := ⟨1, 1, false, bBox⟩
theorem bits10 : bits 10 = 4 := by decide +kernel
theorem box_ok {P : List Fn} {gv : Tb} {i W k : Nat} {v : Int} {h : Heap} (hP : P[i]? = some fBox) : ∃ o, callF P W gv (k + 1) i [.int v] h = .ok (.ref h.length) (h ++ [o]) ∧ IsBox o 0 := by
  rw [callF_go hP bBox 0]
  unfold bBox
  walk_at "mp"
  rw [bin_mod (by decide)]
  walk_at "mp"
  obtain ⟨h1, h2⟩ := fmod_rng v (show (0 : Int) < 2147483629 by decide)
  exact ⟨_, finish_keep rfl, _, _, _, rfl, by omega, h1, h2, Int.le_refl _, Int.le_refl _⟩
def bTake : S := (.seq (.ite (.cmp .Gt (.ix (.var 0) (.con (.int 0))) (.con (.int 0))) (.seq (.asg (.nm 3) (.bin .Mod (.ix (.var 0) (.con (.int 0))) (.var 1))) (.seq (.setix (.var 0) (.con (.int 0)) (.bin .FloorDiv (.ix (.var 0) (.con (.int 0))) (.var 1))) (.seq (.ret (.var 3)) .nop))) .nop) (.seq (.setix (.var 0) (.con (.int 2)) (.bin .Add (.ix (.var 0) (.con (.int 2))) (.con (.int 1)))) (.seq (.asg (.nm 2) (.bin .Mod (.bin .Mult (.bin .Add (.ix (.var 0) (.con (.int 1))) (.con (.int 17))) (.bin .Add (.bin .Mult (.con (.int 7919)) (.ix (.var 0) (.con (.int 2)))) (.con (.int 104729)))) (.con (.int 2147483647)))) (.seq (.asg (.nm 2) (.bin .Mod (.bin .Add (.bin .Pow (.var 2) (.con (.int 5))) (.ix (.var 0) (.con (.int 2)))) (.con (.int 2147483629)))) (.seq (.ret (.bin .Mod (.bin .FloorDiv (.bin .Mod (.bin .Pow (.var 2) (.con (.int 3))) (.con (.int 2147483587))) (.con (.int 8))) (.var 1))) .nop)))))
def fTake : Fn := ⟨4, 2, true, bTake⟩
theorem take_ok {P : List Fn} {gv : Tb} {i W k r n : Nat} {many : Int} {h : Heap} {o : Obj} (hP : P[i]? = some fTake) (hr : h[r]? = some o) (hB : IsBox o n) (hn : n ≤ 1000000000) (hm : 1 ≤ many) (hmb : bits many ≤ 9000) :
    ∃ v o', callF P W gv (k + 1) i [.ref r, .int many] h = .ok (.int v) (h.set r o') ∧ 0 ≤ v ∧ v < many ∧ IsBox o' (n + 1) := by
  obtain ⟨a, b, c, rfl, ha, hb, hb2, hc, hc2⟩ := hB
  rw [callF_go hP bTake 2]
  unfold bTake
  have sg := fun o' => set_get (o' := o') hr
  have fin : ∀ (v : Int) (h' : Heap), h'.length = h.length → finish fTake h.length (.int v) h' = .ok (.int v) h' := fun v h' e => by
    rw [← e]
    exact finish_i rfl
  have hm0 : ¬ many = 0 := by omega
  by_cases h0 : 0 < a
  · have g1 := bin_div hm0 (pylong_small (i := a) hmb)
    walk_at "mph"
    obtain ⟨h1, h2⟩ := fmod_rng a (show 0 < many by omega)
    exact ⟨_, _, fin _ _ (by simp), h1, h2, _, _, _, rfl, (fdiv_pos ha (by omega)).1, hb, hb2, hc, by omega⟩
  · have b0 : bits 7919 ≤ 13 := bits_le (by decide)
    have b1 : bits (c + 1) ≤ 31 := bits_lt (by omega) (by omega)
    have g3 : bits 7919 + bits (c + 1) ≤ 134217728 := by omega
    have b2 : bits (b + 17) ≤ 32 := bits_lt (by omega) (by omega)
    have b3 : bits (7919 * (c + 1) + 104729) ≤ 50 := bits_lt (by omega) (by omega)
    have g4 : bits (b + 17) + bits (7919 * (c + 1) + 104729) ≤ 134217728 := by omega
    walk_at "mph"
    generalize hx : Int.fmod ((b + 17) * (7919 * (c + 1) + 104729)) 2147483647 = x
    have hx2 := fmod_rng ((b + 17) * (7919 * (c + 1) + 104729)) (show (0 : Int) < 2147483647 by decide)
    rw [hx] at hx2
    have b4 : bits x ≤ 31 := bits_lt hx2.1 (by omega)
    rw [bin_pow (by decide) (by omega)]
    walk_at "mph"
    generalize hy : Int.fmod (x ^ (5 : Int).toNat + (c + 1)) 2147483629 = y
    have hy2 := fmod_rng (x ^ (5 : Int).toNat + (c + 1)) (show (0 : Int) < 2147483629 by decide)
    rw [hy] at hy2
    have b5 : bits y ≤ 31 := bits_lt hy2.1 (by omega)
    rw [bin_pow (by decide) (by omega)]
    walk_at "mph"
    rw [bin_div (by decide) (pylong_small (by decide +kernel))]
    walk_at "mph"
    obtain ⟨h1, h2⟩ := fmod_rng (((y ^ (3 : Int).toNat).fmod 2147483587).fdiv 8) (show 0 < many by omega)
    exact ⟨_, _, fin _ _ (by simp), h1, h2, _, _, _, rfl, ha, hb, hb2, by omega, by omega⟩
def bGreatL (t : Nat) : S := (.seq (.asg (.nm 2) (.bin .Add (.bin .Mult (.var 2) (.bin .Pow (.con (.int 10)) (.con (.int 9)))) (.cal t (.cs (.var 0) (.cs (.bin .Pow (.con (.int 10)) (.con (.int 9))) .nl))))) .nop)
def bGreat (t : Nat) : S := (.seq (.asg (.nm 2) (.bin .Add (.con (.int 1)) (.cal t (.cs (.var 0) (.cs (.con (.int 9)) .nl))))) (.seq (.for_ (.nm 3) (.iRng (.cs (.var 1) .nl)) (bGreatL t)) (.seq (.ret (.var 2)) .nop)))
def fGreat (t : Nat) : Fn := ⟨4, 2, true, bGreat t⟩
theorem pow2_add (a b : Nat) : (2 : Int) ^ (a + b) = 2 ^ a * 2 ^ b := Int.pow_add 2 a b
theorem pow2_pos (a : Nat) : (0 : Int) < 2 ^ a := by
  have := Nat.two_pow_pos a
  exact_mod_cast this
theorem set_same {h : Heap} {r : Nat} {o : Obj} (hr : h[r]? = some o) : h.set r o = h := by
  apply List.ext_getElem?
  intro i
  by_cases e : r = i
  · subst e
    rw [set_get hr, hr]
  · rw [List.getElem?_set_ne e]
theorem great_loop {P : List Fn} {gv : Tb} {t W k r : Nat} {ch : Val} (hP : P[t]? = some fTake) : ∀ (n : Nat) (lo number : Int) (kv : Option Val) (hh : Heap) (o : Obj) (m q : Nat), hh[r]? = some o → IsBox o m → m + n ≤ 1000000000 → 1 ≤ number → number < 2 ^ q → q + 30 * n ≤ 100000000 →
    ∃ number' o' kv', forL (.nm 3) (run (cfAt P W gv (k + 1)) (bGreatL t)) (rangeL lo n) [some (.ref r), some ch, some (.int number), kv] hh = .nx [some (.ref r), some ch, some (.int number'), kv'] (hh.set r o') ∧
      1 ≤ number' ∧ number' < 2 ^ (q + 30 * n) ∧ IsBox o' (m + n)
  | 0, lo, number, kv, hh, o, m, q, hr, hB, _, h1, h2, _ => by
    refine ⟨number, o, kv, ?_, h1, h2, hB⟩
    rw [set_same hr]
    rfl
  | n + 1, lo, number, kv, hh, o, m, q, hr, hB, hm, h1, h2, hq => by
    show ∃ number' o' kv', forL (.nm 3) (run (cfAt P W gv (k + 1)) (bGreatL t)) (.int lo :: rangeL (lo + 1) n) _ hh = _ ∧ _
    rw [fl_cons]
    obtain ⟨v, o1, e1, v1, v2, B1⟩ := take_ok (W := W) (gv := gv) (k := k) (many := 1000000000) hP hr hB (by omega) (by omega) (by decide +kernel)
    have b1 : bits number ≤ q := bits_lt (by omega) h2
    have b2 : bits 1000000000 ≤ 30 := bits_le (by decide)
    have g1 : bits number + bits 1000000000 ≤ 134217728 := by omega
    have hn2 : number * 1000000000 + v < 2 ^ (q + 30) := by
      rw [pow2_add]
      have e30 : (2 : Int) ^ 30 = 1073741824 := by decide
      rw [e30]
      generalize (2 : Int) ^ q = z at *
      omega
    obtain ⟨n3, o3, kv3, e3, v3, v4, B3⟩ := great_loop (P := P) (W := W) (gv := gv) (k := k) (ch := ch) hP n (lo + 1) (number * 1000000000 + v) (some (.int lo)) (hh.set r o1) o1 (m + 1) (q + 30) (set_get hr) B1 (by omega) (by omega) hn2 (by omega)
    refine ⟨n3, o3, kv3, ?_, v3, by rw [show q + 30 * (n + 1) = q + 30 + 30 * n by omega]; exact v4, by rw [show m + (n + 1) = m + 1 + n by omega]; exact B3⟩
    unfold bGreatL at e3 ⊢
    walk_at "mph"
    rw [List.set_set]
theorem great_ok {P : List Fn} {gv : Tb} {i t W k r n ch : Nat} {h : Heap} {o : Obj} (hP : P[i]? = some (fGreat t)) (hT : P[t]? = some fTake) (hr : h[r]? = some o) (hB : IsBox o n) (hn : n + ch + 1 ≤ 1000000000) (hc : ch ≤ 1000000) :
    ∃ v o', callF P W gv (k + 2) i [.ref r, .int ch] h = .ok (.int v) (h.set r o') ∧ 1 ≤ v ∧ v < 2 ^ (4 + 30 * ch) ∧ IsBox o' (n + ch + 1) := by
  rw [callF_go hP (bGreat t) 2]
  unfold bGreat
  obtain ⟨v, o1, e1, v1, v2, B1⟩ := take_ok (W := W) (gv := gv) (k := k) (many := 9) hT hr hB (by omega) (by omega) (by decide +kernel)
  have e2 := rng_i (j := (ch : Int)) (h := h.set r o1) (by omega) (by omega)
  obtain ⟨n3, o3, kv3, e3, v3, v4, B3⟩ := great_loop (P := P) (W := W) (gv := gv) (k := k) (ch := .int ch) hT ch 0 (1 + v) none (h.set r o1) o1 (n + 1) 4 (set_get hr) B1 (by omega) (by omega) (by omega) (by omega)
  rw [Int.toNat_natCast] at e2
  walk_at "mph"
  rw [List.set_set]
  refine ⟨n3, o3, ?_, v3, v4, by rw [show n + ch + 1 = n + 1 + ch by omega]; exact B3⟩
  rw [show h.length = (h.set r o3).length by simp]
  exact finish_i rfl
end MP
/-! Fractions in lowest terms, squares: plain Lean. -/
namespace MP
/-- in lowest terms -/
def Fr (t b : Int) : Prop := 0 < b ∧ Int.gcd t b = 1
def lowM (a b : Int) : Int := if b < 0 then -(Int.gcd a b : Int) else (Int.gcd a b : Int)
theorem gcd_pos {a b : Int} (hb : b ≠ 0) : 0 < Int.gcd a b := by
  rcases Nat.eq_zero_or_pos (Int.gcd a b) with h | h
  · exact absurd (Int.gcd_eq_zero_iff.mp h).2 hb
  · exact h
theorem lowM_ne {a b : Int} (hb : b ≠ 0) : lowM a b ≠ 0 := by
  have := gcd_pos (a := a) hb
  unfold lowM
  split <;> omega
theorem lowM_l (a b : Int) : lowM a b ∣ a := by
  unfold lowM
  split
  · exact Int.neg_dvd.mpr (Int.gcd_dvd_left ..)
  · exact Int.gcd_dvd_left ..
theorem lowM_r (a b : Int) : lowM a b ∣ b := by
  unfold lowM
  split
  · exact Int.neg_dvd.mpr (Int.gcd_dvd_right ..)
  · exact Int.gcd_dvd_right ..
theorem lowM_abs (a b : Int) : (lowM a b).natAbs = Int.gcd a b := by
  unfold lowM
  split <;> omega
theorem low_spec {a b : Int} (hb : b ≠ 0) : Fr (a / lowM a b) (b / lowM a b) ∧ (a / lowM a b) * b = a * (b / lowM a b) := by
  have hm := lowM_ne (a := a) hb
  have hp := gcd_pos (a := a) hb
  obtain ⟨p, ep⟩ := lowM_l a b
  obtain ⟨q, eq⟩ := lowM_r a b
  have ea := lowM_abs a b
  have es : (b < 0 → lowM a b < 0) ∧ (¬ b < 0 → 0 < lowM a b) := by
    unfold lowM
    constructor
    · intro h
      rw [if_pos h]
      omega
    · intro h
      rw [if_neg h]
      omega
  generalize hmm : lowM a b = m at *
  have e1 : a / m = p := by rw [ep]; exact Int.mul_ediv_cancel_left p hm
  have e2 : b / m = q := by rw [eq]; exact Int.mul_ediv_cancel_left q hm
  rw [e1, e2]
  have hq : 0 < q := by
    by_cases h : b < 0
    · have h2 := es.1 h
      rcases Int.lt_trichotomy q 0 with z | z | z
      · have : 0 < m * q := Int.mul_pos_of_neg_of_neg h2 z
        omega
      · subst z
        simp at eq
        omega
      · exact z
    · have h2 := es.2 h
      rcases Int.lt_trichotomy q 0 with z | z | z
      · have : m * q < 0 := Int.mul_neg_of_pos_of_neg h2 z
        omega
      · subst z
        simp at eq
        omega
      · exact z
  refine ⟨⟨hq, ?_⟩, ?_⟩
  · have z : Int.gcd a b = m.natAbs * Int.gcd p q := by
      rw [← Int.gcd_mul_left, ← ep, ← eq]
    rw [ea] at z
    have z2 : Int.gcd a b * 1 = Int.gcd a b * Int.gcd p q := by rw [Nat.mul_one]; exact z
    exact (Nat.eq_of_mul_eq_mul_left hp z2).symm
  · grind
theorem low_abs {a m : Int} (hm : m ≠ 0) (hd : m ∣ a) : (a / m).natAbs ≤ a.natAbs := by
  obtain ⟨p, rfl⟩ := hd
  rw [Int.mul_ediv_cancel_left p hm, Int.natAbs_mul]
  have : 0 < m.natAbs := Int.natAbs_pos.mpr hm
  exact Nat.le_mul_of_pos_left _ this
theorem dvd_cop {a b c : Int} (h : Int.gcd a b = 1) (hd : b ∣ a * c) : b ∣ c := by
  have h2 : Nat.Coprime b.natAbs a.natAbs := by
    rw [Nat.coprime_comm]
    exact h
  have h3 : b.natAbs ∣ a.natAbs * c.natAbs := by
    rw [← Int.natAbs_mul]
    exact Int.natAbs_dvd_natAbs.mpr hd
  exact Int.natAbs_dvd_natAbs.mp (h2.dvd_of_dvd_mul_left h3)
theorem fr_eq {t b t' b' : Int} (h : Fr t b) (h' : Fr t' b') (e : t * b' = t' * b) : t = t' ∧ b = b' := by
  have d1 : b ∣ b' := dvd_cop h.2 ⟨t', by rw [e, Int.mul_comm]⟩
  have d2 : b' ∣ b := dvd_cop h'.2 ⟨t, by rw [← e, Int.mul_comm]⟩
  have eb : b = b' := by
    have h1 := Int.le_of_dvd h'.1 d1
    have h2 := Int.le_of_dvd h.1 d2
    omega
  subst eb
  exact ⟨Int.eq_of_mul_eq_mul_right (by have := h.1; omega) e, rfl⟩
theorem low_of {a b t u : Int} (hb : b ≠ 0) (h : Fr t u) (e : t * b = a * u) : a / lowM a b = t ∧ b / lowM a b = u := by
  obtain ⟨h1, h2⟩ := low_spec (a := a) hb
  refine fr_eq h1 h ?_
  generalize a / lowM a b = p at *
  generalize b / lowM a b = q at *
  have z : (p * u - t * q) * b = 0 := by grind
  rcases Int.mul_eq_zero.mp z with z | z
  · omega
  · exact absurd z hb
/-- squares in lowest terms -/
theorem fr_sq {t b : Int} (h : Fr t b) : Fr (t * t) (b * b) := by
  refine ⟨Int.mul_pos h.1 h.1, ?_⟩
  have h2 : Nat.Coprime t.natAbs b.natAbs := h.2
  have h3 : Nat.Coprime (t.natAbs * t.natAbs) (b.natAbs * b.natAbs) := (h2.mul_left h2).mul_right (h2.mul_left h2)
  show Nat.gcd (t * t).natAbs (b * b).natAbs = 1
  rw [Int.natAbs_mul, Int.natAbs_mul]
  exact h3
theorem isq_sq (n : Nat) : isq (n * n) = n := isq_eq (Nat.le_refl _) (by
  have : (n + 1) * (n + 1) = n * n + 2 * n + 1 := by grind
  omega)
/-- between two squares there is none -/
theorem no_sq {N a y z : Nat} (hy : 0 < y) (h1 : a * a < N) (h2 : N < (a + 1) * (a + 1)) (e : N * (y * y) = z * z) : False := by
  have hd : y ^ 2 ∣ z ^ 2 := ⟨N, by rw [Nat.pow_two, Nat.pow_two, ← e, Nat.mul_comm]⟩
  obtain ⟨w, rfl⟩ := (Nat.pow_dvd_pow_iff (by decide)).mp hd
  have e2 : N * (y * y) = (w * w) * (y * y) := by rw [e]; grind
  have e3 : N = w * w := Nat.eq_of_mul_eq_mul_right (Nat.mul_pos hy hy) e2
  subst e3
  have l1 : w ≤ a := le_of_sq h2
  have l2 := sq_le l1
  omega
end MP
/-! What repr shows: bounds of its length. -/
namespace MP
open PySem
mutual
def sl : PyData → Nat
  | .none => 4
  | .bool _ => 5
  | .int i => bits i + 2
  | .str x => 10 * x.length + 2
  | .list xs => slL xs + 5
  | .tuple xs => slL xs + 5
  | .dict _ => 2
def slL : List PyData → Nat
  | [] => 0
  | x :: xs => sl x + 2 + slL xs
end
mutual
/-- texts of signs that are few, dicts without anything -/
def plainD : PyData → Bool
  | .str x => x.cps.toList.all fun c => decide (c < 16 ^ 8)
  | .list xs => plainDL xs
  | .tuple xs => plainDL xs
  | .dict kvs => kvs.isEmpty
  | _ => true
def plainDL : List PyData → Bool
  | [] => true
  | x :: xs => plainD x && plainDL xs
end
theorem ofStr_len (s : String) : (Str.ofString s).length = s.length := ofString_length s
theorem int_len (i : Int) : (Str.ofString (toString i)).length ≤ bits i + 2 := by
  rw [ofStr_len]
  have h := lt_bits i
  cases i with
  | ofNat n =>
    show (Nat.repr n).length ≤ _
    have h : n < 2 ^ bits (Int.ofNat n) := h
    exact Nat.le_trans (PySem.nat_repr_length_le (k := bits (Int.ofNat n) + 1) (by omega) (Nat.lt_of_lt_of_le h (two_le (Nat.le_succ _)))) (by omega)
  | negSucc n =>
    show ("-" ++ Nat.repr (n + 1)).length ≤ _
    have h : n + 1 < 2 ^ bits (Int.negSucc n) := h
    rw [String.length_append]
    have := PySem.nat_repr_length_le (k := bits (Int.negSucc n) + 1) (by omega) (Nat.lt_of_lt_of_le h (two_le (Nat.le_succ _)))
    have e : "-".length = 1 := rfl
    omega
theorem from_len : ∀ (ts : List Str) (k : Nat) (acc : Str), (textFrom k acc ts).length ≤ acc.length + (ts.map fun t => t.length + 2).sum
  | [], k, acc => by simp [textFrom]
  | t :: ts, k, acc => by
    have ih := from_len ts (k + 1) (acc ++ (if k > 0 then ", " else "" : String) ++ t)
    have e : (acc ++ (if k > 0 then ", " else "" : String) ++ t).length ≤ acc.length + 2 + t.length := by
      rw [strLen_append, strLen_append]
      split
      · have : (Str.ofString ", ").length = 2 := rfl
        omega
      · have : (Str.ofString "").length = 0 := rfl
        omega
    show (textFrom (k + 1) (acc ++ (if k > 0 then ", " else "" : String) ++ t) ts).length ≤ _
    rw [List.map_cons, List.sum_cons]
    omega
theorem join_len : ∀ ts : List Str, (Str.join ", " ts).length ≤ (ts.map fun t => t.length + 2).sum
  | [] => by show 0 ≤ _; exact Nat.zero_le _
  | [t] => by show t.length ≤ _; simp
  | t :: u :: r => by
    have ih := join_len (u :: r)
    show (t ++ ", " ++ Str.join ", " (u :: r)).length ≤ _
    rw [strLen_append, strLen_append, List.map_cons, List.sum_cons]
    have e2 : ((", " : String) : Str).length = 2 := rfl
    omega
mutual
theorem shown_len : ∀ d : PyData, plainD d = true → d.shown.length ≤ sl d
  | .none, _ => by decide
  | .bool b, _ => by cases b <;> decide
  | .int i, _ => int_len i
  | .str x, h => PySem.StrLaws.reprText_len x fun c hc => by
      have h : (x.cps.toList.all fun c => decide (c < 16 ^ 8)) = true := h
      exact of_decide_eq_true (List.all_eq_true.mp h c hc)
  | .list xs, h => by
    have ih := shown_lenL xs h
    show (textFrom 0 "[" (PyData.shownAll xs) ++ "]").length ≤ slL xs + 5
    rw [strLen_append]
    have a := from_len (PyData.shownAll xs) 0 "["
    have e1 : (("[" : String) : Str).length = 1 := rfl
    have e2 : (("]" : String) : Str).length = 1 := rfl
    omega
  | .tuple xs, h => by
    have ih := shown_lenL xs h
    show (("(" : Str) ++ Str.join ", " (PyData.shownAll xs) ++ (if (PyData.shownAll xs).length == 1 then ",)" else ")" : String)).length ≤ slL xs + 5
    rw [strLen_append, strLen_append]
    have a := join_len (PyData.shownAll xs)
    have e1 : (("(" : String) : Str).length = 1 := rfl
    have e2 : ((if (PyData.shownAll xs).length == 1 then ",)" else ")" : String) : Str).length ≤ 2 := by
      split
      · have : ((",)" : String) : Str).length = 2 := rfl
        omega
      · have : ((")" : String) : Str).length = 1 := rfl
        omega
    omega
  | .dict kvs, h => by
    have h : kvs.isEmpty = true := h
    cases kvs with
    | nil => show (("{" : Str) ++ Str.join ", " [] ++ "}").length ≤ 2; decide
    | cons _ _ => cases h
theorem shown_lenL : ∀ xs : List PyData, plainDL xs = true → ((PyData.shownAll xs).map fun t => t.length + 2).sum ≤ slL xs
  | [], _ => Nat.zero_le _
  | x :: xs, h => by
    have h : (plainD x && plainDL xs) = true := h
    rw [Bool.and_eq_true] at h
    have a := shown_len x h.1
    have b := shown_lenL xs h.2
    show ((x.shown :: PyData.shownAll xs).map fun t => t.length + 2).sum ≤ sl x + 2 + slL xs
    rw [List.map_cons, List.sum_cons]
    omega
end
theorem shownO_of {h : Heap} {v : Val} {d : PyData} (e : dataW h v = some d) (h1 : d.showable = true) (h2 : d.depth ≤ 20) (h3 : plainD d = true) (h4 : sl d ≤ 1000000) (h5 : d.hasDict = false ∨ noLst d = true) : shownO h v = some d.shown := by
  unfold shownO
  rw [e]
  exact if_pos ⟨h1, h2, Nat.le_trans (shown_len d h3) h4, h5⟩
theorem log_bits {i : Int} {n : Nat} (h : bits i ≤ n) (hn : n ≤ 1920) : i.natAbs.log2 < 1920 := by
  by_cases z : i.natAbs = 0
  · rw [z]
    decide
  · exact (Nat.log2_lt z).mpr (Nat.lt_of_lt_of_le (lt_bits i) (two_le (Nat.le_trans h hn)))
end MP
namespace MP
open PySem
local macro_rules | `(tactic| walk_at "mp") => `(tactic| try simp only [e_var, e_con, e_bt, e_glo, e_d0, e_d1, e_tup, e_lst, e_bin, e_neg, e_cmp, e_chn, e_sl, e_lc, e_and, e_or, e_not, e_ife, e_cal, e_bi, e_bm, e_ix, es_nl, es_cs, o_nl, o_cs, t_nl, t_and, t_or, t_not, t_cmp, t_chn, t_tst, i_seq, i_rng, r_unl, asL_r, asL_l, e_cl, e_new, e_fld, e_mth, e_xf, e_xi, e_xt, i_zip, i_enu, r_brk, r_setf, r_rais, r_tri, cf_call, cf_call1, cf_W, cf_t, cf_lv, cx_t, tri_nx, tri_rt, tri_bk, tri_exc, slot_s, slot_n, unx_s, unx_n, unx_r, xf_x, xfO_n, xi_x, xiO_n, xt_x, xtO_n, rais_0, rais_1, new_v, newO_i, setf_r, bi_any, bi_all, bi_tup, bi_lst, bi_repr, bi_str, zip_t, zip_l, rv_ins, rv_cls, rv_dct, isLst_l, r_nop, r_seq, r_asg, r_asgc, r_par, r_setix, r_ret, r_exp, r_ite, r_whl, r_for, r_scope, st_nm, st_tup, st_nl, st_cs, st_2, bin_ii, bin_add, bin_sub, bin_ss, bin_tt, cmp_ii, cmp_eq, cmp_ne, cmp_lt, cmp_le, cmp_gt, cmp_ge, cmp_ss, cs_eq, cs_ne, cs_lt, cs_gt, cs_in, cs_nin, seq_lst, seq_rol, seq_tup, bi_abs, bi_max, bi_min, bi_int_i, bi_int_b, bi_len_l, bi_len_r, bi_len_t, bi_len_h, bi_isi, ty_non, ty_bl, ty_int, ty_str, ty_tup, ty_lst, ty_rol, ty_dct, bm_bits, bt_bits, bt_rev, bt_app, bt_join, bm_join, kit_int_int, kit_int_bool, kit_int_str, kit_int_list, kit_int_tuple, kit_int_dict, kit_bool_int, kit_bool_bool, kit_bool_str, kit_bool_list, kit_bool_tuple, kit_bool_dict, kit_str_int, kit_str_bool, kit_str_str, kit_str_list, kit_str_tuple, kit_str_dict, kit_none_int, kit_none_bool, kit_none_str, kit_none_list, kit_none_tuple, kit_none_dict, kit_list_int, kit_list_bool, kit_list_str, kit_list_list, kit_list_tuple, kit_list_dict, kit_tuple_int, kit_tuple_bool, kit_tuple_str, kit_tuple_list, kit_tuple_tuple, kit_tuple_dict, kit_dict_int, kit_dict_bool, kit_dict_str, kit_dict_list, kit_dict_tuple, kit_dict_dict, seqI_l, seqI_r, seqI_t, seqI_s, varR_ok, andR_t, andR_f, orR_t, orR_f, notR_b, negR_i, partR_i, tru_b, tru_i, tru_n, ixR_l, ixR_r, ixR_t, ixR_h, at0, at1, at2, at3, at4, at5, at6, at7, at8, at9, at10, at11, at12, at13, bind_ok, bind_exc, bind_bad, noX_ok, noX_bad, opt_some, opt_none, out_ok, out_exc, out_bad, oopt_some, oopt_none, thn_nx, thn_rt, thn_bk, thn_ct, thn_exc, thn_bad, turn_nx, turn_ct, turn_bk, turn_rt, turn_exc, turn_bad, trim_nx, trim_bk, trim_ct, trim_rt, trim_exc, trim_bad, end_nx, end_rt, end_exc, objL_s, seq_refO, setix_ref, setL_0, setL_1, setL_2, bm_rev, Option.map_some, List.reverse_cons, List.reverse_nil, fl_nil, fl_cons, tupR_v, lstR_v, lstR_h, rl_nil, rl_cons, rv_int, rv_bl, rv_non, rv_str, rv_tup, rv_lst, Bool.and_self, Bool.and_true, Bool.true_and, List.length_cons, List.length_nil, Nat.zero_add, Nat.reduceAdd, Nat.reduceLeDiff, p10_6, p10_9, p10_10, p10_12, p10_18, p10_27, p10_30, List.getElem?_cons_zero, List.getElem?_cons_succ, List.set_cons_zero, List.set_cons_succ, List.map_cons, List.map_nil, List.cons_append, List.nil_append, List.append_nil, List.replicate, Nat.sub_self, Nat.reduceSub, Option.bind_some, decide_true, decide_false, Bool.not_true, Bool.not_false, if_true, if_false, Bool.false_eq_true, ↓reduceIte, reduceCtorEq])
local macro_rules | `(tactic| walk_at "mph") => `(tactic| try simp only [*, bin_mod, bin_mul, ne_eq, Int.reduceEq, not_false_eq_true, e_var, e_con, e_bt, e_glo, e_d0, e_d1, e_tup, e_lst, e_bin, e_neg, e_cmp, e_chn, e_sl, e_lc, e_and, e_or, e_not, e_ife, e_cal, e_bi, e_bm, e_ix, es_nl, es_cs, o_nl, o_cs, t_nl, t_and, t_or, t_not, t_cmp, t_chn, t_tst, i_seq, i_rng, r_unl, asL_r, asL_l, e_cl, e_new, e_fld, e_mth, e_xf, e_xi, e_xt, i_zip, i_enu, r_brk, r_setf, r_rais, r_tri, cf_call, cf_call1, cf_W, cf_t, cf_lv, cx_t, tri_nx, tri_rt, tri_bk, tri_exc, slot_s, slot_n, unx_s, unx_n, unx_r, xf_x, xfO_n, xi_x, xiO_n, xt_x, xtO_n, rais_0, rais_1, new_v, newO_i, setf_r, bi_any, bi_all, bi_tup, bi_lst, bi_repr, bi_str, zip_t, zip_l, rv_ins, rv_cls, rv_dct, isLst_l, r_nop, r_seq, r_asg, r_asgc, r_par, r_setix, r_ret, r_exp, r_ite, r_whl, r_for, r_scope, st_nm, st_tup, st_nl, st_cs, st_2, bin_ii, bin_add, bin_sub, bin_ss, bin_tt, cmp_ii, cmp_eq, cmp_ne, cmp_lt, cmp_le, cmp_gt, cmp_ge, cmp_ss, cs_eq, cs_ne, cs_lt, cs_gt, cs_in, cs_nin, seq_lst, seq_rol, seq_tup, bi_abs, bi_max, bi_min, bi_int_i, bi_int_b, bi_len_l, bi_len_r, bi_len_t, bi_len_h, bi_isi, ty_non, ty_bl, ty_int, ty_str, ty_tup, ty_lst, ty_rol, ty_dct, bm_bits, bt_bits, bt_rev, bt_app, bt_join, bm_join, kit_int_int, kit_int_bool, kit_int_str, kit_int_list, kit_int_tuple, kit_int_dict, kit_bool_int, kit_bool_bool, kit_bool_str, kit_bool_list, kit_bool_tuple, kit_bool_dict, kit_str_int, kit_str_bool, kit_str_str, kit_str_list, kit_str_tuple, kit_str_dict, kit_none_int, kit_none_bool, kit_none_str, kit_none_list, kit_none_tuple, kit_none_dict, kit_list_int, kit_list_bool, kit_list_str, kit_list_list, kit_list_tuple, kit_list_dict, kit_tuple_int, kit_tuple_bool, kit_tuple_str, kit_tuple_list, kit_tuple_tuple, kit_tuple_dict, kit_dict_int, kit_dict_bool, kit_dict_str, kit_dict_list, kit_dict_tuple, kit_dict_dict, seqI_l, seqI_r, seqI_t, seqI_s, varR_ok, andR_t, andR_f, orR_t, orR_f, notR_b, negR_i, partR_i, tru_b, tru_i, tru_n, ixR_l, ixR_r, ixR_t, ixR_h, at0, at1, at2, at3, at4, at5, at6, at7, at8, at9, at10, at11, at12, at13, bind_ok, bind_exc, bind_bad, noX_ok, noX_bad, opt_some, opt_none, out_ok, out_exc, out_bad, oopt_some, oopt_none, thn_nx, thn_rt, thn_bk, thn_ct, thn_exc, thn_bad, turn_nx, turn_ct, turn_bk, turn_rt, turn_exc, turn_bad, trim_nx, trim_bk, trim_ct, trim_rt, trim_exc, trim_bad, end_nx, end_rt, end_exc, objL_s, seq_refO, setix_ref, setL_0, setL_1, setL_2, bm_rev, Option.map_some, List.reverse_cons, List.reverse_nil, fl_nil, fl_cons, tupR_v, lstR_v, lstR_h, rl_nil, rl_cons, rv_int, rv_bl, rv_non, rv_str, rv_tup, rv_lst, Bool.and_self, Bool.and_true, Bool.true_and, List.length_cons, List.length_nil, Nat.zero_add, Nat.reduceAdd, Nat.reduceLeDiff, p10_6, p10_9, p10_10, p10_12, p10_18, p10_27, p10_30, List.getElem?_cons_zero, List.getElem?_cons_succ, List.set_cons_zero, List.set_cons_succ, List.map_cons, List.map_nil, List.cons_append, List.nil_append, List.append_nil, List.replicate, Nat.sub_self, Nat.reduceSub, Option.bind_some, decide_true, decide_false, Bool.not_true, Bool.not_false, if_true, if_false, Bool.false_eq_true, ↓reduceIte, reduceCtorEq])
/-! ### comprehensions whose parts leave the heap alone -/
theorem app_end {h : Heap} {acc : List Val} {v : Val} (p : pure0 v = true) (l : acc.length < 100000) : appO (h ++ [.lst acc]) h.length v = some (h ++ [.lst (acc ++ [v])]) := by
  rw [app_obj (xs := acc) (by simp) p l]
  simp
theorem comp_pure {tst : Loc → Heap → Res Bool} {el : Loc → Heap → Res Val} {t : T} {l0 : Loc} {h : Heap} (p : Val → Bool) (f : Val → Val) : ∀ (xs acc : List Val),
    (∀ x ∈ xs, ∃ l1, store t x l0 = some l1 ∧ (∀ acc, tst l1 (h ++ [.lst acc]) = .ok (p x) (h ++ [.lst acc])) ∧ (p x = true → (∀ acc, el l1 (h ++ [.lst acc]) = .ok (f x) (h ++ [.lst acc])) ∧ pure0 (f x) = true)) →
    acc.length + xs.length ≤ 100000 → compL tst el t l0 h.length xs (h ++ [.lst acc]) = .ok () (h ++ [.lst (acc ++ (xs.filter p).map f)])
  | [], acc, _, _ => by simp [compL]
  | x :: xs, acc, hx, hl => by
    obtain ⟨l1, e1, e2, e3⟩ := hx x (by simp)
    unfold compL
    rw [e1, opt_some, e2, noX_ok, bind_ok]
    rw [List.length_cons] at hl
    cases q : p x with
    | false =>
      rw [if_neg Bool.false_ne_true, comp_pure p f xs acc (fun y hy => hx y (List.mem_cons_of_mem _ hy)) (by omega), List.filter_cons, q, if_neg Bool.false_ne_true]
    | true =>
      obtain ⟨e4, e5⟩ := e3 q
      rw [if_pos rfl, e4, noX_ok, bind_ok, app_end e5 (by omega), opt_some, comp_pure p f xs (acc ++ [f x]) (fun y hy => hx y (List.mem_cons_of_mem _ hy)) (by rw [List.length_append, List.length_singleton]; omega), List.filter_cons, q, if_pos rfl, List.map_cons]
      simp
theorem compF_v {h : Heap} {ys : List Val} : compF false h.length (h ++ [.lst ys]) = .ok (.lst ys) h := by
  unfold compF
  rw [if_neg Bool.false_ne_true]
  simp
theorem compF_h {h : Heap} {ys : List Val} : compF true h.length (h ++ [.lst ys]) = .ok (.ref h.length) (h ++ [.lst ys]) := rfl
theorem comp_map {c : Cf} {el : Loc → Heap → Res Val} {t : T} {l0 : Loc} {h : Heap} (f : Val → Val) (xs acc : List Val)
    (hx : ∀ x ∈ xs, ∃ l1, store t x l0 = some l1 ∧ (∀ acc, el l1 (h ++ [.lst acc]) = .ok (f x) (h ++ [.lst acc])) ∧ pure0 (f x) = true)
    (hl : acc.length + xs.length ≤ 100000) : compL (evalT c .nl) el t l0 h.length xs (h ++ [.lst acc]) = .ok () (h ++ [.lst (acc ++ xs.map f)]) := by
  have e := comp_pure (tst := evalT c .nl) (el := el) (t := t) (l0 := l0) (h := h) (fun _ => true) f xs acc (fun x m => by
    obtain ⟨l1, a, b, d⟩ := hx x m
    exact ⟨l1, a, fun _ => t_nl .., fun _ => ⟨b, d⟩⟩) hl
  rw [List.filter_eq_self.mpr (fun _ _ => rfl)] at e
  exact e
/-! ### the other draws: cells, a purse, what is taken of it -/
def bCell2 : S := (.seq (.ite (.cmp .Lt (.var 1) (.bi .len (.cs (.var 0) .nl))) (.seq (.ret (.ix (.var 0) (.var 1))) .nop) .nop) (.seq (.ret (.bin .Add (.bin .Mult (.con (.int 104729)) (.var 1)) (.con (.int 71)))) .nop))
def fCell2 : Fn := ⟨2, 2, true, bCell2⟩
theorem cell2_ok {P : List Fn} {gv : Tb} {i W k j : Nat} {ns : List Int} {h : Heap} (hP : P[i]? = some fCell2) (hj : j < 1000) : ∃ v, callF P W gv (k + 1) i [.rol (ns.map .int), .int j] h = .ok (.int v) h := by
  rw [callF_go hP bCell2 0]
  unfold bCell2
  walk_at "mp"
  by_cases hc : j < ns.length
  · have hd : (j : Int) < (((ns.map Val.int).length : Nat) : Int) := by rw [List.length_map]; omega
    simp only [hd, decide_true, if_true]
    have ha : L2.atI (ns.map Val.int) (j : Int) = some (.int ns[j]) := L2.atI_nat (by rw [List.getElem?_map, List.getElem?_eq_getElem hc]; rfl)
    rw [ha]
    walk_at "mp"
    exact ⟨_, finish_i rfl⟩
  · have hd : ¬ ((j : Int) < (((ns.map Val.int).length : Nat) : Int)) := by rw [List.length_map]; omega
    simp only [hd, decide_false, if_false, Bool.false_eq_true]
    walk_at "mp"
    have b1 : bits 104729 ≤ 17 := bits_le (by decide)
    have b2 : bits (j : Int) ≤ 10 := bits_nat (by omega)
    rw [bin_mul (by omega)]
    walk_at "mp"
    exact ⟨_, finish_i rfl⟩
def bTake2 : S := (.seq (.setix (.var 0) (.con (.int 2)) (.bin .Add (.ix (.var 0) (.con (.int 2))) (.con (.int 1)))) (.seq (.ite (.cmp .Gt (.ix (.var 0) (.con (.int 0))) (.con (.int 0))) (.seq (.asg (.nm 3) (.bin .Mod (.ix (.var 0) (.con (.int 0))) (.var 1))) (.seq (.setix (.var 0) (.con (.int 0)) (.bin .FloorDiv (.ix (.var 0) (.con (.int 0))) (.var 1))) (.seq (.ret (.var 3)) .nop))) .nop) (.seq (.asg (.nm 2) (.bin .Mod (.bin .Pow (.bin .Add (.ix (.var 0) (.con (.int 1))) (.bin .Mult (.con (.int 7919)) (.ix (.var 0) (.con (.int 2))))) (.con (.int 5))) (.con (.int 2147483647)))) (.seq (.asg (.nm 2) (.bin .Mod (.bin .Pow (.bin .Add (.var 2) (.bin .Mult (.bin .Mult (.con (.int 104729)) (.ix (.var 0) (.con (.int 2)))) (.ix (.var 0) (.con (.int 2))))) (.con (.int 3))) (.con (.int 2147483587)))) (.seq (.ret (.bin .Mod (.bin .FloorDiv (.var 2) (.con (.int 8))) (.var 1))) .nop)))))
def fTake2 : Fn := ⟨4, 2, true, bTake2⟩
theorem take2_ok {P : List Fn} {gv : Tb} {i W k r n : Nat} {many : Int} {h : Heap} {o : Obj} (hP : P[i]? = some fTake2) (hr : h[r]? = some o) (hB : IsBox o n) (hn : n ≤ 1000000000) (hm : 1 ≤ many) (hmb : bits many ≤ 9000) :
    ∃ v o', callF P W gv (k + 1) i [.ref r, .int many] h = .ok (.int v) (h.set r o') ∧ 0 ≤ v ∧ v < many ∧ IsBox o' (n + 1) := by
  obtain ⟨a, b, c, rfl, ha, hb, hb2, hc, hc2⟩ := hB
  rw [callF_go hP bTake2 2]
  unfold bTake2
  have sg := fun o' => set_get (o' := o') hr
  have sg2 := fun o1 o' => set_get (o' := o') (set_get (o' := o1) hr)
  have ss := fun (o1 o2 : Obj) => List.set_set (a := o1) (b := o2) (l := h) (i := r)
  have fin : ∀ (v : Int) (h' : Heap), h'.length = h.length → finish fTake2 h.length (.int v) h' = .ok (.int v) h' := fun v h' e => by
    rw [← e]
    exact finish_i rfl
  have hm0 : ¬ many = 0 := by omega
  by_cases h0 : 0 < a
  · have g1 := bin_div hm0 (pylong_small (i := a) hmb)
    walk_at "mph"
    obtain ⟨h1, h2⟩ := fmod_rng a (show 0 < many by omega)
    exact ⟨_, _, fin _ _ (by simp), h1, h2, _, _, _, rfl, (fdiv_pos ha (by omega)).1, hb, hb2, by omega, by omega⟩
  · have b0 : bits 7919 ≤ 13 := bits_le (by decide)
    have b00 : bits 104729 ≤ 17 := bits_le (by decide)
    have b1 : bits (c + 1) ≤ 31 := bits_lt (by omega) (by omega)
    have g3 : bits 7919 + bits (c + 1) ≤ 134217728 := by omega
    have b2 : bits (b + 7919 * (c + 1)) ≤ 50 := bits_lt (by omega) (by omega)
    have g5 : bits 104729 + bits (c + 1) ≤ 134217728 := by omega
    have b6 : bits (104729 * (c + 1)) ≤ 50 := bits_lt (by omega) (by omega)
    have g6 : bits (104729 * (c + 1)) + bits (c + 1) ≤ 134217728 := by omega
    have g7 := bin_pow (i := b + 7919 * (c + 1)) (j := 5) (by decide) (by omega)
    walk_at "mph"
    generalize hx : Int.fmod ((b + 7919 * (c + 1)) ^ (5 : Int).toNat) 2147483647 = x
    have hx2 := fmod_rng ((b + 7919 * (c + 1)) ^ (5 : Int).toNat) (show (0 : Int) < 2147483647 by decide)
    rw [hx] at hx2
    have b4 : bits x ≤ 31 := bits_lt hx2.1 (by omega)
    have b7 : bits (104729 * (c + 1) * (c + 1)) ≤ 81 := Nat.le_trans (bits_mul _ _) (by omega)
    have b8 := bits_add x (104729 * (c + 1) * (c + 1))
    have b9 : bits (x + 104729 * (c + 1) * (c + 1)) ≤ 90 := Nat.le_trans b8 (by omega)
    rw [bin_pow (by decide) (by omega)]
    walk_at "mph"
    rw [bin_div (by decide) (pylong_small (by decide +kernel))]
    walk_at "mph"
    obtain ⟨h1, h2⟩ := fmod_rng ((((x + 104729 * (c + 1) * (c + 1)) ^ (3 : Int).toNat).fmod 2147483587).fdiv 8) (show 0 < many by omega)
    exact ⟨_, _, fin _ _ (by simp), h1, h2, _, _, _, rfl, ha, hb, hb2, by omega, by omega⟩
/-- a law's own root -/
def bLroot : S := (.seq (.asg (.nm 1) (.bin .LShift (.con (.int 1)) (.bin .Add (.bin .FloorDiv (.bm .bits (.var 0) .nl) (.con (.int 2))) (.con (.int 1))))) (.seq (.whl (.cmp .Gt (.bin .Mult (.var 1) (.var 1)) (.var 0)) (.seq (.asg (.nm 1) (.bin .FloorDiv (.bin .Add (.var 1) (.bin .FloorDiv (.var 0) (.var 1))) (.con (.int 2)))) .nop)) (.seq (.ret (.var 1)) .nop)))
def fLroot : Fn := ⟨2, 1, true, bLroot⟩
theorem lroot_loop (c : Cf) (h : Heap) (n : Nat) : ∀ (m x : Nat), x < m → x < 2 ^ 9000 → isq n ≤ x →
    whileN (evalT c (.cmp .Gt (.bin .Mult (.var 1) (.var 1)) (.var 0))) (run c (.seq (.asg (.nm 1) (.bin .FloorDiv (.bin .Add (.var 1) (.bin .FloorDiv (.var 0) (.var 1))) (.con (.int 2)))) .nop)) m
      [some (.int n), some (.int x)] h = .nx [some (.int n), some (.int (isq n))] h
  | 0, x, hm, _, _ => absurd hm (Nat.not_lt_zero x)
  | m + 1, x, hm, hb, hi => by
    rw [w_succ]
    have bx : bits (x : Int) ≤ 9000 := bits_nat hb
    walk_at "mp"
    rw [bin_mul (by omega)]
    walk_at "mp"
    by_cases hc : n < x * x
    · have hx : 0 < x := by
        rcases Nat.eq_zero_or_pos x with z | z
        · subst z; omega
        · exact z
      have hd : (n : Int) < (x : Int) * (x : Int) := by exact_mod_cast hc
      simp only [hd, decide_true, if_true]
      rw [bin_div (by omega) (pylong_small bx)]
      walk_at "mp"
      rw [bin_div (by omega) (pylong_small (by decide +kernel))]
      walk_at "mp"
      have e : Int.fdiv ((x : Int) + Int.fdiv (n : Int) (x : Int)) 2 = (((x + n / x) / 2 : Nat) : Int) := by
        rw [fdiv_nat, ← Int.natCast_add, show (2 : Int) = ((2 : Nat) : Int) from rfl, fdiv_nat]
      rw [e]
      have hq : n / x < x := Nat.div_lt_of_lt_mul hc
      exact lroot_loop c h n m ((x + n / x) / 2) (by omega) (by omega) (newton_ge hx)
    · have hd : ¬ ((n : Int) < (x : Int) * (x : Int)) := by
        intro z
        exact hc (by exact_mod_cast z)
      simp only [hd, decide_false, if_false, Bool.false_eq_true]
      have e2 : isq n = x := by
        have := lt_isq n
        have : x ≤ isq n := le_of_sq (by omega)
        omega
      rw [e2]
theorem lroot_ok {P : List Fn} {gv : Tb} {i W k n : Nat} {h : Heap} (hP : P[i]? = some fLroot) (hn : n < 2 ^ 16000) (hW : 2 ^ 9000 ≤ W) : callF P W gv (k + 1) i [.int n] h = .ok (.int (isq n)) h := by
  rw [callF_go hP bLroot 1]
  unfold bLroot
  walk_at "mp"
  have hb : bits (n : Int) ≤ 16000 := bits_nat hn
  generalize hbb : bits (n : Int) = b at *
  rw [bin_div (by omega) (pylong_small (by decide +kernel))]
  walk_at "mp"
  have e1 : Int.fdiv (b : Int) 2 + 1 = ((b / 2 + 1 : Nat) : Int) := by
    rw [show (2 : Int) = ((2 : Nat) : Int) from rfl, fdiv_nat]
    rfl
  rw [e1]
  have b1 : bits 1 = 1 := by decide +kernel
  rw [bin_shl (by omega) (by rw [b1]; omega)]
  walk_at "mp"
  have e2 : (1 : Int) * 2 ^ ((b / 2 + 1 : Nat) : Int).toNat = ((2 ^ (b / 2 + 1) : Nat) : Int) := by
    rw [Int.toNat_natCast, Int.one_mul]
    exact_mod_cast rfl
  rw [e2]
  have hlt : 2 ^ (b / 2 + 1) < 2 ^ 9000 := Nat.pow_lt_pow_right (by decide) (by omega)
  have hnb : n < 2 ^ b := by
    have := lt_bits (n : Int)
    rw [hbb, Int.natAbs_natCast] at this
    exact this
  have hiq : isq n ≤ 2 ^ (b / 2 + 1) := by
    refine Nat.le_of_lt (isq_le_pow (Nat.lt_of_lt_of_le hnb (two_le ?_)))
    omega
  generalize 2 ^ (b / 2 + 1) = x at *
  rw [lroot_loop (cfAt P W gv k) h n W x (by omega) hlt hiq]
  walk_at "mp"
  exact finish_i rfl

end MP
namespace MP
open PySem
local macro_rules | `(tactic| walk_at "mp") => `(tactic| try simp only [e_var, e_con, e_bt, e_glo, e_d0, e_d1, e_tup, e_lst, e_bin, e_neg, e_cmp, e_chn, e_sl, e_lc, e_and, e_or, e_not, e_ife, e_cal, e_bi, e_bm, e_ix, es_nl, es_cs, o_nl, o_cs, t_nl, t_and, t_or, t_not, t_cmp, t_chn, t_tst, i_seq, i_rng, r_unl, asL_r, asL_l, e_cl, e_new, e_fld, e_mth, e_xf, e_xi, e_xt, i_zip, i_enu, r_brk, r_setf, r_rais, r_tri, cf_call, cf_call1, cf_W, cf_t, cf_lv, cx_t, tri_nx, tri_rt, tri_bk, tri_exc, slot_s, slot_n, unx_s, unx_n, unx_r, xf_x, xfO_n, xi_x, xiO_n, xt_x, xtO_n, rais_0, rais_1, new_v, newO_i, setf_r, bi_any, bi_all, bi_tup, bi_lst, bi_repr, bi_str, zip_t, zip_l, rv_ins, rv_cls, rv_dct, isLst_l, r_nop, r_seq, r_asg, r_asgc, r_par, r_setix, r_ret, r_exp, r_ite, r_whl, r_for, r_scope, st_nm, st_tup, st_nl, st_cs, st_2, bin_ii, bin_add, bin_sub, bin_ss, bin_tt, cmp_ii, cmp_eq, cmp_ne, cmp_lt, cmp_le, cmp_gt, cmp_ge, cmp_ss, cs_eq, cs_ne, cs_lt, cs_gt, cs_in, cs_nin, seq_lst, seq_rol, seq_tup, bi_abs, bi_max, bi_min, bi_int_i, bi_int_b, bi_len_l, bi_len_r, bi_len_t, bi_len_h, bi_isi, ty_non, ty_bl, ty_int, ty_str, ty_tup, ty_lst, ty_rol, ty_dct, bm_bits, bt_bits, bt_rev, bt_app, bt_join, bm_join, kit_int_int, kit_int_bool, kit_int_str, kit_int_list, kit_int_tuple, kit_int_dict, kit_bool_int, kit_bool_bool, kit_bool_str, kit_bool_list, kit_bool_tuple, kit_bool_dict, kit_str_int, kit_str_bool, kit_str_str, kit_str_list, kit_str_tuple, kit_str_dict, kit_none_int, kit_none_bool, kit_none_str, kit_none_list, kit_none_tuple, kit_none_dict, kit_list_int, kit_list_bool, kit_list_str, kit_list_list, kit_list_tuple, kit_list_dict, kit_tuple_int, kit_tuple_bool, kit_tuple_str, kit_tuple_list, kit_tuple_tuple, kit_tuple_dict, kit_dict_int, kit_dict_bool, kit_dict_str, kit_dict_list, kit_dict_tuple, kit_dict_dict, seqI_l, seqI_r, seqI_t, seqI_s, varR_ok, andR_t, andR_f, orR_t, orR_f, notR_b, negR_i, partR_i, tru_b, tru_i, tru_n, ixR_l, ixR_r, ixR_t, ixR_h, at0, at1, at2, at3, at4, at5, at6, at7, at8, at9, at10, at11, at12, at13, bind_ok, bind_exc, bind_bad, noX_ok, noX_bad, opt_some, opt_none, out_ok, out_exc, out_bad, oopt_some, oopt_none, thn_nx, thn_rt, thn_bk, thn_ct, thn_exc, thn_bad, turn_nx, turn_ct, turn_bk, turn_rt, turn_exc, turn_bad, trim_nx, trim_bk, trim_ct, trim_rt, trim_exc, trim_bad, end_nx, end_rt, end_exc, objL_s, seq_refO, setix_ref, setL_0, setL_1, setL_2, bm_rev, Option.map_some, List.reverse_cons, List.reverse_nil, fl_nil, fl_cons, tupR_v, lstR_v, lstR_h, rl_nil, rl_cons, rv_int, rv_bl, rv_non, rv_str, rv_tup, rv_lst, Bool.and_self, Bool.and_true, Bool.true_and, List.length_cons, List.length_nil, Nat.zero_add, Nat.reduceAdd, Nat.reduceLeDiff, p10_6, p10_9, p10_10, p10_12, p10_18, p10_27, p10_30, List.getElem?_cons_zero, List.getElem?_cons_succ, List.set_cons_zero, List.set_cons_succ, List.map_cons, List.map_nil, List.cons_append, List.nil_append, List.append_nil, List.replicate, Nat.sub_self, Nat.reduceSub, Option.bind_some, decide_true, decide_false, Bool.not_true, Bool.not_false, if_true, if_false, Bool.false_eq_true, ↓reduceIte, reduceCtorEq])
local macro_rules | `(tactic| walk_at "mph") => `(tactic| try simp only [*, bin_mod, bin_mul, ne_eq, Int.reduceEq, not_false_eq_true, e_var, e_con, e_bt, e_glo, e_d0, e_d1, e_tup, e_lst, e_bin, e_neg, e_cmp, e_chn, e_sl, e_lc, e_and, e_or, e_not, e_ife, e_cal, e_bi, e_bm, e_ix, es_nl, es_cs, o_nl, o_cs, t_nl, t_and, t_or, t_not, t_cmp, t_chn, t_tst, i_seq, i_rng, r_unl, asL_r, asL_l, e_cl, e_new, e_fld, e_mth, e_xf, e_xi, e_xt, i_zip, i_enu, r_brk, r_setf, r_rais, r_tri, cf_call, cf_call1, cf_W, cf_t, cf_lv, cx_t, tri_nx, tri_rt, tri_bk, tri_exc, slot_s, slot_n, unx_s, unx_n, unx_r, xf_x, xfO_n, xi_x, xiO_n, xt_x, xtO_n, rais_0, rais_1, new_v, newO_i, setf_r, bi_any, bi_all, bi_tup, bi_lst, bi_repr, bi_str, zip_t, zip_l, rv_ins, rv_cls, rv_dct, isLst_l, r_nop, r_seq, r_asg, r_asgc, r_par, r_setix, r_ret, r_exp, r_ite, r_whl, r_for, r_scope, st_nm, st_tup, st_nl, st_cs, st_2, bin_ii, bin_add, bin_sub, bin_ss, bin_tt, cmp_ii, cmp_eq, cmp_ne, cmp_lt, cmp_le, cmp_gt, cmp_ge, cmp_ss, cs_eq, cs_ne, cs_lt, cs_gt, cs_in, cs_nin, seq_lst, seq_rol, seq_tup, bi_abs, bi_max, bi_min, bi_int_i, bi_int_b, bi_len_l, bi_len_r, bi_len_t, bi_len_h, bi_isi, ty_non, ty_bl, ty_int, ty_str, ty_tup, ty_lst, ty_rol, ty_dct, bm_bits, bt_bits, bt_rev, bt_app, bt_join, bm_join, kit_int_int, kit_int_bool, kit_int_str, kit_int_list, kit_int_tuple, kit_int_dict, kit_bool_int, kit_bool_bool, kit_bool_str, kit_bool_list, kit_bool_tuple, kit_bool_dict, kit_str_int, kit_str_bool, kit_str_str, kit_str_list, kit_str_tuple, kit_str_dict, kit_none_int, kit_none_bool, kit_none_str, kit_none_list, kit_none_tuple, kit_none_dict, kit_list_int, kit_list_bool, kit_list_str, kit_list_list, kit_list_tuple, kit_list_dict, kit_tuple_int, kit_tuple_bool, kit_tuple_str, kit_tuple_list, kit_tuple_tuple, kit_tuple_dict, kit_dict_int, kit_dict_bool, kit_dict_str, kit_dict_list, kit_dict_tuple, kit_dict_dict, seqI_l, seqI_r, seqI_t, seqI_s, varR_ok, andR_t, andR_f, orR_t, orR_f, notR_b, negR_i, partR_i, tru_b, tru_i, tru_n, ixR_l, ixR_r, ixR_t, ixR_h, at0, at1, at2, at3, at4, at5, at6, at7, at8, at9, at10, at11, at12, at13, bind_ok, bind_exc, bind_bad, noX_ok, noX_bad, opt_some, opt_none, out_ok, out_exc, out_bad, oopt_some, oopt_none, thn_nx, thn_rt, thn_bk, thn_ct, thn_exc, thn_bad, turn_nx, turn_ct, turn_bk, turn_rt, turn_exc, turn_bad, trim_nx, trim_bk, trim_ct, trim_rt, trim_exc, trim_bad, end_nx, end_rt, end_exc, objL_s, seq_refO, setix_ref, setL_0, setL_1, setL_2, bm_rev, Option.map_some, List.reverse_cons, List.reverse_nil, fl_nil, fl_cons, tupR_v, lstR_v, lstR_h, rl_nil, rl_cons, rv_int, rv_bl, rv_non, rv_str, rv_tup, rv_lst, Bool.and_self, Bool.and_true, Bool.true_and, List.length_cons, List.length_nil, Nat.zero_add, Nat.reduceAdd, Nat.reduceLeDiff, p10_6, p10_9, p10_10, p10_12, p10_18, p10_27, p10_30, List.getElem?_cons_zero, List.getElem?_cons_succ, List.set_cons_zero, List.set_cons_succ, List.map_cons, List.map_nil, List.cons_append, List.nil_append, List.append_nil, List.replicate, Nat.sub_self, Nat.reduceSub, Option.bind_some, decide_true, decide_false, Bool.not_true, Bool.not_false, if_true, if_false, Bool.false_eq_true, ↓reduceIte, reduceCtorEq])
local macro_rules | `(tactic| walk_at "mpi") => `(tactic| try simp only [Int.reduceEq, Int.reduceLT, Int.reduceLE, Int.reduceAdd, ne_eq, not_true_eq_false, not_false_eq_true, e_var, e_con, e_bt, e_glo, e_d0, e_d1, e_tup, e_lst, e_bin, e_neg, e_cmp, e_chn, e_sl, e_lc, e_and, e_or, e_not, e_ife, e_cal, e_bi, e_bm, e_ix, es_nl, es_cs, o_nl, o_cs, t_nl, t_and, t_or, t_not, t_cmp, t_chn, t_tst, i_seq, i_rng, r_unl, asL_r, asL_l, e_cl, e_new, e_fld, e_mth, e_xf, e_xi, e_xt, i_zip, i_enu, r_brk, r_setf, r_rais, r_tri, cf_call, cf_call1, cf_W, cf_t, cf_lv, cx_t, tri_nx, tri_rt, tri_bk, tri_exc, slot_s, slot_n, unx_s, unx_n, unx_r, xf_x, xfO_n, xi_x, xiO_n, xt_x, xtO_n, rais_0, rais_1, new_v, newO_i, setf_r, bi_any, bi_all, bi_tup, bi_lst, bi_repr, bi_str, zip_t, zip_l, rv_ins, rv_cls, rv_dct, isLst_l, r_nop, r_seq, r_asg, r_asgc, r_par, r_setix, r_ret, r_exp, r_ite, r_whl, r_for, r_scope, st_nm, st_tup, st_nl, st_cs, st_2, bin_ii, bin_add, bin_sub, bin_ss, bin_tt, cmp_ii, cmp_eq, cmp_ne, cmp_lt, cmp_le, cmp_gt, cmp_ge, cmp_ss, cs_eq, cs_ne, cs_lt, cs_gt, cs_in, cs_nin, seq_lst, seq_rol, seq_tup, bi_abs, bi_max, bi_min, bi_int_i, bi_int_b, bi_len_l, bi_len_r, bi_len_t, bi_len_h, bi_isi, ty_non, ty_bl, ty_int, ty_str, ty_tup, ty_lst, ty_rol, ty_dct, bm_bits, bt_bits, bt_rev, bt_app, bt_join, bm_join, kit_int_int, kit_int_bool, kit_int_str, kit_int_list, kit_int_tuple, kit_int_dict, kit_bool_int, kit_bool_bool, kit_bool_str, kit_bool_list, kit_bool_tuple, kit_bool_dict, kit_str_int, kit_str_bool, kit_str_str, kit_str_list, kit_str_tuple, kit_str_dict, kit_none_int, kit_none_bool, kit_none_str, kit_none_list, kit_none_tuple, kit_none_dict, kit_list_int, kit_list_bool, kit_list_str, kit_list_list, kit_list_tuple, kit_list_dict, kit_tuple_int, kit_tuple_bool, kit_tuple_str, kit_tuple_list, kit_tuple_tuple, kit_tuple_dict, kit_dict_int, kit_dict_bool, kit_dict_str, kit_dict_list, kit_dict_tuple, kit_dict_dict, seqI_l, seqI_r, seqI_t, seqI_s, varR_ok, andR_t, andR_f, orR_t, orR_f, notR_b, negR_i, partR_i, tru_b, tru_i, tru_n, ixR_l, ixR_r, ixR_t, ixR_h, at0, at1, at2, at3, at4, at5, at6, at7, at8, at9, at10, at11, at12, at13, bind_ok, bind_exc, bind_bad, noX_ok, noX_bad, opt_some, opt_none, out_ok, out_exc, out_bad, oopt_some, oopt_none, thn_nx, thn_rt, thn_bk, thn_ct, thn_exc, thn_bad, turn_nx, turn_ct, turn_bk, turn_rt, turn_exc, turn_bad, trim_nx, trim_bk, trim_ct, trim_rt, trim_exc, trim_bad, end_nx, end_rt, end_exc, objL_s, seq_refO, setix_ref, setL_0, setL_1, setL_2, bm_rev, Option.map_some, List.reverse_cons, List.reverse_nil, fl_nil, fl_cons, tupR_v, lstR_v, lstR_h, rl_nil, rl_cons, rv_int, rv_bl, rv_non, rv_str, rv_tup, rv_lst, Bool.and_self, Bool.and_true, Bool.true_and, List.length_cons, List.length_nil, Nat.zero_add, Nat.reduceAdd, Nat.reduceLeDiff, p10_6, p10_9, p10_10, p10_12, p10_18, p10_27, p10_30, List.getElem?_cons_zero, List.getElem?_cons_succ, List.set_cons_zero, List.set_cons_succ, List.map_cons, List.map_nil, List.cons_append, List.nil_append, List.append_nil, List.replicate, Nat.sub_self, Nat.reduceSub, Option.bind_some, decide_true, decide_false, Bool.not_true, Bool.not_false, if_true, if_false, Bool.false_eq_true, ↓reduceIte, reduceCtorEq])
mutual
theorem refs_mono {b : Nat} : ∀ {v : Val}, refsLt 0 v = true → refsLt b v = true
  | .non, _ => rfl
  | .bl _, _ => rfl
  | .int _, _ => rfl
  | .str _, _ => rfl
  | .ty _, _ => rfl
  | .cls _, _ => rfl
  | .ref n, p => absurd (show n < 0 from of_decide_eq_true (p := n < 0) p) (Nat.not_lt_zero n)
  | .lst xs, p => refsL_mono (xs := xs) p
  | .rol xs, p => refsL_mono (xs := xs) p
  | .dct _ xs, p => refsL_mono (xs := xs) p
  | .ins _ xs, p => refsL_mono (xs := xs) p
  | .tup xs, p => refsL_mono (xs := xs) p
theorem refsL_mono {b : Nat} : ∀ {xs : List Val}, refsLtL 0 xs = true → refsLtL b xs = true
  | [], _ => rfl
  | x :: xs, p => by
    have p2 : (refsLt 0 x && refsLtL 0 xs) = true := p
    rw [Bool.and_eq_true] at p2
    show (refsLt b x && refsLtL b xs) = true
    rw [refs_mono p2.1, refsL_mono p2.2]
    rfl
end
/-! ### values that can be told and compared -/
theorem sok_app {x y : Str} (a : PyData.strOk x = true) (b : PyData.strOk y = true) : PyData.strOk (x ++ y) = true := by
  show ((x.cps ++ y.cps).all (· < 0x110000)) = true
  rw [Array.all_append]
  have a : x.cps.all (· < 0x110000) = true := a
  have b : y.cps.all (· < 0x110000) = true := b
  rw [a, b]
  rfl
theorem sok_of (s : String) : PyData.strOk (Str.ofString s) = true := by
  rw [Str.ofString_eq_toList]
  show ((s.toList.map Char.toNat).toArray.all (· < 0x110000)) = true
  rw [List.all_toArray, List.all_eq_true]
  intro c hc
  obtain ⟨d, _, rfl⟩ := List.mem_map.mp hc
  have := d.valid
  refine decide_eq_true ?_
  rcases this with z | z
  · have : d.toNat < 55296 := z
    omega
  · exact z.2
theorem sok_join : ∀ ts : List Str, (∀ t ∈ ts, PyData.strOk t = true) → PyData.strOk (Str.join ", " ts) = true
  | [], _ => by show PyData.strOk (⟨#[]⟩ : Str) = true; decide +kernel
  | [t], h => h t (by simp)
  | t :: u :: r, h => by
    show PyData.strOk (t ++ ", " ++ Str.join ", " (u :: r)) = true
    exact sok_app (sok_app (h t (by simp)) (sok_of _)) (sok_join (u :: r) fun x m => h x (List.mem_cons_of_mem _ m))
mutual
/-- without texts, lists, dicts -/
def numD : PyData → Bool
  | .int _ => true
  | .tuple xs => numDL xs
  | _ => false
def numDL : List PyData → Bool
  | [] => true
  | x :: xs => numD x && numDL xs
end
mutual
theorem sok_shown : ∀ d : PyData, numD d = true → PyData.strOk d.shown = true
  | .int i, _ => sok_of _
  | .tuple xs, h => by
    show PyData.strOk (("(" : Str) ++ Str.join ", " (PyData.shownAll xs) ++ (if (PyData.shownAll xs).length == 1 then ",)" else ")" : String)) = true
    exact sok_app (sok_app (sok_of _) (sok_join _ (sok_shownL xs h))) (sok_of _)
  | .none, h => nomatch h
  | .bool _, h => nomatch h
  | .str _, h => nomatch h
  | .list _, h => nomatch h
  | .dict _, h => nomatch h
theorem sok_shownL : ∀ xs : List PyData, numDL xs = true → ∀ t ∈ PyData.shownAll xs, PyData.strOk t = true
  | [], _ => fun t m => nomatch m
  | x :: xs, h => by
    have h : (numD x && numDL xs) = true := h
    rw [Bool.and_eq_true] at h
    intro t m
    rcases List.mem_cons.mp m with rfl | m
    · exact sok_shown x h.1
    · exact sok_shownL xs h.2 t m
end
theorem chr_lt (d : Char) : d.toNat < 0x110000 := by
  rcases d.valid with z | z
  · have : d.toNat < 55296 := z
    omega
  · exact z.2
theorem rc_ok {q c : Nat} (hc : c < 0x110000) : ∀ x ∈ PySem.Builtin.Str.reprChar q c, x < 0x110000 := by
  have hx : ∀ (w : Nat), ∀ x ∈ List.replicate (w - ((Nat.toDigits 16 c).map Char.toNat).length) 48 ++ (Nat.toDigits 16 c).map Char.toNat, x < 0x110000 := by
    intro w x m
    rcases List.mem_append.mp m with m | m
    · have := List.eq_of_mem_replicate m
      omega
    · obtain ⟨d, _, rfl⟩ := List.mem_map.mp m
      exact chr_lt d
  intro x m
  unfold PySem.Builtin.Str.reprChar at m
  simp only at m
  split at m
  · simp only [List.mem_cons, List.not_mem_nil, or_false] at m
    omega
  · split at m
    · simp only [List.mem_cons, List.not_mem_nil, or_false] at m
      omega
    · split at m
      · simp only [List.mem_cons, List.not_mem_nil, or_false] at m
        omega
      · split at m
        · simp only [List.mem_cons, List.not_mem_nil, or_false] at m
          omega
        · split at m
          · simp only [List.mem_cons, List.not_mem_nil, or_false] at m
            omega
          · split at m
            · rcases List.mem_append.mp m with m | m
              · simp only [List.mem_cons, List.not_mem_nil, or_false] at m
                omega
              · exact hx 2 x m
            · split at m
              · rcases List.mem_append.mp m with m | m
                · simp only [List.mem_cons, List.not_mem_nil, or_false] at m
                  omega
                · exact hx 4 x m
              · rcases List.mem_append.mp m with m | m
                · simp only [List.mem_cons, List.not_mem_nil, or_false] at m
                  omega
                · exact hx 8 x m
theorem fold_ok {q : Nat} : ∀ (l : List Nat) (acc : Array Nat), (∀ x ∈ l, x < 0x110000) → (∀ x ∈ acc, x < 0x110000) → ∀ x ∈ l.foldl (fun out c => out ++ (PySem.Builtin.Str.reprChar q c).toArray) acc, x < 0x110000
  | [], acc, _, h2 => h2
  | c :: l, acc, h1, h2 => by
    rw [List.foldl_cons]
    refine fold_ok l _ (fun x m => h1 x (List.mem_cons_of_mem _ m)) fun x m => ?_
    rcases Array.mem_append.mp m with m | m
    · exact h2 x m
    · exact rc_ok (h1 c (by simp)) x (by simpa using m)
theorem sok_repr {x : Str} (h : PyData.strOk x = true) : PyData.strOk (reprText x) = true := by
  have h : x.cps.all (· < 0x110000) = true := h
  have hx : ∀ c ∈ x.cps.toList, c < 0x110000 := by
    rw [← Array.all_toList, List.all_eq_true] at h
    exact fun c m => of_decide_eq_true (h c m)
  have hq : reprQuote x < 0x110000 := by unfold reprQuote; split <;> decide
  show ((x.cps.foldl (fun out c => out ++ (PySem.Builtin.Str.reprChar (reprQuote x) c).toArray) #[reprQuote x]).push (reprQuote x)).all (· < 0x110000) = true
  rw [← Array.all_toList, List.all_eq_true]
  intro c m
  refine decide_eq_true ?_
  have m : c ∈ (x.cps.foldl (fun out c => out ++ (PySem.Builtin.Str.reprChar (reprQuote x) c).toArray) #[reprQuote x]).push (reprQuote x) := Array.mem_toList_iff.mp m
  rcases Array.mem_push.mp m with m | m
  · rw [← Array.foldl_toList] at m
    exact fold_ok _ _ hx (fun y my => by
      have : y = reprQuote x := by simpa using my
      omega) c m
  · omega
theorem sok_from : ∀ (ts : List Str) (k : Nat) (acc : Str), (∀ t ∈ ts, PyData.strOk t = true) → PyData.strOk acc = true → PyData.strOk (textFrom k acc ts) = true
  | [], _, _, _, h => h
  | t :: ts, k, acc, h1, h2 => by
    show PyData.strOk (textFrom (k + 1) (acc ++ (if k > 0 then ", " else "" : String) ++ t) ts) = true
    exact sok_from ts _ _ (fun x m => h1 x (List.mem_cons_of_mem _ m)) (sok_app (sok_app h2 (sok_of _)) (h1 t (by simp)))
mutual
theorem sok_all : ∀ d : PyData, d.canLay0 = true → PyData.strOk d.shown = true
  | .int i, _ => sok_of _
  | .none, _ => sok_of _
  | .bool b, _ => by cases b <;> exact sok_of _
  | .str x, h => sok_repr h
  | .list xs, h => by
    show PyData.strOk (textFrom 0 "[" (PyData.shownAll xs) ++ "]") = true
    exact sok_app (sok_from _ 0 _ (sok_allL xs h) (sok_of _)) (sok_of _)
  | .tuple xs, h => by
    show PyData.strOk (("(" : Str) ++ Str.join ", " (PyData.shownAll xs) ++ (if (PyData.shownAll xs).length == 1 then ",)" else ")" : String)) = true
    exact sok_app (sok_app (sok_of _) (sok_join _ (sok_allL xs h))) (sok_of _)
  | .dict _, h => nomatch h
theorem sok_allL : ∀ xs : List PyData, PyData.canLayAll0 xs = true → ∀ t ∈ PyData.shownAll xs, PyData.strOk t = true
  | [], _ => fun t m => nomatch m
  | x :: xs, h => by
    have h : (x.canLay0 && PyData.canLayAll0 xs) = true := h
    rw [Bool.and_eq_true] at h
    intro t m
    rcases List.mem_cons.mp m with rfl | m
    · exact sok_all x h.1
    · exact sok_allL xs h.2 t m
end
structure GdD (d : PyData) (n s : Nat) : Prop where
  sh : d.showable = true
  dp : d.depth ≤ n
  pl : plainD d = true
  sz : sl d ≤ s
  nd : d.hasDict = false
  cl : d.canLay0 = true
structure GdDL (ds : List PyData) (n s : Nat) : Prop where
  sh : PyData.showableAll ds = true
  dp : PyData.depthAll ds ≤ n
  pl : plainDL ds = true
  sz : slL ds ≤ s
  nd : PyData.hasDictAll ds = false
  cl : PyData.canLayAll0 ds = true
def Gd (n s : Nat) (v : Val) : Prop := pure0 v = true ∧ ∃ d, data0 v = some d ∧ dataR v = some d ∧ GdD d n s
def GdL (n s : Nat) (vs : List Val) : Prop := refsLtL 0 vs = true ∧ ∃ ds, dataL vs = some ds ∧ dataRL vs = some ds ∧ GdDL ds n s
theorem Gd.mono {n s m t : Nat} {v : Val} (g : Gd n s v) (h1 : n ≤ m) (h2 : s ≤ t) : Gd m t v := by
  obtain ⟨p, d, a, b, c⟩ := g
  exact ⟨p, d, a, b, c.sh, Nat.le_trans c.dp h1, c.pl, Nat.le_trans c.sz h2, c.nd, c.cl⟩
theorem Gd.int {n b : Nat} {i : Int} (h : bits i ≤ b) (hb : b ≤ 1900) : Gd n (b + 2) (.int i) := ⟨rfl, .int i, rfl, rfl, decide_eq_true (log_bits h (Nat.le_trans hb (by decide))), Nat.zero_le n, rfl, Nat.add_le_add_right h 2, rfl, rfl⟩
theorem Gd.non {n : Nat} : Gd n 5 .non := ⟨rfl, .none, rfl, rfl, rfl, Nat.zero_le n, rfl, by decide, rfl, rfl⟩
theorem Gd.bl {n : Nat} {b : Bool} : Gd n 5 (.bl b) := ⟨rfl, .bool b, rfl, rfl, rfl, Nat.zero_le n, rfl, Nat.le_refl 5, rfl, rfl⟩
theorem sok_plain {x : Str} (h : PyData.strOk x = true) : plainD (.str x) = true := by
  show (x.cps.toList.all fun c => decide (c < 16 ^ 8)) = true
  have h : x.cps.all (· < 0x110000) = true := h
  rw [← Array.all_toList] at h
  rw [List.all_eq_true] at h ⊢
  intro c m
  have := of_decide_eq_true (h c m)
  exact decide_eq_true (Nat.lt_trans this (by decide))
theorem Gd.str {n s : Nat} {x : Str} (h : PyData.strOk x = true) (l : x.length ≤ s) : Gd n (10 * s + 2) (.str x) := ⟨rfl, .str x, rfl, rfl, rfl, Nat.zero_le n, sok_plain h, by show 10 * x.length + 2 ≤ _; omega, rfl, h⟩
theorem GdL.nil {n : Nat} : GdL n 0 [] := ⟨rfl, [], rfl, rfl, rfl, Nat.zero_le n, rfl, Nat.le_refl 0, rfl, rfl⟩
theorem GdL.cons {n s t : Nat} {v : Val} {vs : List Val} (g : Gd n s v) (g2 : GdL n t vs) : GdL n (s + 2 + t) (v :: vs) := by
  obtain ⟨p, d, a, b, c⟩ := g
  obtain ⟨p2, ds, a2, b2, c2⟩ := g2
  refine ⟨?_, d :: ds, ?_, ?_, ?_, ?_, ?_, ?_, ?_, ?_⟩
  · show (refsLt 0 v && refsLtL 0 vs) = true
    rw [show refsLt 0 v = true from p, p2]
    rfl
  · show ((data0 v).bind fun d => (dataL vs).map fun ds => d :: ds) = _
    rw [a, a2]
    rfl
  · show ((dataR v).bind fun d => (dataRL vs).map fun ds => d :: ds) = _
    rw [b, b2]
    rfl
  · show (d.showable && PyData.showableAll ds) = true
    rw [c.sh, c2.sh]
    rfl
  · show max d.depth (PyData.depthAll ds) ≤ n
    exact Nat.max_le.mpr ⟨c.dp, c2.dp⟩
  · show (plainD d && plainDL ds) = true
    rw [c.pl, c2.pl]
    rfl
  · show sl d + 2 + slL ds ≤ _
    have := c.sz
    have := c2.sz
    omega
  · show (d.hasDict || PyData.hasDictAll ds) = false
    rw [c.nd, c2.nd]
    rfl
  · show (d.canLay0 && PyData.canLayAll0 ds) = true
    rw [c.cl, c2.cl]
    rfl
theorem GdL.tup {n s : Nat} {vs : List Val} (g : GdL n s vs) : Gd (n + 1) (s + 5) (.tup vs) := by
  obtain ⟨p2, ds, a2, b2, c2⟩ := g
  refine ⟨p2, .tuple ds, ?_, ?_, c2.sh, Nat.add_le_add_right c2.dp 1, c2.pl, Nat.add_le_add_right c2.sz 5, c2.nd, c2.cl⟩
  · show (dataL vs).map PyData.tuple = _
    rw [a2]
    rfl
  · show (dataRL vs).map PyData.tuple = _
    rw [b2]
    rfl
theorem GdL.lst {n s : Nat} {vs : List Val} (g : GdL n s vs) : Gd (n + 1) (s + 5) (.lst vs) := by
  obtain ⟨p2, ds, a2, b2, c2⟩ := g
  refine ⟨p2, .list ds, ?_, ?_, c2.sh, Nat.add_le_add_right c2.dp 1, c2.pl, Nat.add_le_add_right c2.sz 5, c2.nd, c2.cl⟩
  · show (dataL vs).map PyData.list = _
    rw [a2]
    rfl
  · show (dataRL vs).map PyData.list = _
    rw [b2]
    rfl
mutual
theorem data_noref : ∀ {v : Val} {d : PyData}, data0 v = some d → ∀ n, v ≠ .ref n
  | .ref _, _, h => nomatch h
  | .non, _, _ => fun _ h => nomatch h
  | .bl _, _, _ => fun _ h => nomatch h
  | .int _, _, _ => fun _ h => nomatch h
  | .str _, _, _ => fun _ h => nomatch h
  | .ty _, _, _ => fun _ h => nomatch h
  | .cls _, _, _ => fun _ h => nomatch h
  | .lst _, _, _ => fun _ h => nomatch h
  | .rol _, _, _ => fun _ h => nomatch h
  | .dct _ _, _, _ => fun _ h => nomatch h
  | .ins _ _, _, _ => fun _ h => nomatch h
  | .tup _, _, _ => fun _ h => nomatch h
end
theorem dataV_0 {h : Heap} {v : Val} {d : PyData} (e : data0 v = some d) : dataV h v = some d := by
  cases v with
  | ref n => exact absurd rfl (data_noref e n)
  | _ => exact e
theorem dataW_0 {h : Heap} {v : Val} {d : PyData} (e : dataR v = some d) : dataW h v = some d := by
  cases v with
  | ref n => exact nomatch e
  | _ => exact e
theorem Gd.shown {n s : Nat} {v : Val} (g : Gd n s v) (h1 : n ≤ 20) (h2 : s ≤ 100000) : ∃ z : Str, (∀ h, shownO h v = some z) ∧ PyData.strOk z = true ∧ z.length ≤ s := by
  obtain ⟨p, d, a, b, c⟩ := g
  exact ⟨_, fun h => shownO_of (dataW_0 b) c.sh (Nat.le_trans c.dp h1) c.pl (Nat.le_trans c.sz (by omega)) (.inl c.nd), sok_all d c.cl, Nat.le_trans (shown_len d c.pl) c.sz⟩
theorem Gd.shaped {d : PyData} {n s : Nat} (c : GdD d n s) (h1 : n ≤ 64) : SeqAt.shaped d = true := by
  show (d.canLay0 && decide (d.depth ≤ 64)) = true
  rw [c.cl, decide_eq_true (Nat.le_trans c.dp h1)]
  rfl
theorem Gd.eq_self {h : Heap} {n s : Nat} {v : Val} (g : Gd n s v) (h1 : n ≤ 64) : eqD h v v = some true := by
  obtain ⟨p, d, a, b, c⟩ := g
  unfold eqD
  rw [dataV_0 a]
  show (if SeqAt.shaped d = true ∧ SeqAt.shaped d = true then some (PyData.eqv d d) else none) = _
  rw [if_pos ⟨Gd.shaped c h1, Gd.shaped c h1⟩, PySem.SeqAt.eqv_refl_plain d (PyData.plain_of_canLay0 d c.cl)]
theorem Gd.ne_tup {h : Heap} {n s : Nat} {xs : List Val} (g : Gd n s (.tup xs)) (h1 : n ≤ 64) : cmpop h .NotEq (.tup xs) (.tup xs) = some false := by
  show (eqD h (.tup xs) (.tup xs)).map (!·) = _
  rw [g.eq_self h1]
  rfl
theorem Gd.eq_nil {h : Heap} {n s : Nat} {x : Val} {xs : List Val} (g : Gd n s (.tup (x :: xs))) (h1 : n ≤ 64) : cmpop h .Eq (.tup (x :: xs)) (.tup []) = some false := by
  obtain ⟨p, d, a, b, c⟩ := g
  show eqD h (.tup (x :: xs)) (.tup []) = _
  unfold eqD
  rw [dataV_0 a]
  show (if SeqAt.shaped d = true ∧ SeqAt.shaped (.tuple []) = true then some (PyData.eqv d (.tuple [])) else none) = _
  rw [if_pos ⟨Gd.shaped c h1, rfl⟩]
  have a : ((data0 x).bind fun d => (dataL xs).map fun ds => d :: ds).map PyData.tuple = some d := a
  cases e : data0 x with
  | none => rw [e] at a; cases a
  | some y =>
    cases e2 : dataL xs with
    | none => rw [e, e2] at a; cases a
    | some ys =>
      rw [e, e2] at a
      cases a
      rfl
theorem eq_nil0 (h : Heap) : cmpop h .Eq (.tup []) (.tup []) = some true := rfl

end MP
namespace MP.G
open PySem L2
def top (i : Nat) : Stmt := PySem.Challenge.pw_heldshapes_k04_texts_of_numbers.main.body.getD i (.Pass ⟨0, 0, 0, 0⟩)
def mtop (i j : Nat) : Stmt := (clsB (top i)).getD j (.Pass ⟨0, 0, 0, 0⟩)
/-- is_whole -/
def b0_0 : S := .seq (.ret (.and (.bi .isi (.cs (.var 0) (.cs (.bt "int") .nl))) (.not (.bi .isi (.cs (.var 0) (.cs (.bt "bool") .nl)))))) .nop
def b0 : S := b0_0
def f0 : Fn := ⟨1, 1, true, b0⟩
def d0 : Dn := ⟨"is_whole", "is_whole", top 5, ["thing"], ["thing"]⟩
/-- whole_of -/
def b1_5 : S := .seq (.ret (.itx (.var 0))) .nop
def b1_4 : S := .seq (.ite (.and (.cmp .Eq (.ix (.var 1) (.con (.int 0))) (.con (.str "0"))) (.cmp .NotEq (.var 0) (.con (.str "0")))) (.seq (.ret (.con .non)) .nop) .nop) b1_5
def b1_3 : S := .seq (.ite (.or (.not (.chn .LtE .LtE (.con (.int 1)) (.bi .len (.cs (.var 1) .nl)) (.con (.int 30)))) (.cmp .NotEq (.lc false (.nm 2) [2] (.iSeq (.var 1)) (.cmp .NotIn (.var 2) (.glo "FIGURES")) (.var 2)) (.lst false .nl))) (.seq (.ret (.con .non)) .nop) .nop) b1_4
def b1_2 : S := .seq (.ite (.tst (.tm .startswith (.var 0) (.con (.str "-")))) (.seq (.asg (.nm 1) (.sl (.var 0) (.cs (.con (.int 1)) .nl) .nl)) .nop) .nop) b1_3
def b1_1 : S := .seq (.asg (.nm 1) (.var 0)) b1_2
def b1_0 : S := .seq (.ite (.not (.tst (.bi .isi (.cs (.var 0) (.cs (.bt "str") .nl))))) (.seq (.ret (.con .non)) .nop) .nop) b1_1
def b1 : S := b1_0
def f1 : Fn := ⟨3, 1, true, b1⟩
def d1 : Dn := ⟨"whole_of", "whole_of", top 6, ["text", "figures", "sign"], ["text"]⟩
/-- common -/
def b2w1_0 : S := .seq (.par 0 1 (.cs (.var 1) (.cs (.bin .Mod (.var 0) (.var 1)) .nl))) .nop
def b2_3 : S := .seq (.ret (.var 0)) .nop
def b2_2 : S := .seq (.whl (.cmp .Gt (.var 1) (.con (.int 0))) b2w1_0) b2_3
def b2_1 : S := .seq (.asg (.nm 1) (.bi .abs (.cs (.var 1) .nl))) b2_2
def b2_0 : S := .seq (.asg (.nm 0) (.bi .abs (.cs (.var 0) .nl))) b2_1
def b2 : S := b2_0
def f2 : Fn := ⟨2, 2, true, b2⟩
def d2 : Dn := ⟨"common", "common", top 7, ["one", "other"], ["one", "other"]⟩
/-- lowest -/
def b3_2 : S := .seq (.ret (.tup (.cs (.bin .FloorDiv (.var 0) (.var 2)) (.cs (.bin .FloorDiv (.var 1) (.var 2)) .nl)))) .nop
def b3_1 : S := .seq (.ite (.cmp .Lt (.var 1) (.con (.int 0))) (.seq (.asg (.nm 2) (.neg (.var 2))) .nop) .nop) b3_2
def b3_0 : S := .seq (.asg (.nm 2) (.cal 2 (.cs (.var 0) (.cs (.var 1) .nl)))) b3_1
def b3 : S := b3_0
def f3 : Fn := ⟨3, 2, true, b3⟩
def d3 : Dn := ⟨"lowest", "lowest", top 9, ["top", "bottom", "many"], ["top", "bottom"]⟩
/-- frac -/
def b4_1 : S := .seq (.ret (.cal 3 (.cs (.var 0) (.cs (.var 1) .nl)))) .nop
def b4_0 : S := .seq (.ite (.or (.not (.tst (.cal 0 (.cs (.var 0) .nl)))) (.or (.not (.tst (.cal 0 (.cs (.var 1) .nl)))) (.cmp .Eq (.var 1) (.con (.int 0))))) (.seq (.rais 1 (.cs (.tup (.cs (.var 0) (.cs (.var 1) .nl))) .nl)) .nop) .nop) b4_1
def b4 : S := b4_0
def f4 : Fn := ⟨2, 2, true, b4⟩
def d4 : Dn := ⟨"frac", "frac", top 10, ["top", "bottom"], ["top", "bottom"]⟩
/-- frac_text -/
def b5_1 : S := .seq (.ret (.fst (.cs (.fmt (.ix (.var 0) (.con (.int 0)))) (.cs (.con (.str "/")) (.cs (.fmt (.ix (.var 0) (.con (.int 1)))) .nl))))) .nop
def b5_0 : S := .seq (.ite (.cmp .Eq (.ix (.var 0) (.con (.int 1))) (.con (.int 1))) (.seq (.ret (.bi .str (.cs (.ix (.var 0) (.con (.int 0))) .nl))) .nop) .nop) b5_1
def b5 : S := b5_0
def f5 : Fn := ⟨1, 1, true, b5⟩
def d5 : Dn := ⟨"frac_text", "frac_text", top 11, ["one"], ["one"]⟩
/-- frac_of -/
def b6_6 : S := .seq (.ret (.tup (.cs (.var 2) (.cs (.var 3) .nl)))) .nop
def b6_5 : S := .seq (.ite (.or (.cmp .Gt (.bi .len (.cs (.var 1) .nl)) (.con (.int 2))) (.or (.cmp .Is (.var 2) (.con .non)) (.or (.cmp .Is (.var 3) (.con .non)) (.or (.cmp .Lt (.var 3) (.con (.int 2))) (.cmp .Gt (.cal 2 (.cs (.var 2) (.cs (.var 3) .nl))) (.con (.int 1))))))) (.seq (.ret (.con .non)) .nop) .nop) b6_6
def b6_4 : S := .seq (.asg (.nm 3) (.cal 1 (.cs (.ix (.var 1) (.con (.int 1))) .nl))) b6_5
def b6_3 : S := .seq (.asg (.nm 2) (.cal 1 (.cs (.ix (.var 1) (.con (.int 0))) .nl))) b6_4
def b6_2 : S := .seq (.ite (.cmp .Eq (.bi .len (.cs (.var 1) .nl)) (.con (.int 1))) (.seq (.asg (.nm 4) (.cal 1 (.cs (.var 0) .nl))) (.seq (.ite (.cmp .Is (.var 4) (.con .non)) (.seq (.ret (.con .non)) .nop) .nop) (.seq (.ret (.tup (.cs (.var 4) (.cs (.con (.int 1)) .nl)))) .nop))) .nop) b6_3
def b6_1 : S := .seq (.asg (.nm 1) (.tm .split (.var 0) (.con (.str "/")))) b6_2
def b6_0 : S := .seq (.ite (.not (.tst (.bi .isi (.cs (.var 0) (.cs (.bt "str") .nl))))) (.seq (.ret (.con .non)) .nop) .nop) b6_1
def b6 : S := b6_0
def f6 : Fn := ⟨5, 1, true, b6⟩
def d6 : Dn := ⟨"frac_of", "frac_of", top 12, ["text", "parts", "top", "bottom", "many"], ["text"]⟩
/-- _law_cell -/
def b7_1 : S := .seq (.ret (.bin .Add (.bin .Mult (.con (.int 7919)) (.var 1)) (.con (.int 13)))) .nop
def b7_0 : S := .seq (.ite (.cmp .Lt (.var 1) (.bi .len (.cs (.var 0) .nl))) (.seq (.ret (.ix (.var 0) (.var 1))) .nop) .nop) b7_1
def b7 : S := b7_0
def f7 : Fn := ⟨2, 2, true, b7⟩
def d7 : Dn := ⟨"_law_cell", "_law_cell", top 14, ["_law_script", "_law_k"], ["_law_script", "_law_k"]⟩
/-- _law_box -/
def b8_0 : S := .seq (.ret (.lst true (.cs (.bi .max2 (.cs (.con (.int 0)) (.cs (.bin .Sub (.var 0) (.bin .Pow (.con (.int 10)) (.con (.int 18)))) .nl))) (.cs (.bin .Mod (.var 0) (.con (.int 2147483629))) (.cs (.con (.int 0)) .nl))))) .nop
def b8 : S := b8_0
def f8 : Fn := ⟨1, 1, false, b8⟩
def d8 : Dn := ⟨"_law_box", "_law_box", top 15, ["_law_cell_here"], ["_law_cell_here"]⟩
/-- _law_take -/
def b9_4 : S := .seq (.ret (.bin .Mod (.bin .FloorDiv (.bin .Mod (.bin .Pow (.var 2) (.con (.int 3))) (.con (.int 2147483587))) (.con (.int 8))) (.var 1))) .nop
def b9_3 : S := .seq (.asg (.nm 2) (.bin .Mod (.bin .Add (.bin .Pow (.var 2) (.con (.int 5))) (.ix (.var 0) (.con (.int 2)))) (.con (.int 2147483629)))) b9_4
def b9_2 : S := .seq (.asg (.nm 2) (.bin .Mod (.bin .Mult (.bin .Add (.ix (.var 0) (.con (.int 1))) (.con (.int 17))) (.bin .Add (.bin .Mult (.con (.int 7919)) (.ix (.var 0) (.con (.int 2)))) (.con (.int 104729)))) (.con (.int 2147483647)))) b9_3
def b9_1 : S := .seq (.setix (.var 0) (.con (.int 2)) (.bin .Add (.ix (.var 0) (.con (.int 2))) (.con (.int 1)))) b9_2
def b9_0 : S := .seq (.ite (.cmp .Gt (.ix (.var 0) (.con (.int 0))) (.con (.int 0))) (.seq (.asg (.nm 3) (.bin .Mod (.ix (.var 0) (.con (.int 0))) (.var 1))) (.seq (.setix (.var 0) (.con (.int 0)) (.bin .FloorDiv (.ix (.var 0) (.con (.int 0))) (.var 1))) (.seq (.ret (.var 3)) .nop))) .nop) b9_1
def b9 : S := b9_0
def f9 : Fn := ⟨4, 2, true, b9⟩
def d9 : Dn := ⟨"_law_take", "_law_take", top 16, ["_law_box_here", "_law_many", "_law_number", "_law_digit"], ["_law_box_here", "_law_many"]⟩
/-- _law_great -/
def b10w1_0 : S := .seq (.asg (.nm 2) (.bin .Add (.bin .Mult (.var 2) (.bin .Pow (.con (.int 10)) (.con (.int 9)))) (.cal 9 (.cs (.var 0) (.cs (.bin .Pow (.con (.int 10)) (.con (.int 9))) .nl))))) .nop
def b10_2 : S := .seq (.ret (.var 2)) .nop
def b10_1 : S := .seq (.for_ (.nm 3) (.iRng (.cs (.var 1) .nl)) b10w1_0) b10_2
def b10_0 : S := .seq (.asg (.nm 2) (.bin .Add (.con (.int 1)) (.cal 9 (.cs (.var 0) (.cs (.con (.int 9)) .nl))))) b10_1
def b10 : S := b10_0
def f10 : Fn := ⟨4, 2, true, b10⟩
def d10 : Dn := ⟨"_law_great", "_law_great", top 17, ["_law_box_here", "_law_chunks", "_law_number", "_law_k"], ["_law_box_here", "_law_chunks"]⟩
/-- _law_page -/
def b11_1 : S := .seq (.ret (.bin .Add (.var 0) (.con (.str "abcdefghijklmnopqrstuvwxyz{|}~\n")))) .nop
def b11_0 : S := .seq (.asg (.nm 0) (.con (.str " !\"#$&'()*+,-./0123456789:;<=>?@ABCDEFGHIJKLMNOPQRSTUVWXYZ[\\]^_`"))) b11_1
def b11 : S := b11_0
def f11 : Fn := ⟨1, 0, true, b11⟩
def d11 : Dn := ⟨"_law_page", "_law_page", top 18, ["_law_page_here"], []⟩
/-- _law_figures -/
def b12_3 : S := .seq (.ret (.var 2)) .nop
def b12_2 : S := .seq (.ite (.and (.cmp .Eq (.ix (.var 2) (.con (.int 0))) (.con (.str "0"))) (.cmp .Gt (.cal 9 (.cs (.var 0) (.cs (.con (.int 4)) .nl))) (.con (.int 0)))) (.seq (.asg (.nm 2) (.bin .Add (.con (.str "1")) (.sl (.var 2) (.cs (.con (.int 1)) .nl) .nl))) .nop) .nop) b12_3
def b12_1 : S := .seq (.asg (.nm 2) (.bm .join (.con (.str "")) (.cs (.lc false (.nm 3) [3] (.iRng (.cs (.var 1) .nl)) .nl (.ix (.con (.str "0123456789")) (.cal 9 (.cs (.var 0) (.cs (.con (.int 10)) .nl))))) .nl))) b12_2
def b12_0 : S := .seq (.asg (.nm 1) (.ix (.lst false (.cs (.bin .Add (.con (.int 1)) (.cal 9 (.cs (.var 0) (.cs (.con (.int 4)) .nl)))) (.cs (.bin .Add (.con (.int 1)) (.cal 9 (.cs (.var 0) (.cs (.con (.int 31)) .nl)))) (.cs (.con (.int 30)) (.cs (.con (.int 31)) .nl))))) (.cal 9 (.cs (.var 0) (.cs (.con (.int 4)) .nl))))) b12_1
def b12 : S := b12_0
def f12 : Fn := ⟨4, 1, true, b12⟩
def d12 : Dn := ⟨"_law_figures", "_law_figures", top 19, ["_law_box_here", "_law_many", "_law_text_here", "_law_k"], ["_law_box_here"]⟩
/-- _law_text -/
def b13_10 : S := .seq (.ret (.var 3)) .nop
def b13_9 : S := .seq (.ite (.cmp .Eq (.var 1) (.con (.int 5))) (.seq (.ret (.ix (.lst false (.cs (.var 2) (.cs (.con (.str "")) (.cs (.con (.str "-")) (.cs (.con (.str "/")) (.cs (.con (.str "0")) (.cs (.con (.str "-0")) (.cs (.con (.str "1/")) (.cs (.con (.str "/1")) (.cs (.con (.str "0/1")) (.cs (.con (.str "2/4")) (.cs (.con (.str "3/1")) (.cs (.con (.str "1/-2")) .nl))))))))))))) (.cal 9 (.cs (.var 0) (.cs (.con (.int 12)) .nl))))) .nop) .nop) b13_10
def b13_8 : S := .seq (.ite (.cmp .Eq (.var 1) (.con (.int 4))) (.seq (.ret (.bin .Add (.bin .Add (.sl (.var 3) .nl (.cs (.var 4) .nl)) (.sl (.var 3) (.cs (.var 4) .nl) (.cs (.bin .Add (.var 4) (.con (.int 1))) .nl))) (.sl (.var 3) (.cs (.var 4) .nl) .nl))) .nop) .nop) b13_9
def b13_7 : S := .seq (.ite (.cmp .Eq (.var 1) (.con (.int 3))) (.seq (.ret (.bin .Add (.bin .Add (.sl (.var 3) .nl (.cs (.var 4) .nl)) (.var 2)) (.sl (.var 3) (.cs (.bin .Add (.var 4) (.con (.int 1))) .nl) .nl))) .nop) .nop) b13_8
def b13_6 : S := .seq (.ite (.cmp .Eq (.var 1) (.con (.int 2))) (.seq (.ret (.bin .Add (.sl (.var 3) .nl (.cs (.var 4) .nl)) (.sl (.var 3) (.cs (.bin .Add (.var 4) (.con (.int 1))) .nl) .nl))) .nop) .nop) b13_7
def b13_5 : S := .seq (.ite (.cmp .Lt (.var 1) (.con (.int 2))) (.seq (.ret (.bin .Add (.bin .Add (.sl (.var 3) .nl (.cs (.var 4) .nl)) (.var 2)) (.sl (.var 3) (.cs (.var 4) .nl) .nl))) .nop) .nop) b13_6
def b13_4 : S := .seq (.asg (.nm 4) (.cal 9 (.cs (.var 0) (.cs (.bin .Add (.bi .len (.cs (.var 3) .nl)) (.con (.int 1))) .nl)))) b13_5
def b13_3 : S := .seq (.ite (.cmp .Eq (.cal 9 (.cs (.var 0) (.cs (.con (.int 2)) .nl))) (.con (.int 0))) (.seq (.asg (.nm 3) (.bin .Add (.bin .Add (.var 3) (.con (.str "/"))) (.cal 12 (.cs (.var 0) .nl)))) .nop) .nop) b13_4
def b13_2 : S := .seq (.asg (.nm 3) (.bin .Add (.ix (.lst false (.cs (.con (.str "")) (.cs (.con (.str "-")) .nl))) (.cal 9 (.cs (.var 0) (.cs (.con (.int 2)) .nl)))) (.cal 12 (.cs (.var 0) .nl)))) b13_3
def b13_1 : S := .seq (.asg (.nm 2) (.ix (.bin .Add (.con (.str "0123456789//--")) (.cal 11 .nl)) (.cal 9 (.cs (.var 0) (.cs (.bin .Add (.con (.int 14)) (.con (.int 95))) .nl))))) b13_2
def b13_0 : S := .seq (.asg (.nm 1) (.cal 9 (.cs (.var 0) (.cs (.con (.int 8)) .nl)))) b13_1
def b13 : S := b13_0
def f13 : Fn := ⟨5, 1, true, b13⟩
def d13 : Dn := ⟨"_law_text", "_law_text", top 20, ["_law_box_here", "_law_spoil", "_law_sign", "_law_text_here", "_law_at"], ["_law_box_here"]⟩
/-- _law_read -/
def b14w1_1 : S := .seq (.asg (.nm 2) (.bin .Add (.bin .Mult (.con (.int 10)) (.var 2)) (.tm .index (.con (.str "0123456789")) (.var 3)))) .nop
def b14w1_0 : S := .seq (.ite (.cmp .NotIn (.var 3) (.con (.str "0123456789"))) (.seq (.ret (.con .non)) .nop) .nop) b14w1_1
def b14_6 : S := .seq (.ret (.ix (.lst false (.cs (.var 2) (.cs (.bin .Sub (.con (.int 0)) (.var 2)) .nl))) (.bi .int (.cs (.cmp .Eq (.sl (.var 0) .nl (.cs (.con (.int 1)) .nl)) (.con (.str "-"))) .nl)))) .nop
def b14_5 : S := .seq (.ite (.and (.cmp .Eq (.ix (.var 1) (.con (.int 0))) (.con (.str "0"))) (.cmp .NotEq (.var 0) (.con (.str "0")))) (.seq (.ret (.con .non)) .nop) .nop) b14_6
def b14_4 : S := .seq (.for_ (.nm 3) (.iSeq (.var 1)) b14w1_0) b14_5
def b14_3 : S := .seq (.asg (.nm 2) (.con (.int 0))) b14_4
def b14_2 : S := .seq (.ite (.or (.cmp .Lt (.bi .len (.cs (.var 1) .nl)) (.con (.int 1))) (.cmp .Gt (.bi .len (.cs (.var 1) .nl)) (.con (.int 30)))) (.seq (.ret (.con .non)) .nop) .nop) b14_3
def b14_1 : S := .seq (.ite (.cmp .Eq (.sl (.var 0) .nl (.cs (.con (.int 1)) .nl)) (.con (.str "-"))) (.seq (.asg (.nm 1) (.sl (.var 0) (.cs (.con (.int 1)) .nl) .nl)) .nop) .nop) b14_2
def b14_0 : S := .seq (.asg (.nm 1) (.var 0)) b14_1
def b14 : S := b14_0
def f14 : Fn := ⟨4, 1, true, b14⟩
def d14 : Dn := ⟨"_law_read", "_law_read", top 21, ["_law_text_here", "_law_figures_here", "_law_number", "_law_sign"], ["_law_text_here"]⟩
/-- _law_common -/
def b15w1_0 : S := .seq (.par 0 1 (.cs (.var 1) (.cs (.bin .Mod (.var 0) (.var 1)) .nl))) .nop
def b15_2 : S := .seq (.ret (.var 0)) .nop
def b15_1 : S := .seq (.whl (.cmp .Gt (.var 1) (.con (.int 0))) b15w1_0) b15_2
def b15_0 : S := .seq (.par 0 1 (.cs (.bi .abs (.cs (.var 0) .nl)) (.cs (.bi .abs (.cs (.var 1) .nl)) .nl))) b15_1
def b15 : S := b15_0
def f15 : Fn := ⟨2, 2, true, b15⟩
def d15 : Dn := ⟨"_law_common", "_law_common", top 22, ["_law_one", "_law_other"], ["_law_one", "_law_other"]⟩
/-- _law_read_frac -/
def b16_5 : S := .seq (.ret (.tup (.cs (.var 2) (.cs (.var 3) .nl)))) .nop
def b16_4 : S := .seq (.ite (.or (.cmp .Is (.var 2) (.con .non)) (.or (.cmp .Is (.var 3) (.con .non)) (.or (.cmp .Lt (.var 3) (.con (.int 2))) (.cmp .NotEq (.cal 15 (.cs (.var 2) (.cs (.var 3) .nl))) (.con (.int 1)))))) (.seq (.ret (.con .non)) .nop) .nop) b16_5
def b16_3 : S := .seq (.asg (.nm 3) (.cal 14 (.cs (.sl (.var 0) (.cs (.bin .Add (.var 1) (.con (.int 1))) .nl) .nl) .nl))) b16_4
def b16_2 : S := .seq (.asg (.nm 2) (.cal 14 (.cs (.sl (.var 0) .nl (.cs (.var 1) .nl)) .nl))) b16_3
def b16_1 : S := .seq (.ite (.cmp .Lt (.var 1) (.con (.int 0))) (.seq (.asg (.nm 4) (.cal 14 (.cs (.var 0) .nl))) (.seq (.ite (.cmp .Is (.var 4) (.con .non)) (.seq (.ret (.con .non)) .nop) .nop) (.seq (.ret (.tup (.cs (.var 4) (.cs (.con (.int 1)) .nl)))) .nop))) .nop) b16_2
def b16_0 : S := .seq (.asg (.nm 1) (.tm .find (.var 0) (.con (.str "/")))) b16_1
def b16 : S := b16_0
def f16 : Fn := ⟨5, 1, true, b16⟩
def d16 : Dn := ⟨"_law_read_frac", "_law_read_frac", top 23, ["_law_text_here", "_law_at", "_law_top", "_law_bottom", "_law_whole"], ["_law_text_here"]⟩
/-- _law_same -/
def b17_1 : S := .seq (.ret (.and (.cmp .IsNot (.var 0) (.con .non)) (.cmp .Eq (.bi .repr (.cs (.var 0) .nl)) (.bi .repr (.cs (.var 1) .nl))))) .nop
def b17_0 : S := .seq (.ite (.cmp .Is (.var 1) (.con .non)) (.seq (.ret (.cmp .Is (.var 0) (.con .non))) .nop) .nop) b17_1
def b17 : S := b17_0
def f17 : Fn := ⟨2, 2, true, b17⟩
def d17 : Dn := ⟨"_law_same", "_law_same", top 24, ["_law_found", "_law_due"], ["_law_found", "_law_due"]⟩
/-- _law_shown -/
def b18_11 : S := .seq (.ret (.cmp .Eq (.bi .repr (.cs (.cal 6 (.cs (.var 4) .nl)) .nl)) (.bi .repr (.cs (.tup (.cs (.var 1) (.cs (.var 2) .nl))) .nl)))) .nop
def b18_10 : S := .seq (.ite (.cmp .GtE (.bi .max2 (.cs (.bi .abs (.cs (.var 1) .nl)) (.cs (.var 2) .nl))) (.bin .Pow (.con (.int 10)) (.con (.int 30)))) (.seq (.ret (.cmp .Is (.cal 6 (.cs (.var 4) .nl)) (.con .non))) .nop) .nop) b18_11
def b18_9 : S := .seq (.ite (.or (.not (.tst (.bi .isi (.cs (.var 5) (.cs (.bt "str") .nl))))) (.or (.cmp .NotEq (.var 5) (.var 4)) (.cmp .NotEq (.cal 5 (.cs (.cal 4 (.cs (.var 1) (.cs (.var 2) .nl))) .nl)) (.var 4)))) (.seq (.ret (.con (.bl false))) .nop) .nop) b18_10
def b18_8 : S := .seq (.asg (.nm 5) (.cal 5 (.cs (.tup (.cs (.var 1) (.cs (.var 2) .nl))) .nl))) b18_9
def b18_7 : S := .seq (.ite (.cmp .Gt (.var 2) (.con (.int 1))) (.seq (.asg (.nm 4) (.bin .Add (.bin .Add (.var 4) (.con (.str "/"))) (.bi .str (.cs (.var 2) .nl)))) .nop) .nop) b18_8
def b18_6 : S := .seq (.asg (.nm 4) (.bi .str (.cs (.var 1) .nl))) b18_7
def b18_5 : S := .seq (.par 1 2 (.cs (.bin .FloorDiv (.var 1) (.var 3)) (.cs (.bin .FloorDiv (.var 2) (.var 3)) .nl))) b18_6
def b18_4 : S := .seq (.asg (.nm 3) (.cal 15 (.cs (.var 1) (.cs (.var 2) .nl)))) b18_5
def b18_3 : S := .seq (.ite (.cmp .Eq (.cal 9 (.cs (.var 0) (.cs (.con (.int 2)) .nl))) (.con (.int 0))) (.seq (.asg (.nm 1) (.bin .Sub (.cal 9 (.cs (.var 0) (.cs (.bin .Mult (.con (.int 2)) (.bin .Pow (.con (.int 10)) (.con (.int 6)))) .nl))) (.bin .Pow (.con (.int 10)) (.con (.int 6))))) (.seq (.asg (.nm 2) (.bin .Add (.con (.int 1)) (.cal 9 (.cs (.var 0) (.cs (.bin .Pow (.con (.int 10)) (.con (.int 3))) .nl))))) .nop)) .nop) b18_4
def b18_2 : S := .seq (.ite (.cmp .Eq (.cal 9 (.cs (.var 0) (.cs (.con (.int 3)) .nl))) (.con (.int 0))) (.seq (.asg (.nm 2) (.cal 10 (.cs (.var 0) (.cs (.ix (.lst false (.cs (.con (.int 2)) (.cs (.con (.int 3)) (.cs (.con (.int 42)) .nl)))) (.cal 9 (.cs (.var 0) (.cs (.con (.int 3)) .nl)))) .nl)))) .nop) .nop) b18_3
def b18_1 : S := .seq (.asg (.nm 2) (.bin .Add (.con (.int 1)) (.cal 9 (.cs (.var 0) (.cs (.con (.int 12)) .nl))))) b18_2
def b18_0 : S := .seq (.asg (.nm 1) (.bin .Mult (.bin .Sub (.cal 9 (.cs (.var 0) (.cs (.con (.int 3)) .nl))) (.con (.int 1))) (.cal 10 (.cs (.var 0) (.cs (.ix (.lst false (.cs (.con (.int 0)) (.cs (.con (.int 1)) (.cs (.con (.int 3)) (.cs (.con (.int 42)) .nl))))) (.cal 9 (.cs (.var 0) (.cs (.con (.int 4)) .nl)))) .nl))))) b18_1
def b18 : S := b18_0
def f18 : Fn := ⟨6, 1, true, b18⟩
def d18 : Dn := ⟨"_law_shown", "_law_shown", top 25, ["_law_box_here", "_law_top", "_law_bottom", "_law_shared", "_law_due", "_law_text_here"], ["_law_box_here"]⟩
/-- law -/
def b19w2_0 : S := .seq (.ite (.or (.not (.tst (.cal 17 (.cs (.cal 1 (.cs (.var 3) .nl)) (.cs (.cal 14 (.cs (.var 3) .nl)) .nl))))) (.not (.tst (.cal 17 (.cs (.cal 6 (.cs (.var 3) .nl)) (.cs (.cal 16 (.cs (.var 3) .nl)) .nl)))))) (.seq (.ret (.con (.bl false))) .nop) .nop) .nop
def b19w1_5 : S := .seq (.ite (.or (.cmp .IsNot (.cal 1 (.cs (.var 5) .nl)) (.con .non)) (.cmp .IsNot (.cal 6 (.cs (.var 5) .nl)) (.con .non))) (.seq (.ret (.con (.bl false))) .nop) .nop) .nop
def b19w1_4 : S := .seq (.asg (.nm 5) (.ix (.lst false (.cs (.con .non) (.cs (.con (.int 7)) (.cs (.con (.bl true)) (.cs (.lst false (.cs (.con (.str "7")) .nl)) (.cs (.tup (.cs (.con (.str "7")) .nl)) (.cs .d0 (.cs (.tup (.cs (.con (.int 7)) (.cs (.con (.int 1)) .nl))) (.cs (.con (.int 0)) .nl))))))))) (.cal 9 (.cs (.var 2) (.cs (.con (.int 8)) .nl))))) b19w1_5
def b19w1_3 : S := .seq (.ite (.not (.tst (.cal 18 (.cs (.var 2) .nl)))) (.seq (.ret (.con (.bl false))) .nop) .nop) b19w1_4
def b19w1_2 : S := .seq (.for_ (.nm 4) (.iRng (.cs (.con (.int 2)) .nl)) b19w2_0) b19w1_3
def b19w1_1 : S := .seq (.asg (.nm 3) (.cal 13 (.cs (.var 2) .nl))) b19w1_2
def b19w1_0 : S := .seq (.asg (.nm 2) (.cal 8 (.cs (.cal 7 (.cs (.var 0) (.cs (.var 1) .nl))) .nl))) b19w1_1
def b19_1 : S := .seq (.ret (.con (.bl true))) .nop
def b19_0 : S := .seq (.for_ (.nm 1) (.iRng (.cs (.bi .max2 (.cs (.con (.int 2)) (.cs (.bi .min2 (.cs (.con (.int 30)) (.cs (.bi .len (.cs (.var 0) .nl)) .nl))) .nl))) .nl)) (.scope b19w1_0)) b19_1
def b19 : S := b19_0
def f19 : Fn := ⟨6, 1, true, b19⟩
def d19 : Dn := ⟨"law", "law", top 26, ["_law_script", "_law_k", "_law_box_here", "_law_text_here", "_law_turn", "_law_thing"], ["_law_script"]⟩
def P : List Fn := [f0, f1, f2, f3, f4, f5, f6, f7, f8, f9, f10, f11, f12, f13, f14, f15, f16, f17, f18, f19]
def D : List Dn := [d0, d1, d2, d3, d4, d5, d6, d7, d8, d9, d10, d11, d12, d13, d14, d15, d16, d17, d18, d19]
def fnN : List Str := [("is_whole" : Str), ("whole_of" : Str), ("common" : Str), ("lowest" : Str), ("frac" : Str), ("frac_text" : Str), ("frac_of" : Str), ("_law_cell" : Str), ("_law_box" : Str), ("_law_take" : Str), ("_law_great" : Str), ("_law_page" : Str), ("_law_figures" : Str), ("_law_text" : Str), ("_law_read" : Str), ("_law_common" : Str), ("_law_read_frac" : Str), ("_law_same" : Str), ("_law_shown" : Str), ("law" : Str)]
def bn : List Str := ["abs", "bool", "int", "isinstance", "len", "max", "min", "range", "repr", "str"]
def gl : List Str := ["FIGURES"]
def cn : List Str := ["ShapeError", "NoFraction"]
def gvT : List (Str × Val) := [("FIGURES", (.str "0123456789"))]
def subT : List (List Bool) := [[true, false], [true, true]]
def mtT : List ((Nat × Str) × Nat) := []
def flT : List (List Str) := [[], []]
def xfT : List (Option Str) := [none, some "found"]
def isXT : List Bool := [true, true]
def isCT : List Bool := [false, false]
def isIT : List Bool := [false, false]
def tb : Tb := ⟨fun x => gvT.lookup x, fun i j => (subT.getD i []).getD j false, fun _ _ => true, fun i => flT.getD i [], fun i m => mtT.lookup (i, m), fun i => xfT.getD i none, fun i => isXT.getD i false, fun i => isCT.getD i false, fun t => [].contains t, fun i => isIT.getD i false⟩
theorem gv_0 : tb.gv "FIGURES" = some (.str "0123456789") := rr rfl
theorem tisX_0 : tb.isX 0 = true := rr rfl
theorem txf_0 : tb.xf 0 = none := rr rfl
theorem tsub_0_0 : tb.sub 0 0 = true := rr rfl
theorem tsub_0_1 : tb.sub 0 1 = false := rr rfl
theorem traise_0 (P : List Fn) (W n : Nat) : raisOk (cfAt P W tb n) 0 .nl = true := raisOk_0 tisX_0 txf_0
theorem tisX_1 : tb.isX 1 = true := rr rfl
theorem txf_1 : tb.xf 1 = some "found" := rr rfl
theorem tsub_1_0 : tb.sub 1 0 = true := rr rfl
theorem tsub_1_1 : tb.sub 1 1 = true := rr rfl
theorem traise_1 (P : List Fn) (W n : Nat) (a : E) : raisOk (cfAt P W tb (n + 2)) 1 (.cs a .nl) = true := raisOk_1 tisX_1 txf_1
theorem ok0 : okDef fnN bn gl cn d0 f0 = true := by decide +kernel
theorem sc0 : FnScope d0.N d0.ps (defScope d0.st) := ⟨rfl, rfl, rfl, by decide +kernel, rfl, by decide +kernel, by decide +kernel⟩
theorem ok1 : okDef fnN bn gl cn d1 f1 = true := by decide +kernel
theorem sc1 : FnScope d1.N d1.ps (defScope d1.st) := ⟨rfl, rfl, rfl, by decide +kernel, rfl, by decide +kernel, by decide +kernel⟩
theorem ok2 : okDef fnN bn gl cn d2 f2 = true := by decide +kernel
theorem sc2 : FnScope d2.N d2.ps (defScope d2.st) := ⟨rfl, rfl, rfl, by decide +kernel, rfl, by decide +kernel, by decide +kernel⟩
theorem ok3 : okDef fnN bn gl cn d3 f3 = true := by decide +kernel
theorem sc3 : FnScope d3.N d3.ps (defScope d3.st) := ⟨rfl, rfl, rfl, by decide +kernel, rfl, by decide +kernel, by decide +kernel⟩
theorem ok4 : okDef fnN bn gl cn d4 f4 = true := by decide +kernel
theorem sc4 : FnScope d4.N d4.ps (defScope d4.st) := ⟨rfl, rfl, rfl, by decide +kernel, rfl, by decide +kernel, by decide +kernel⟩
theorem ok5 : okDef fnN bn gl cn d5 f5 = true := by decide +kernel
theorem sc5 : FnScope d5.N d5.ps (defScope d5.st) := ⟨rfl, rfl, rfl, by decide +kernel, rfl, by decide +kernel, by decide +kernel⟩
theorem ok6 : okDef fnN bn gl cn d6 f6 = true := by decide +kernel
theorem sc6 : FnScope d6.N d6.ps (defScope d6.st) := ⟨rfl, rfl, rfl, by decide +kernel, rfl, by decide +kernel, by decide +kernel⟩
theorem ok7 : okDef fnN bn gl cn d7 f7 = true := by decide +kernel
theorem sc7 : FnScope d7.N d7.ps (defScope d7.st) := ⟨rfl, rfl, rfl, by decide +kernel, rfl, by decide +kernel, by decide +kernel⟩
theorem ok8 : okDef fnN bn gl cn d8 f8 = true := by decide +kernel
theorem sc8 : FnScope d8.N d8.ps (defScope d8.st) := ⟨rfl, rfl, rfl, by decide +kernel, rfl, by decide +kernel, by decide +kernel⟩
theorem ok9 : okDef fnN bn gl cn d9 f9 = true := by decide +kernel
theorem sc9 : FnScope d9.N d9.ps (defScope d9.st) := ⟨rfl, rfl, rfl, by decide +kernel, rfl, by decide +kernel, by decide +kernel⟩
theorem ok10 : okDef fnN bn gl cn d10 f10 = true := by decide +kernel
theorem sc10 : FnScope d10.N d10.ps (defScope d10.st) := ⟨rfl, rfl, rfl, by decide +kernel, rfl, by decide +kernel, by decide +kernel⟩
theorem ok11 : okDef fnN bn gl cn d11 f11 = true := by decide +kernel
theorem sc11 : FnScope d11.N d11.ps (defScope d11.st) := ⟨rfl, rfl, rfl, by decide +kernel, rfl, by decide +kernel, by decide +kernel⟩
theorem ok12 : okDef fnN bn gl cn d12 f12 = true := by decide +kernel
theorem sc12 : FnScope d12.N d12.ps (defScope d12.st) := ⟨rfl, rfl, rfl, by decide +kernel, rfl, by decide +kernel, by decide +kernel⟩
theorem ok13 : okDef fnN bn gl cn d13 f13 = true := by decide +kernel
theorem sc13 : FnScope d13.N d13.ps (defScope d13.st) := ⟨rfl, rfl, rfl, by decide +kernel, rfl, by decide +kernel, by decide +kernel⟩
theorem ok14 : okDef fnN bn gl cn d14 f14 = true := by decide +kernel
theorem sc14 : FnScope d14.N d14.ps (defScope d14.st) := ⟨rfl, rfl, rfl, by decide +kernel, rfl, by decide +kernel, by decide +kernel⟩
theorem ok15 : okDef fnN bn gl cn d15 f15 = true := by decide +kernel
theorem sc15 : FnScope d15.N d15.ps (defScope d15.st) := ⟨rfl, rfl, rfl, by decide +kernel, rfl, by decide +kernel, by decide +kernel⟩
theorem ok16 : okDef fnN bn gl cn d16 f16 = true := by decide +kernel
theorem sc16 : FnScope d16.N d16.ps (defScope d16.st) := ⟨rfl, rfl, rfl, by decide +kernel, rfl, by decide +kernel, by decide +kernel⟩
theorem ok17 : okDef fnN bn gl cn d17 f17 = true := by decide +kernel
theorem sc17 : FnScope d17.N d17.ps (defScope d17.st) := ⟨rfl, rfl, rfl, by decide +kernel, rfl, by decide +kernel, by decide +kernel⟩
theorem ok18 : okDef fnN bn gl cn d18 f18 = true := by decide +kernel
theorem sc18 : FnScope d18.N d18.ps (defScope d18.st) := ⟨rfl, rfl, rfl, by decide +kernel, rfl, by decide +kernel, by decide +kernel⟩
theorem ok19 : okDef fnN bn gl cn d19 f19 = true := by decide +kernel
theorem sc19 : FnScope d19.N d19.ps (defScope d19.st) := ⟨rfl, rfl, rfl, by decide +kernel, rfl, by decide +kernel, by decide +kernel⟩
def lev : Nat := 12

end MP.G
namespace MP.G
open PySem
local macro_rules | `(tactic| walk_at "mp") => `(tactic| try simp only [e_var, e_con, e_bt, e_glo, e_d0, e_d1, e_tup, e_lst, e_bin, e_neg, e_cmp, e_chn, e_sl, e_lc, e_and, e_or, e_not, e_ife, e_rev, rev_t, e_cal, e_bi, e_bm, e_ix, es_nl, es_cs, o_nl, o_cs, t_nl, t_and, t_or, t_not, t_cmp, t_chn, t_tst, i_seq, i_rng, r_unl, asL_r, asL_l, e_cl, e_new, e_fld, e_mth, e_xf, e_xi, e_xt, e_isC, e_tm, e_itx, e_fmt, e_fst, strV_s, tm_sw, tm_find, e_lH, e_xiT, xk_x, xkG_n, xiT_2, i_zip, i_enu, r_brk, r_setf, r_rais, r_tri, cf_call, cf_call1, cf_W, cf_t, cf_lv, cx_t, tri_nx, tri_rt, tri_bk, tri_exc, slot_s, slot_n, unx_s, unx_n, unx_r, xf_x, xfO_n, xi_x, xiO_n, xt_x, xtO_n, rais_0, rais_1, new_v, newO_i, setf_r, bi_any, bi_all, bi_tup, bi_lst, bi_repr, bi_str, zip_t, zip_l, zip_tl, rv_ins, rv_cls, rv_dct, isLst_l, r_nop, r_seq, r_asg, r_asgc, r_par, r_setix, r_ret, r_exp, r_ite, r_whl, r_for, r_scope, r_gif, r_aug, intO_i, st_nm, st_tup, st_nl, st_cs, st_2, bin_ii, bin_add, bin_sub, bin_ss, bin_tt, cmp_ii, cmp_eq, cmp_ne, cmp_lt, cmp_le, cmp_gt, cmp_ge, cmp_ss, cs_eq, cs_ne, cs_lt, cs_gt, cs_in, cs_nin, seq_lst, seq_rol, seq_tup, bi_abs, bi_max, bi_min, bi_int_i, bi_int_b, bi_len_l, bi_len_r, bi_len_t, bi_len_h, bi_isi, ty_non, ty_bl, ty_int, ty_str, ty_tup, ty_lst, ty_rol, ty_dct, bm_bits, bt_bits, bt_rev, bt_app, bt_join, bm_join, kit_int_int, kit_int_bool, kit_int_str, kit_int_list, kit_int_tuple, kit_int_dict, kit_bool_int, kit_bool_bool, kit_bool_str, kit_bool_list, kit_bool_tuple, kit_bool_dict, kit_str_int, kit_str_bool, kit_str_str, kit_str_list, kit_str_tuple, kit_str_dict, kit_none_int, kit_none_bool, kit_none_str, kit_none_list, kit_none_tuple, kit_none_dict, kit_list_int, kit_list_bool, kit_list_str, kit_list_list, kit_list_tuple, kit_list_dict, kit_tuple_int, kit_tuple_bool, kit_tuple_str, kit_tuple_list, kit_tuple_tuple, kit_tuple_dict, kit_dict_int, kit_dict_bool, kit_dict_str, kit_dict_list, kit_dict_tuple, kit_dict_dict, seqI_l, seqI_r, seqI_t, seqI_s, varR_ok, andR_t, andR_f, orR_t, orR_f, notR_b, negR_i, partR_i, tru_b, tru_i, tru_n, ixR_l, ixR_r, ixR_t, ixR_h, at0, at1, at2, at3, at4, at5, at6, at7, at8, at9, at10, at11, at12, at13, bind_ok, bind_exc, bind_bad, noX_ok, noX_bad, opt_some, opt_none, out_ok, out_exc, out_bad, oopt_some, oopt_none, thn_nx, thn_rt, thn_bk, thn_ct, thn_exc, thn_bad, turn_nx, turn_ct, turn_bk, turn_rt, turn_exc, turn_bad, trim_nx, trim_bk, trim_ct, trim_rt, trim_exc, trim_bad, end_nx, end_rt, end_exc, objL_s, seq_refO, setix_ref, setL_0, setL_1, setL_2, bm_rev, Option.map_some, List.reverse_cons, List.reverse_nil, fl_nil, fl_cons, tupR_v, lstR_v, lstR_h, rl_nil, rl_cons, rv_int, rv_bl, rv_non, rv_str, rv_tup, rv_lst, Bool.and_self, Bool.and_true, Bool.true_and, List.length_cons, List.length_nil, Nat.zero_add, Nat.reduceAdd, Nat.reduceLeDiff, p10_6, p10_9, p10_10, p10_12, p10_18, p10_27, p10_30, List.getElem?_cons_zero, List.getElem?_cons_succ, List.set_cons_zero, List.set_cons_succ, List.map_cons, List.map_nil, List.cons_append, List.nil_append, List.append_nil, List.replicate, Nat.sub_self, Nat.reduceSub, Option.bind_some, decide_true, decide_false, Bool.not_true, Bool.not_false, if_true, if_false, Bool.false_eq_true, ↓reduceIte, reduceCtorEq, gv_0, tisX_0, txf_0, tsub_0_0, tsub_0_1, traise_0, tisX_1, txf_1, tsub_1_0, tsub_1_1, traise_1])
local macro_rules | `(tactic| walk_at "mph") => `(tactic| try simp only [*, bin_mod, bin_mul, ne_eq, Int.reduceEq, not_false_eq_true, e_var, e_con, e_bt, e_glo, e_d0, e_d1, e_tup, e_lst, e_bin, e_neg, e_cmp, e_chn, e_sl, e_lc, e_and, e_or, e_not, e_ife, e_rev, rev_t, e_cal, e_bi, e_bm, e_ix, es_nl, es_cs, o_nl, o_cs, t_nl, t_and, t_or, t_not, t_cmp, t_chn, t_tst, i_seq, i_rng, r_unl, asL_r, asL_l, e_cl, e_new, e_fld, e_mth, e_xf, e_xi, e_xt, e_isC, e_tm, e_itx, e_fmt, e_fst, strV_s, tm_sw, tm_find, e_lH, e_xiT, xk_x, xkG_n, xiT_2, i_zip, i_enu, r_brk, r_setf, r_rais, r_tri, cf_call, cf_call1, cf_W, cf_t, cf_lv, cx_t, tri_nx, tri_rt, tri_bk, tri_exc, slot_s, slot_n, unx_s, unx_n, unx_r, xf_x, xfO_n, xi_x, xiO_n, xt_x, xtO_n, rais_0, rais_1, new_v, newO_i, setf_r, bi_any, bi_all, bi_tup, bi_lst, bi_repr, bi_str, zip_t, zip_l, zip_tl, rv_ins, rv_cls, rv_dct, isLst_l, r_nop, r_seq, r_asg, r_asgc, r_par, r_setix, r_ret, r_exp, r_ite, r_whl, r_for, r_scope, r_gif, r_aug, intO_i, st_nm, st_tup, st_nl, st_cs, st_2, bin_ii, bin_add, bin_sub, bin_ss, bin_tt, cmp_ii, cmp_eq, cmp_ne, cmp_lt, cmp_le, cmp_gt, cmp_ge, cmp_ss, cs_eq, cs_ne, cs_lt, cs_gt, cs_in, cs_nin, seq_lst, seq_rol, seq_tup, bi_abs, bi_max, bi_min, bi_int_i, bi_int_b, bi_len_l, bi_len_r, bi_len_t, bi_len_h, bi_isi, ty_non, ty_bl, ty_int, ty_str, ty_tup, ty_lst, ty_rol, ty_dct, bm_bits, bt_bits, bt_rev, bt_app, bt_join, bm_join, kit_int_int, kit_int_bool, kit_int_str, kit_int_list, kit_int_tuple, kit_int_dict, kit_bool_int, kit_bool_bool, kit_bool_str, kit_bool_list, kit_bool_tuple, kit_bool_dict, kit_str_int, kit_str_bool, kit_str_str, kit_str_list, kit_str_tuple, kit_str_dict, kit_none_int, kit_none_bool, kit_none_str, kit_none_list, kit_none_tuple, kit_none_dict, kit_list_int, kit_list_bool, kit_list_str, kit_list_list, kit_list_tuple, kit_list_dict, kit_tuple_int, kit_tuple_bool, kit_tuple_str, kit_tuple_list, kit_tuple_tuple, kit_tuple_dict, kit_dict_int, kit_dict_bool, kit_dict_str, kit_dict_list, kit_dict_tuple, kit_dict_dict, seqI_l, seqI_r, seqI_t, seqI_s, varR_ok, andR_t, andR_f, orR_t, orR_f, notR_b, negR_i, partR_i, tru_b, tru_i, tru_n, ixR_l, ixR_r, ixR_t, ixR_h, at0, at1, at2, at3, at4, at5, at6, at7, at8, at9, at10, at11, at12, at13, bind_ok, bind_exc, bind_bad, noX_ok, noX_bad, opt_some, opt_none, out_ok, out_exc, out_bad, oopt_some, oopt_none, thn_nx, thn_rt, thn_bk, thn_ct, thn_exc, thn_bad, turn_nx, turn_ct, turn_bk, turn_rt, turn_exc, turn_bad, trim_nx, trim_bk, trim_ct, trim_rt, trim_exc, trim_bad, end_nx, end_rt, end_exc, objL_s, seq_refO, setix_ref, setL_0, setL_1, setL_2, bm_rev, Option.map_some, List.reverse_cons, List.reverse_nil, fl_nil, fl_cons, tupR_v, lstR_v, lstR_h, rl_nil, rl_cons, rv_int, rv_bl, rv_non, rv_str, rv_tup, rv_lst, Bool.and_self, Bool.and_true, Bool.true_and, List.length_cons, List.length_nil, Nat.zero_add, Nat.reduceAdd, Nat.reduceLeDiff, p10_6, p10_9, p10_10, p10_12, p10_18, p10_27, p10_30, List.getElem?_cons_zero, List.getElem?_cons_succ, List.set_cons_zero, List.set_cons_succ, List.map_cons, List.map_nil, List.cons_append, List.nil_append, List.append_nil, List.replicate, Nat.sub_self, Nat.reduceSub, Option.bind_some, decide_true, decide_false, Bool.not_true, Bool.not_false, if_true, if_false, Bool.false_eq_true, ↓reduceIte, reduceCtorEq, gv_0, tisX_0, txf_0, tsub_0_0, tsub_0_1, traise_0, tisX_1, txf_1, tsub_1_0, tsub_1_1, traise_1])
local macro_rules | `(tactic| walk_at "mpi") => `(tactic| try simp only [Int.reduceEq, Int.reduceLT, Int.reduceLE, Int.reduceAdd, ne_eq, not_true_eq_false, not_false_eq_true, e_var, e_con, e_bt, e_glo, e_d0, e_d1, e_tup, e_lst, e_bin, e_neg, e_cmp, e_chn, e_sl, e_lc, e_and, e_or, e_not, e_ife, e_rev, rev_t, e_cal, e_bi, e_bm, e_ix, es_nl, es_cs, o_nl, o_cs, t_nl, t_and, t_or, t_not, t_cmp, t_chn, t_tst, i_seq, i_rng, r_unl, asL_r, asL_l, e_cl, e_new, e_fld, e_mth, e_xf, e_xi, e_xt, e_isC, e_tm, e_itx, e_fmt, e_fst, strV_s, tm_sw, tm_find, e_lH, e_xiT, xk_x, xkG_n, xiT_2, i_zip, i_enu, r_brk, r_setf, r_rais, r_tri, cf_call, cf_call1, cf_W, cf_t, cf_lv, cx_t, tri_nx, tri_rt, tri_bk, tri_exc, slot_s, slot_n, unx_s, unx_n, unx_r, xf_x, xfO_n, xi_x, xiO_n, xt_x, xtO_n, rais_0, rais_1, new_v, newO_i, setf_r, bi_any, bi_all, bi_tup, bi_lst, bi_repr, bi_str, zip_t, zip_l, zip_tl, rv_ins, rv_cls, rv_dct, isLst_l, r_nop, r_seq, r_asg, r_asgc, r_par, r_setix, r_ret, r_exp, r_ite, r_whl, r_for, r_scope, r_gif, r_aug, intO_i, st_nm, st_tup, st_nl, st_cs, st_2, bin_ii, bin_add, bin_sub, bin_ss, bin_tt, cmp_ii, cmp_eq, cmp_ne, cmp_lt, cmp_le, cmp_gt, cmp_ge, cmp_ss, cs_eq, cs_ne, cs_lt, cs_gt, cs_in, cs_nin, seq_lst, seq_rol, seq_tup, bi_abs, bi_max, bi_min, bi_int_i, bi_int_b, bi_len_l, bi_len_r, bi_len_t, bi_len_h, bi_isi, ty_non, ty_bl, ty_int, ty_str, ty_tup, ty_lst, ty_rol, ty_dct, bm_bits, bt_bits, bt_rev, bt_app, bt_join, bm_join, kit_int_int, kit_int_bool, kit_int_str, kit_int_list, kit_int_tuple, kit_int_dict, kit_bool_int, kit_bool_bool, kit_bool_str, kit_bool_list, kit_bool_tuple, kit_bool_dict, kit_str_int, kit_str_bool, kit_str_str, kit_str_list, kit_str_tuple, kit_str_dict, kit_none_int, kit_none_bool, kit_none_str, kit_none_list, kit_none_tuple, kit_none_dict, kit_list_int, kit_list_bool, kit_list_str, kit_list_list, kit_list_tuple, kit_list_dict, kit_tuple_int, kit_tuple_bool, kit_tuple_str, kit_tuple_list, kit_tuple_tuple, kit_tuple_dict, kit_dict_int, kit_dict_bool, kit_dict_str, kit_dict_list, kit_dict_tuple, kit_dict_dict, seqI_l, seqI_r, seqI_t, seqI_s, varR_ok, andR_t, andR_f, orR_t, orR_f, notR_b, negR_i, partR_i, tru_b, tru_i, tru_n, ixR_l, ixR_r, ixR_t, ixR_h, at0, at1, at2, at3, at4, at5, at6, at7, at8, at9, at10, at11, at12, at13, bind_ok, bind_exc, bind_bad, noX_ok, noX_bad, opt_some, opt_none, out_ok, out_exc, out_bad, oopt_some, oopt_none, thn_nx, thn_rt, thn_bk, thn_ct, thn_exc, thn_bad, turn_nx, turn_ct, turn_bk, turn_rt, turn_exc, turn_bad, trim_nx, trim_bk, trim_ct, trim_rt, trim_exc, trim_bad, end_nx, end_rt, end_exc, objL_s, seq_refO, setix_ref, setL_0, setL_1, setL_2, bm_rev, Option.map_some, List.reverse_cons, List.reverse_nil, fl_nil, fl_cons, tupR_v, lstR_v, lstR_h, rl_nil, rl_cons, rv_int, rv_bl, rv_non, rv_str, rv_tup, rv_lst, Bool.and_self, Bool.and_true, Bool.true_and, List.length_cons, List.length_nil, Nat.zero_add, Nat.reduceAdd, Nat.reduceLeDiff, p10_6, p10_9, p10_10, p10_12, p10_18, p10_27, p10_30, List.getElem?_cons_zero, List.getElem?_cons_succ, List.set_cons_zero, List.set_cons_succ, List.map_cons, List.map_nil, List.cons_append, List.nil_append, List.append_nil, List.replicate, Nat.sub_self, Nat.reduceSub, Option.bind_some, decide_true, decide_false, Bool.not_true, Bool.not_false, if_true, if_false, Bool.false_eq_true, ↓reduceIte, reduceCtorEq, gv_0, tisX_0, txf_0, tsub_0_0, tsub_0_1, traise_0, tisX_1, txf_1, tsub_1_0, tsub_1_1, traise_1])
theorem dataL_strs : ∀ zs : List Str, dataL (zs.map .str) = some (zs.map PyData.str)
  | [] => rfl
  | z :: zs => by
    show ((data0 (.str z)).bind fun d => (dataL (zs.map .str)).map fun ds => d :: ds) = _
    rw [dataL_strs zs]
    rfl
theorem lay_strs : ∀ zs : List Str, (∀ z ∈ zs, PyData.strOk z = true) → PyData.canLayAll0 (zs.map PyData.str) = true ∧ PyData.depthAll (zs.map PyData.str) = 0
  | [], _ => ⟨rfl, rfl⟩
  | z :: zs, h => by
    obtain ⟨a, b⟩ := lay_strs zs fun y hy => h y (List.mem_cons_of_mem _ hy)
    refine ⟨?_, ?_⟩
    · show (PyData.strOk z && PyData.canLayAll0 (zs.map PyData.str)) = true
      rw [a, h z (by simp)]
      rfl
    · show max 0 (PyData.depthAll (zs.map PyData.str)) = 0
      rw [b]
      rfl
theorem eq_nil {h : Heap} {zs : List Str} (hz : ∀ z ∈ zs, PyData.strOk z = true) : cmpop h .Eq (.lst (zs.map .str)) (.lst []) = some zs.isEmpty := by
  show eqD h (.lst (zs.map .str)) (.lst []) = _
  have e1 : dataV h (.lst (zs.map .str)) = some (.list (zs.map PyData.str)) := by
    show (dataL (zs.map .str)).map PyData.list = _
    rw [dataL_strs]
    rfl
  have e2 : dataV h (.lst []) = some (.list []) := rfl
  obtain ⟨a, b⟩ := lay_strs zs hz
  have s1 : SeqAt.shaped (.list (zs.map PyData.str)) = true := by
    show (PyData.canLayAll0 (zs.map PyData.str) && decide (PyData.depthAll (zs.map PyData.str) + 1 ≤ 64)) = true
    rw [a, b]
    rfl
  unfold eqD
  rw [e1, e2]
  show (if SeqAt.shaped (.list (zs.map PyData.str)) = true ∧ SeqAt.shaped (.list []) = true then some (PyData.eqv (.list (zs.map PyData.str)) (.list [])) else none) = _
  rw [if_pos ⟨s1, rfl⟩]
  cases zs <;> rfl
theorem ok_sign {c : Nat} (h : c < 128) : PyData.strOk ⟨#[c]⟩ = true := by
  show (#[c].all (· < 0x110000)) = true
  simp
  omega
theorem in_sign (x : Str) (c : Nat) : strIn ⟨#[c]⟩ x = decide (c ∈ x.cps.toList) := PySem.StrLaws.found_one x c
open PySem.NumText in
/-! ### texts of numbers, as rows of signs -/
abbrev ts (x : Str) : List Nat := x.cps.toList
def mkS (l : List Nat) : Str := ⟨l.toArray⟩
theorem ts_mk (l : List Nat) : ts (mkS l) = l := rfl
theorem mk_ts (x : Str) : mkS (ts x) = x := TL.ext_tl rfl
theorem mkS_len (l : List Nat) : (mkS l).length = l.length := by
  show (l.toArray).size = _
  simp
theorem ts_len (x : Str) : (ts x).length = x.length := by
  show x.cps.toList.length = x.cps.size
  simp
/-- without its minus -/
def fg (l : List Nat) : List Nat := if l.head? = some 45 then l.tail else l
def okF (l : List Nat) : Bool := (decide (1 ≤ l.length) && decide (l.length ≤ 30)) && l.all fun c => decide (48 ≤ c) && decide (c ≤ 57)
def rd (l : List Nat) : Option Int :=
  if okF (fg l) && !(decide ((fg l).head? = some 48) && !decide (l = [48])) then some (if l.head? = some 45 then -((NumText.digitsVal (fg l) : Nat) : Int) else ((NumText.digitsVal (fg l) : Nat) : Int)) else none
def rdV (l : List Nat) : Val := match rd l with
  | some i => .int i
  | none => .non
theorem ne_LL (h : Heap) (xs ys : List Val) : cmpop h .NotEq (.lst xs) (.lst ys) = (cmpop h .Eq (.lst xs) (.lst ys)).map (!·) := rfl
theorem eq_S (x : Str) (l : List Nat) : decide (x = mkS l) = decide (ts x = l) := by
  by_cases c : ts x = l
  · rw [decide_eq_true c, decide_eq_true (by rw [← c, mk_ts])]
  · rw [decide_eq_false c, decide_eq_false fun z => c (by rw [z]; rfl)]
theorem cut_1 (x : Str) : L2.cutS x (some 1) none = mkS ((ts x).drop 1) := by
  have e1 : HT.sIx x.length 0 (some 1) = min 1 x.length := HT.sIx_nat x.length 0 1
  have e2 : HT.sIx x.length x.length none = x.length := rfl
  have hl := ts_len x
  have L : ((ts x).drop (min 1 x.length)).take (x.length - min 1 x.length) = (ts x).drop 1 := by
    rcases Nat.eq_zero_or_pos x.length with z | z
    · have : ts x = [] := List.eq_nil_of_length_eq_zero (by omega)
      rw [this]
      simp
    · rw [Nat.min_eq_left (by omega), List.take_of_length_le (by rw [List.length_drop]; omega)]
  show mkS (((ts x).drop (HT.sIx x.length 0 (some 1))).take (HT.sIx x.length x.length none - HT.sIx x.length 0 (some 1))) = _
  rw [e1, e2, L]
theorem cut_h (x : Str) : L2.cutS x none (some 1) = mkS ((ts x).take 1) := by
  have e1 : HT.sIx x.length 0 none = 0 := rfl
  have e2 : HT.sIx x.length x.length (some 1) = min 1 x.length := HT.sIx_nat x.length x.length 1
  have hl := ts_len x
  have L : (ts x).take (min 1 x.length) = (ts x).take 1 := by
    rcases Nat.eq_zero_or_pos x.length with z | z
    · have : ts x = [] := List.eq_nil_of_length_eq_zero (by omega)
      rw [this]
      simp
    · rw [Nat.min_eq_left (by omega)]
  show mkS (((ts x).drop (HT.sIx x.length 0 none)).take (HT.sIx x.length x.length (some 1) - HT.sIx x.length 0 none)) = _
  rw [e1, e2, List.drop_zero, Nat.sub_zero, L]
theorem sw_minus (x : Str) : Txt.startswith x "-" = decide ((ts x).head? = some 45) := by
  unfold Txt.startswith
  rw [PySem.StrLaws.subAt_eq]
  have e : ("-" : Str).cps.toList = [45] := by decide +kernel
  have l1 : ("-" : Str).length = 1 := by decide +kernel
  rw [e, l1, List.drop_zero, ← ts_len]
  show (decide (0 + 1 ≤ (ts x).length) && ((ts x).take 1 == [45])) = _
  cases ts x with
  | nil => rfl
  | cons c r =>
    show (decide (0 + 1 ≤ r.length + 1) && ([c] == [45])) = decide (some c = some 45)
    rw [decide_eq_true (by omega), Bool.true_and]
    by_cases z : c = 45
    · subst z; rfl
    · rw [decide_eq_false (by simpa using z)]
      simp [z]
theorem head_minus (x : Str) : decide (L2.cutS x none (some 1) = ("-" : Str)) = decide ((ts x).head? = some 45) := by
  have e : ("-" : Str) = mkS [45] := by decide +kernel
  rw [cut_h, e, eq_S, ts_mk]
  cases ts x with
  | nil => rfl
  | cons c r =>
    show decide ([c] = [45]) = decide (some c = some 45)
    by_cases z : c = 45
    · subst z; rfl
    · rw [decide_eq_false (by simpa using z), decide_eq_false (by simpa using z)]
theorem figs_in (c : Nat) : strIn ⟨#[c]⟩ ("0123456789" : Str) = (decide (48 ≤ c) && decide (c ≤ 57)) := by
  rw [in_sign]
  have e : ("0123456789" : Str).cps.toList = (List.range 10).map (· + 48) := by decide +kernel
  rw [e]
  by_cases z : 48 ≤ c ∧ c ≤ 57
  · rw [decide_eq_true z.1, decide_eq_true z.2]
    refine decide_eq_true ?_
    exact List.mem_map.mpr ⟨c - 48, List.mem_range.mpr (by omega), by omega⟩
  · have : ¬ c ∈ (List.range 10).map (· + 48) := fun m => by
      obtain ⟨j, mj, rfl⟩ := List.mem_map.mp m
      have := List.mem_range.mp mj
      exact z ⟨by omega, by omega⟩
    rw [decide_eq_false this]
    by_cases z1 : 48 ≤ c
    · rw [decide_eq_true z1, decide_eq_false (by omega)]
      rfl
    · rw [decide_eq_false z1]
      rfl
theorem fig_index {c : Nat} (h1 : 48 ≤ c) (h2 : c ≤ 57) : Txt.index0 ("0123456789" : Str) ⟨#[c]⟩ = some (c - 48) := by
  have : ∀ d : Fin 10, Txt.index0 ("0123456789" : Str) ⟨#[48 + d.val]⟩ = some d.val := by decide +kernel
  have := this ⟨c - 48, by omega⟩
  rw [show 48 + (c - 48) = c by omega] at this
  exact this
/-- a text of few plain signs -/
structure Asc (x : Str) : Prop where
  sg : ∀ c ∈ ts x, c < 128
  len : x.length ≤ 1000
theorem Asc.drop {x : Str} (a : Asc x) (n : Nat) : Asc (mkS ((ts x).drop n)) := ⟨fun c m => a.sg c (List.mem_of_mem_drop m), by
  rw [mkS_len, List.length_drop, ts_len]
  have := a.len
  omega⟩
theorem Asc.take {x : Str} (a : Asc x) (n : Nat) : Asc (mkS ((ts x).take n)) := ⟨fun c m => a.sg c (List.mem_of_mem_take m), by
  rw [mkS_len, List.length_take, ts_len]
  have := a.len
  omega⟩
theorem Asc.fg {x : Str} (a : Asc x) : Asc (mkS (fg (ts x))) := by
  unfold MP.G.fg
  split
  · have := a.drop 1
    rwa [List.drop_one] at this
  · rw [mk_ts]
    exact a
theorem one_sign (c : Nat) : (⟨#[c]⟩ : Str) = mkS [c] := rfl
theorem figs_all (l : List Nat) : (l.filter fun c => !(decide (48 ≤ c) && decide (c ≤ 57))).isEmpty = l.all fun c => decide (48 ≤ c) && decide (c ≤ 57) := by
  rw [Bool.eq_iff_iff, List.isEmpty_iff, List.filter_eq_nil_iff, List.all_eq_true]
  simp
theorem rd_int {x : Str} {i : Int} (h : rd (ts x) = some i) : itxO x = some i := by
  unfold rd at h
  split at h
  · rename_i c
    rw [Bool.and_eq_true] at c
    obtain ⟨c1, _⟩ := c
    unfold okF at c1
    rw [Bool.and_eq_true, Bool.and_eq_true, decide_eq_true_eq, decide_eq_true_eq] at c1
    obtain ⟨⟨l1, l2⟩, l3⟩ := c1
    have ad : NumText.AllDigits (fg (ts x)) := fun c m => by
      have := List.all_eq_true.mp l3 c m
      rw [Bool.and_eq_true, decide_eq_true_eq, decide_eq_true_eq] at this
      exact this
    have ne : fg (ts x) ≠ [] := fun z => by rw [z] at l1; exact absurd l1 (by decide)
    by_cases m : (ts x).head? = some 45
    · rw [if_pos m] at h
      have ef : fg (ts x) = (ts x).tail := if_pos m
      rw [ef] at h l2 ad ne
      obtain ⟨r, er⟩ : ∃ r, ts x = 45 :: r := by
        cases e : ts x with
        | nil => rw [e] at m; cases m
        | cons c r => rw [e] at m; cases m; exact ⟨r, rfl⟩
      rw [er, List.tail_cons] at h l2 ad ne
      have lx : x.length ≤ 640 := by rw [← ts_len, er, List.length_cons]; omega
      unfold itxO
      rw [if_pos lx, PySem.intText_neg er ad ne (by omega)]
      exact h
    · rw [if_neg m] at h
      have ef : fg (ts x) = ts x := if_neg m
      rw [ef] at h l2 ad ne
      have lx : x.length ≤ 640 := by rw [← ts_len]; omega
      unfold itxO
      rw [if_pos lx, PySem.intText_digits ad ne (by omega)]
      exact h
  · cases h
section
variable {W k : Nat} {h : Heap}
theorem bad_row {l : Loc} {i : Nat} {g : Str} {e1 : E} (hg : ∀ (h : Heap) (c : Nat), evalT (cfAt P W tb k) e1 (l.set i (some (.str ⟨#[c]⟩))) h = .ok (!(decide (48 ≤ c) && decide (c ≤ 57))) h) (hi : ∀ v, (l.set i (some v))[i]? = some (some v)) {ls : List Nat} (hl : ls.length ≤ 1000) :
    compL (evalT (cfAt P W tb k) e1) (evalE (cfAt P W tb k) (.var i)) (.nm i) l h.length (ls.map fun c => .str ⟨#[c]⟩) (h ++ [.lst []]) = .ok () (h ++ [.lst (((ls.filter fun c => !(decide (48 ≤ c) && decide (c ≤ 57))).map fun c => (⟨#[c]⟩ : Str)).map .str)]) := by
  rw [comp_pure (fun v => match v with | .str z => !strIn z ("0123456789" : Str) | _ => false) id _ [] (fun v hv => ?_) (by rw [List.length_map, List.length_nil]; omega), List.nil_append, List.map_id]
  · have q : (ls.map fun c => Val.str ⟨#[c]⟩).filter (fun v => match v with | .str z => !strIn z ("0123456789" : Str) | _ => false) = ((ls.filter fun c => !(decide (48 ≤ c) && decide (c ≤ 57))).map fun c => (⟨#[c]⟩ : Str)).map Val.str := by
      rw [List.filter_map, List.map_map]
      congr 1
      refine List.filter_congr fun c _ => ?_
      show (!strIn ⟨#[c]⟩ ("0123456789" : Str)) = _
      rw [figs_in]
    rw [q]
  · obtain ⟨c, hc, rfl⟩ := List.mem_map.mp hv
    refine ⟨_, rfl, fun acc => ?_, fun _ => ⟨fun acc => ?_, rfl⟩⟩
    · rw [hg]
      show Res.ok _ _ = Res.ok (!strIn ⟨#[c]⟩ ("0123456789" : Str)) _
      rw [figs_in]
    · rw [e_var, hi]
      rfl
/-- whole_of -/
theorem whole1 {x : Str} (a : Asc x) : callF P W tb (k + 1) 1 [.str x] h = .ok (rdV (ts x)) h := by
  rw [callF_go (f := f1) rfl b1 2]
  have fin : ∀ v : Val, pure0 v = true → finish f1 h.length v h = .ok v h := fun v p => finish_p rfl (refs_mono p) (List.take_length ..)
  have pv : pure0 (rdV (ts x)) = true := by unfold rdV; split <;> rfl
  have e0 := sw_minus x
  have lx : x.length ≤ 16777216 := Nat.le_trans a.len (by decide)
  -- the way to b1_3
  have go : ∀ o, run (cfAt P W tb k) b1_3 [some (.str x), some (.str (mkS (fg (ts x)))), none] h = o → run (cfAt P W tb k) b1 ([Val.str x].map some ++ List.replicate 2 none) h = o := fun o ho => by
    unfold b1 b1_0
    walk_at "mp"
    unfold b1_1
    walk_at "mp"
    unfold b1_2
    walk_at "mp"
    rw [e0]
    by_cases m : (ts x).head? = some 45
    · have ef : fg (ts x) = (ts x).drop 1 := by rw [List.drop_one]; exact if_pos m
      rw [decide_eq_true m]
      walk_at "mp"
      rw [show slO h (.str x) (some 1) none = some (.str (L2.cutS x (some 1) none)) from if_pos lx, cut_1, ← ef]
      walk_at "mp"
      exact ho
    · have ef : mkS (fg (ts x)) = x := by
        rw [show fg (ts x) = ts x from if_neg m]
        exact mk_ts x
      rw [ef] at ho
      rw [decide_eq_false m]
      walk_at "mp"
      exact ho
  generalize hF : fg (ts x) = f at *
  have af := a.fg
  rw [hF] at af
  have lf : (mkS f).length ≤ 16777216 := Nat.le_trans af.len (by decide)
  have lF := mkS_len f
  have lf1 : f.length ≤ 1000 := by have := af.len; omega
  have no : okF f = false → rdV (ts x) = .non := fun z => by
    unfold rdV rd
    rw [hF, z, Bool.false_and, if_neg Bool.false_ne_true]
  rw [go _ rfl]
  unfold b1_3
  walk_at "mp"
  rw [bi_len_s _ lf]
  walk_at "mp"
  by_cases c1 : 1 ≤ f.length
  · rw [decide_eq_true (show (1 : Int) ≤ ((mkS f).length : Int) by omega)]
    walk_at "mp"
    by_cases c2 : f.length ≤ 30
    · rw [decide_eq_true (show ((mkS f).length : Int) ≤ 30 by omega)]
      walk_at "mp"
      have br := bad_row (W := W) (k := k) (h := h) (l := [some (.str x), some (.str (mkS f)), none]) (i := 2) (g := "0123456789") (e1 := .cmp .NotIn (.var 2) (.glo "FIGURES")) (fun h c => by
        simp only [List.set_cons_succ, List.set_cons_zero]
        walk_at "mp"
        rw [figs_in]) (fun _ => rfl) (ls := f) (by omega)
      rw [show wipeL [some (Val.str x), some (.str (mkS f)), none] [2] = [some (Val.str x), some (.str (mkS f)), none] from rfl, show (mkS f).cps.toList = f from rfl, br, bind_ok, compF_v]
      walk_at "mp"
      have eqn : ∀ h : Heap, cmpop h .NotEq (.lst (((f.filter fun c => !(decide (48 ≤ c) && decide (c ≤ 57))).map fun c => (⟨#[c]⟩ : Str)).map .str)) (.lst []) = some (!(f.all fun c => decide (48 ≤ c) && decide (c ≤ 57))) := fun h => by
        have q := eq_nil (h := h) (zs := (f.filter fun c => !(decide (48 ≤ c) && decide (c ≤ 57))).map fun c => (⟨#[c]⟩ : Str)) (fun z hz => by
          obtain ⟨c, hc, rfl⟩ := List.mem_map.mp hz
          exact ok_sign (af.sg c (List.mem_filter.mp hc).1))
        rw [ne_LL, q, List.isEmpty_map, figs_all]
        rfl
      rw [eqn]
      walk_at "mp"
      cases hd : f.all fun c => decide (48 ≤ c) && decide (c ≤ 57) with
      | false =>
        walk_at "mp"
        rw [no (by unfold okF; rw [hd, Bool.and_false])]
        exact fin _ rfl
      | true =>
        have okf : okF f = true := by
          unfold okF
          rw [hd, decide_eq_true c1, decide_eq_true c2]
          rfl
        walk_at "mp"
        obtain ⟨c, r, rfl⟩ : ∃ c r, f = c :: r := by
          cases f with
          | nil => exact absurd c1 (by decide)
          | cons c r => exact ⟨c, r, rfl⟩
        have i0 : ∀ h : Heap, evalE (cfAt P W tb k) (.ix (.var 1) (.con (.int 0))) [some (.str x), some (.str (mkS (c :: r))), none] h = .ok (.str ⟨#[c]⟩) h := fun h => by
          rw [e_ix]
          walk_at "mp"
          rw [ixR_s _ _ lf, show (mkS (c :: r)).cps.toList = c :: r from rfl]
          walk_at "mp"
        have q0 : ("0" : Str) = mkS [48] := by decide +kernel
        have d1 : decide ((⟨#[c]⟩ : Str) = "0") = decide ((c :: r).head? = some 48) := by
          rw [q0, one_sign, eq_S, ts_mk]
          by_cases z : c = 48
          · subst z; rfl
          · rw [decide_eq_false (by simpa using z), decide_eq_false (by simpa using z)]
        have d2 : decide (x = ("0" : Str)) = decide (ts x = [48]) := by rw [q0, eq_S]
        unfold b1_4
        simp only [r_seq, r_ite, t_and, t_cmp]
        rw [i0]
        walk_at "mp"
        rw [d1]
        have fin2 : ¬ ((c :: r).head? = some 48 ∧ ¬ ts x = [48]) → run (cfAt P W tb k) b1_5 [some (.str x), some (.str (mkS (c :: r))), none] h = .rt (rdV (ts x)) h := fun z => by
          have e : rd (ts x) = some (if (ts x).head? = some 45 then -((NumText.digitsVal (c :: r) : Nat) : Int) else ((NumText.digitsVal (c :: r) : Nat) : Int)) := by
            unfold rd
            rw [hF, okf, if_pos]
            rw [Bool.true_and, Bool.not_eq_true', Bool.and_eq_false_iff, decide_eq_false_iff_not, Bool.not_eq_false', decide_eq_true_eq]
            by_cases y : (c :: r).head? = some 48
            · exact .inr (Classical.byContradiction fun w => z ⟨y, w⟩)
            · exact .inl y
          have it := rd_int e
          unfold b1_5 rdV
          walk_at "mp"
          rw [it, e]
          walk_at "mp"
        by_cases z1 : (c :: r).head? = some 48
        · rw [decide_eq_true z1]
          walk_at "mp"
          rw [d2]
          by_cases z2 : ts x = [48]
          · rw [decide_eq_true z2]
            walk_at "mp"
            rw [fin2 fun w => w.2 z2]
            walk_at "mp"
            exact fin _ pv
          · rw [decide_eq_false z2]
            walk_at "mp"
            have : rdV (ts x) = .non := by
              unfold rdV rd
              rw [hF, okf, decide_eq_true z1, decide_eq_false z2]
              rfl
            rw [this]
            exact fin _ rfl
        · rw [decide_eq_false z1]
          walk_at "mp"
          rw [fin2 fun w => z1 w.1]
          walk_at "mp"
          exact fin _ pv
    · rw [decide_eq_false (show ¬ ((mkS f).length : Int) ≤ 30 by omega)]
      walk_at "mp"
      rw [no (by unfold okF; rw [decide_eq_false c2, Bool.and_false, Bool.false_and])]
      exact fin _ rfl
  · rw [decide_eq_false (show ¬ (1 : Int) ≤ ((mkS f).length : Int) by omega)]
    walk_at "mp"
    rw [no (by unfold okF; rw [decide_eq_false c1, Bool.false_and, Bool.false_and])]
    exact fin _ rfl
end

end MP.G
namespace MP.G
open PySem
local macro_rules | `(tactic| walk_at "mp") => `(tactic| try simp only [e_var, e_con, e_bt, e_glo, e_d0, e_d1, e_tup, e_lst, e_bin, e_neg, e_cmp, e_chn, e_sl, e_lc, e_and, e_or, e_not, e_ife, e_rev, rev_t, e_cal, e_bi, e_bm, e_ix, es_nl, es_cs, o_nl, o_cs, t_nl, t_and, t_or, t_not, t_cmp, t_chn, t_tst, i_seq, i_rng, r_unl, asL_r, asL_l, e_cl, e_new, e_fld, e_mth, e_xf, e_xi, e_xt, e_isC, e_tm, e_itx, e_fmt, e_fst, strV_s, tm_sw, tm_find, e_lH, e_xiT, xk_x, xkG_n, xiT_2, i_zip, i_enu, r_brk, r_setf, r_rais, r_tri, cf_call, cf_call1, cf_W, cf_t, cf_lv, cx_t, tri_nx, tri_rt, tri_bk, tri_exc, slot_s, slot_n, unx_s, unx_n, unx_r, xf_x, xfO_n, xi_x, xiO_n, xt_x, xtO_n, rais_0, rais_1, new_v, newO_i, setf_r, bi_any, bi_all, bi_tup, bi_lst, bi_repr, bi_str, zip_t, zip_l, zip_tl, rv_ins, rv_cls, rv_dct, isLst_l, r_nop, r_seq, r_asg, r_asgc, r_par, r_setix, r_ret, r_exp, r_ite, r_whl, r_for, r_scope, r_gif, r_aug, intO_i, st_nm, st_tup, st_nl, st_cs, st_2, bin_ii, bin_add, bin_sub, bin_ss, bin_tt, cmp_ii, cmp_eq, cmp_ne, cmp_lt, cmp_le, cmp_gt, cmp_ge, cmp_ss, cs_eq, cs_ne, cs_lt, cs_gt, cs_in, cs_nin, seq_lst, seq_rol, seq_tup, bi_abs, bi_max, bi_min, bi_int_i, bi_int_b, bi_len_l, bi_len_r, bi_len_t, bi_len_h, bi_isi, ty_non, ty_bl, ty_int, ty_str, ty_tup, ty_lst, ty_rol, ty_dct, bm_bits, bt_bits, bt_rev, bt_app, bt_join, bm_join, kit_int_int, kit_int_bool, kit_int_str, kit_int_list, kit_int_tuple, kit_int_dict, kit_bool_int, kit_bool_bool, kit_bool_str, kit_bool_list, kit_bool_tuple, kit_bool_dict, kit_str_int, kit_str_bool, kit_str_str, kit_str_list, kit_str_tuple, kit_str_dict, kit_none_int, kit_none_bool, kit_none_str, kit_none_list, kit_none_tuple, kit_none_dict, kit_list_int, kit_list_bool, kit_list_str, kit_list_list, kit_list_tuple, kit_list_dict, kit_tuple_int, kit_tuple_bool, kit_tuple_str, kit_tuple_list, kit_tuple_tuple, kit_tuple_dict, kit_dict_int, kit_dict_bool, kit_dict_str, kit_dict_list, kit_dict_tuple, kit_dict_dict, seqI_l, seqI_r, seqI_t, seqI_s, varR_ok, andR_t, andR_f, orR_t, orR_f, notR_b, negR_i, partR_i, tru_b, tru_i, tru_n, ixR_l, ixR_r, ixR_t, ixR_h, at0, at1, at2, at3, at4, at5, at6, at7, at8, at9, at10, at11, at12, at13, bind_ok, bind_exc, bind_bad, noX_ok, noX_bad, opt_some, opt_none, out_ok, out_exc, out_bad, oopt_some, oopt_none, thn_nx, thn_rt, thn_bk, thn_ct, thn_exc, thn_bad, turn_nx, turn_ct, turn_bk, turn_rt, turn_exc, turn_bad, trim_nx, trim_bk, trim_ct, trim_rt, trim_exc, trim_bad, end_nx, end_rt, end_exc, objL_s, seq_refO, setix_ref, setL_0, setL_1, setL_2, bm_rev, Option.map_some, List.reverse_cons, List.reverse_nil, fl_nil, fl_cons, tupR_v, lstR_v, lstR_h, rl_nil, rl_cons, rv_int, rv_bl, rv_non, rv_str, rv_tup, rv_lst, Bool.and_self, Bool.and_true, Bool.true_and, List.length_cons, List.length_nil, Nat.zero_add, Nat.reduceAdd, Nat.reduceLeDiff, p10_6, p10_9, p10_10, p10_12, p10_18, p10_27, p10_30, List.getElem?_cons_zero, List.getElem?_cons_succ, List.set_cons_zero, List.set_cons_succ, List.map_cons, List.map_nil, List.cons_append, List.nil_append, List.append_nil, List.replicate, Nat.sub_self, Nat.reduceSub, Option.bind_some, decide_true, decide_false, Bool.not_true, Bool.not_false, if_true, if_false, Bool.false_eq_true, ↓reduceIte, reduceCtorEq, gv_0, tisX_0, txf_0, tsub_0_0, tsub_0_1, traise_0, tisX_1, txf_1, tsub_1_0, tsub_1_1, traise_1])
local macro_rules | `(tactic| walk_at "mph") => `(tactic| try simp only [*, bin_mod, bin_mul, ne_eq, Int.reduceEq, not_false_eq_true, e_var, e_con, e_bt, e_glo, e_d0, e_d1, e_tup, e_lst, e_bin, e_neg, e_cmp, e_chn, e_sl, e_lc, e_and, e_or, e_not, e_ife, e_rev, rev_t, e_cal, e_bi, e_bm, e_ix, es_nl, es_cs, o_nl, o_cs, t_nl, t_and, t_or, t_not, t_cmp, t_chn, t_tst, i_seq, i_rng, r_unl, asL_r, asL_l, e_cl, e_new, e_fld, e_mth, e_xf, e_xi, e_xt, e_isC, e_tm, e_itx, e_fmt, e_fst, strV_s, tm_sw, tm_find, e_lH, e_xiT, xk_x, xkG_n, xiT_2, i_zip, i_enu, r_brk, r_setf, r_rais, r_tri, cf_call, cf_call1, cf_W, cf_t, cf_lv, cx_t, tri_nx, tri_rt, tri_bk, tri_exc, slot_s, slot_n, unx_s, unx_n, unx_r, xf_x, xfO_n, xi_x, xiO_n, xt_x, xtO_n, rais_0, rais_1, new_v, newO_i, setf_r, bi_any, bi_all, bi_tup, bi_lst, bi_repr, bi_str, zip_t, zip_l, zip_tl, rv_ins, rv_cls, rv_dct, isLst_l, r_nop, r_seq, r_asg, r_asgc, r_par, r_setix, r_ret, r_exp, r_ite, r_whl, r_for, r_scope, r_gif, r_aug, intO_i, st_nm, st_tup, st_nl, st_cs, st_2, bin_ii, bin_add, bin_sub, bin_ss, bin_tt, cmp_ii, cmp_eq, cmp_ne, cmp_lt, cmp_le, cmp_gt, cmp_ge, cmp_ss, cs_eq, cs_ne, cs_lt, cs_gt, cs_in, cs_nin, seq_lst, seq_rol, seq_tup, bi_abs, bi_max, bi_min, bi_int_i, bi_int_b, bi_len_l, bi_len_r, bi_len_t, bi_len_h, bi_isi, ty_non, ty_bl, ty_int, ty_str, ty_tup, ty_lst, ty_rol, ty_dct, bm_bits, bt_bits, bt_rev, bt_app, bt_join, bm_join, kit_int_int, kit_int_bool, kit_int_str, kit_int_list, kit_int_tuple, kit_int_dict, kit_bool_int, kit_bool_bool, kit_bool_str, kit_bool_list, kit_bool_tuple, kit_bool_dict, kit_str_int, kit_str_bool, kit_str_str, kit_str_list, kit_str_tuple, kit_str_dict, kit_none_int, kit_none_bool, kit_none_str, kit_none_list, kit_none_tuple, kit_none_dict, kit_list_int, kit_list_bool, kit_list_str, kit_list_list, kit_list_tuple, kit_list_dict, kit_tuple_int, kit_tuple_bool, kit_tuple_str, kit_tuple_list, kit_tuple_tuple, kit_tuple_dict, kit_dict_int, kit_dict_bool, kit_dict_str, kit_dict_list, kit_dict_tuple, kit_dict_dict, seqI_l, seqI_r, seqI_t, seqI_s, varR_ok, andR_t, andR_f, orR_t, orR_f, notR_b, negR_i, partR_i, tru_b, tru_i, tru_n, ixR_l, ixR_r, ixR_t, ixR_h, at0, at1, at2, at3, at4, at5, at6, at7, at8, at9, at10, at11, at12, at13, bind_ok, bind_exc, bind_bad, noX_ok, noX_bad, opt_some, opt_none, out_ok, out_exc, out_bad, oopt_some, oopt_none, thn_nx, thn_rt, thn_bk, thn_ct, thn_exc, thn_bad, turn_nx, turn_ct, turn_bk, turn_rt, turn_exc, turn_bad, trim_nx, trim_bk, trim_ct, trim_rt, trim_exc, trim_bad, end_nx, end_rt, end_exc, objL_s, seq_refO, setix_ref, setL_0, setL_1, setL_2, bm_rev, Option.map_some, List.reverse_cons, List.reverse_nil, fl_nil, fl_cons, tupR_v, lstR_v, lstR_h, rl_nil, rl_cons, rv_int, rv_bl, rv_non, rv_str, rv_tup, rv_lst, Bool.and_self, Bool.and_true, Bool.true_and, List.length_cons, List.length_nil, Nat.zero_add, Nat.reduceAdd, Nat.reduceLeDiff, p10_6, p10_9, p10_10, p10_12, p10_18, p10_27, p10_30, List.getElem?_cons_zero, List.getElem?_cons_succ, List.set_cons_zero, List.set_cons_succ, List.map_cons, List.map_nil, List.cons_append, List.nil_append, List.append_nil, List.replicate, Nat.sub_self, Nat.reduceSub, Option.bind_some, decide_true, decide_false, Bool.not_true, Bool.not_false, if_true, if_false, Bool.false_eq_true, ↓reduceIte, reduceCtorEq, gv_0, tisX_0, txf_0, tsub_0_0, tsub_0_1, traise_0, tisX_1, txf_1, tsub_1_0, tsub_1_1, traise_1])
local macro_rules | `(tactic| walk_at "mpi") => `(tactic| try simp only [Int.reduceEq, Int.reduceLT, Int.reduceLE, Int.reduceAdd, ne_eq, not_true_eq_false, not_false_eq_true, e_var, e_con, e_bt, e_glo, e_d0, e_d1, e_tup, e_lst, e_bin, e_neg, e_cmp, e_chn, e_sl, e_lc, e_and, e_or, e_not, e_ife, e_rev, rev_t, e_cal, e_bi, e_bm, e_ix, es_nl, es_cs, o_nl, o_cs, t_nl, t_and, t_or, t_not, t_cmp, t_chn, t_tst, i_seq, i_rng, r_unl, asL_r, asL_l, e_cl, e_new, e_fld, e_mth, e_xf, e_xi, e_xt, e_isC, e_tm, e_itx, e_fmt, e_fst, strV_s, tm_sw, tm_find, e_lH, e_xiT, xk_x, xkG_n, xiT_2, i_zip, i_enu, r_brk, r_setf, r_rais, r_tri, cf_call, cf_call1, cf_W, cf_t, cf_lv, cx_t, tri_nx, tri_rt, tri_bk, tri_exc, slot_s, slot_n, unx_s, unx_n, unx_r, xf_x, xfO_n, xi_x, xiO_n, xt_x, xtO_n, rais_0, rais_1, new_v, newO_i, setf_r, bi_any, bi_all, bi_tup, bi_lst, bi_repr, bi_str, zip_t, zip_l, zip_tl, rv_ins, rv_cls, rv_dct, isLst_l, r_nop, r_seq, r_asg, r_asgc, r_par, r_setix, r_ret, r_exp, r_ite, r_whl, r_for, r_scope, r_gif, r_aug, intO_i, st_nm, st_tup, st_nl, st_cs, st_2, bin_ii, bin_add, bin_sub, bin_ss, bin_tt, cmp_ii, cmp_eq, cmp_ne, cmp_lt, cmp_le, cmp_gt, cmp_ge, cmp_ss, cs_eq, cs_ne, cs_lt, cs_gt, cs_in, cs_nin, seq_lst, seq_rol, seq_tup, bi_abs, bi_max, bi_min, bi_int_i, bi_int_b, bi_len_l, bi_len_r, bi_len_t, bi_len_h, bi_isi, ty_non, ty_bl, ty_int, ty_str, ty_tup, ty_lst, ty_rol, ty_dct, bm_bits, bt_bits, bt_rev, bt_app, bt_join, bm_join, kit_int_int, kit_int_bool, kit_int_str, kit_int_list, kit_int_tuple, kit_int_dict, kit_bool_int, kit_bool_bool, kit_bool_str, kit_bool_list, kit_bool_tuple, kit_bool_dict, kit_str_int, kit_str_bool, kit_str_str, kit_str_list, kit_str_tuple, kit_str_dict, kit_none_int, kit_none_bool, kit_none_str, kit_none_list, kit_none_tuple, kit_none_dict, kit_list_int, kit_list_bool, kit_list_str, kit_list_list, kit_list_tuple, kit_list_dict, kit_tuple_int, kit_tuple_bool, kit_tuple_str, kit_tuple_list, kit_tuple_tuple, kit_tuple_dict, kit_dict_int, kit_dict_bool, kit_dict_str, kit_dict_list, kit_dict_tuple, kit_dict_dict, seqI_l, seqI_r, seqI_t, seqI_s, varR_ok, andR_t, andR_f, orR_t, orR_f, notR_b, negR_i, partR_i, tru_b, tru_i, tru_n, ixR_l, ixR_r, ixR_t, ixR_h, at0, at1, at2, at3, at4, at5, at6, at7, at8, at9, at10, at11, at12, at13, bind_ok, bind_exc, bind_bad, noX_ok, noX_bad, opt_some, opt_none, out_ok, out_exc, out_bad, oopt_some, oopt_none, thn_nx, thn_rt, thn_bk, thn_ct, thn_exc, thn_bad, turn_nx, turn_ct, turn_bk, turn_rt, turn_exc, turn_bad, trim_nx, trim_bk, trim_ct, trim_rt, trim_exc, trim_bad, end_nx, end_rt, end_exc, objL_s, seq_refO, setix_ref, setL_0, setL_1, setL_2, bm_rev, Option.map_some, List.reverse_cons, List.reverse_nil, fl_nil, fl_cons, tupR_v, lstR_v, lstR_h, rl_nil, rl_cons, rv_int, rv_bl, rv_non, rv_str, rv_tup, rv_lst, Bool.and_self, Bool.and_true, Bool.true_and, List.length_cons, List.length_nil, Nat.zero_add, Nat.reduceAdd, Nat.reduceLeDiff, p10_6, p10_9, p10_10, p10_12, p10_18, p10_27, p10_30, List.getElem?_cons_zero, List.getElem?_cons_succ, List.set_cons_zero, List.set_cons_succ, List.map_cons, List.map_nil, List.cons_append, List.nil_append, List.append_nil, List.replicate, Nat.sub_self, Nat.reduceSub, Option.bind_some, decide_true, decide_false, Bool.not_true, Bool.not_false, if_true, if_false, Bool.false_eq_true, ↓reduceIte, reduceCtorEq, gv_0, tisX_0, txf_0, tsub_0_0, tsub_0_1, traise_0, tisX_1, txf_1, tsub_1_0, tsub_1_1, traise_1])
section
variable {W k : Nat} {h : Heap}
/-- the signs one by one -/
theorem loop14 {p0 p1 : Option Val} : ∀ (ls : List Nat) (n : Nat) (p3 : Option Val), ls.length ≤ 30 → bits (n : Int) ≤ 200 - 4 * ls.length → 
    if ls.all (fun c => decide (48 ≤ c) && decide (c ≤ 57)) then ∃ q3, forL (.nm 3) (run (cfAt P W tb k) b14w1_0) (ls.map fun c => .str ⟨#[c]⟩) [p0, p1, some (.int n), p3] h = .nx [p0, p1, some (.int ((ls.foldl (fun acc c => acc * 10 + (c - 48)) n : Nat) : Int)), q3] h
    else forL (.nm 3) (run (cfAt P W tb k) b14w1_0) (ls.map fun c => .str ⟨#[c]⟩) [p0, p1, some (.int n), p3] h = .rt .non h
  | [], n, p3, _, _ => by
    rw [if_pos List.all_nil]
    exact ⟨p3, rfl⟩
  | c :: ls, n, p3, hl, hb => by
    rw [List.length_cons] at hl hb
    rw [List.map_cons, fl_cons, st_nm, oopt_some]
    simp only [List.set_cons_succ, List.set_cons_zero]
    have fi := figs_in c
    by_cases z : 48 ≤ c ∧ c ≤ 57
    · rw [decide_eq_true z.1, decide_eq_true z.2] at fi
      have ix := fig_index z.1 z.2
      have b10 : bits 10 ≤ 4 := by decide +kernel
      have sn : bits (n : Int) ≤ 200 := by omega
      have e1 : (10 : Int) * (n : Int) + ((c - 48 : Nat) : Int) = ((n * 10 + (c - 48) : Nat) : Int) := by omega
      have sb : bits (((n * 10 + (c - 48) : Nat)) : Int) ≤ 200 - 4 * ls.length := by
        refine bits_nat ?_
        have h1 : n < 2 ^ (200 - 4 * (ls.length + 1)) := by
          have := lt_bits (n : Int)
          have := Nat.lt_of_lt_of_le this (two_le hb)
          omega
        have h2 : 2 ^ (200 - 4 * ls.length) = 2 ^ (200 - 4 * (ls.length + 1)) * 16 := by
          rw [show 200 - 4 * ls.length = (200 - 4 * (ls.length + 1)) + 4 by omega, Nat.pow_add]
        omega
      have ih := loop14 (p0 := p0) (p1 := p1) ls (n * 10 + (c - 48)) (some (.str ⟨#[c]⟩)) (by omega) sb
      have ea : (c :: ls).all (fun c => decide (48 ≤ c) && decide (c ≤ 57)) = ls.all (fun c => decide (48 ≤ c) && decide (c ≤ 57)) := by
        rw [List.all_cons, decide_eq_true z.1, decide_eq_true z.2]
        rfl
      have step : run (cfAt P W tb k) b14w1_0 [p0, p1, some (.int n), some (.str ⟨#[c]⟩)] h = .nx [p0, p1, some (.int ((n * 10 + (c - 48) : Nat) : Int)), some (.str ⟨#[c]⟩)] h := by
        have ti : tmF .index ("0123456789" : Str) ⟨#[c]⟩ = some (.int ((c - 48 : Nat) : Int)) := by
          show (Txt.index0 ("0123456789" : Str) ⟨#[c]⟩).map (fun k => Val.int (k : Nat)) = _
          rw [ix]
          rfl
        unfold b14w1_0
        walk_at "mp"
        rw [fi]
        walk_at "mp"
        unfold b14w1_1
        walk_at "mp"
        rw [bin_mul (by omega)]
        walk_at "mp"
        rw [ti]
        walk_at "mp"
        rw [e1]
      rw [ea, step, turn_nx, List.foldl_cons]
      exact ih
    · have fi2 : (decide (48 ≤ c) && decide (c ≤ 57)) = false := by
        rw [Bool.eq_false_iff]
        intro y
        rw [Bool.and_eq_true, decide_eq_true_eq, decide_eq_true_eq] at y
        exact z y
      rw [fi2] at fi
      rw [List.all_cons, fi2, Bool.false_and, if_neg Bool.false_ne_true]
      unfold b14w1_0
      walk_at "mp"
      rw [fi]
      walk_at "mp"
/-- _law_read -/
theorem read14 {x : Str} (a : Asc x) : callF P W tb (k + 1) 14 [.str x] h = .ok (rdV (ts x)) h := by
  rw [callF_go (f := f14) rfl b14 3]
  have fin : ∀ v : Val, pure0 v = true → finish f14 h.length v h = .ok v h := fun v p => finish_p rfl (refs_mono p) (List.take_length ..)
  have pv : pure0 (rdV (ts x)) = true := by unfold rdV; split <;> rfl
  have lx : x.length ≤ 16777216 := Nat.le_trans a.len (by decide)
  have hm := head_minus x
  have sl1 : ∀ h : Heap, slO h (.str x) none (some 1) = some (.str (L2.cutS x none (some 1))) := fun _ => if_pos lx
  have go : ∀ o, run (cfAt P W tb k) b14_2 [some (.str x), some (.str (mkS (fg (ts x)))), none, none] h = o → run (cfAt P W tb k) b14 ([Val.str x].map some ++ List.replicate 3 none) h = o := fun o ho => by
    unfold b14 b14_0
    walk_at "mp"
    unfold b14_1
    walk_at "mp"
    rw [sl1]
    walk_at "mp"
    rw [hm]
    by_cases m : (ts x).head? = some 45
    · have ef : fg (ts x) = (ts x).drop 1 := by rw [List.drop_one]; exact if_pos m
      rw [decide_eq_true m]
      walk_at "mp"
      rw [show slO h (.str x) (some 1) none = some (.str (L2.cutS x (some 1) none)) from if_pos lx, cut_1, ← ef]
      walk_at "mp"
      exact ho
    · have ef : mkS (fg (ts x)) = x := by
        rw [show fg (ts x) = ts x from if_neg m]
        exact mk_ts x
      rw [ef] at ho
      rw [decide_eq_false m]
      walk_at "mp"
      exact ho
  generalize hF : fg (ts x) = f at *
  have af := a.fg
  rw [hF] at af
  have lf : (mkS f).length ≤ 16777216 := Nat.le_trans af.len (by decide)
  have lF := mkS_len f
  have no : okF f = false → rdV (ts x) = .non := fun z => by
    unfold rdV rd
    rw [hF, z, Bool.false_and, if_neg Bool.false_ne_true]
  rw [go _ rfl]
  unfold b14_2
  walk_at "mp"
  rw [bi_len_s _ lf]
  walk_at "mp"
  by_cases c1 : 1 ≤ f.length
  · rw [decide_eq_false (show ¬ ((mkS f).length : Int) < 1 by omega)]
    walk_at "mp"
    rw [bi_len_s _ lf]
    walk_at "mp"
    by_cases c2 : f.length ≤ 30
    · rw [decide_eq_false (show ¬ (30 : Int) < ((mkS f).length : Int) by omega)]
      walk_at "mp"
      unfold b14_3
      walk_at "mp"
      unfold b14_4
      walk_at "mp"
      rw [show (mkS f).cps.toList = f from rfl]
      have lp := loop14 (W := W) (k := k) (h := h) (p0 := some (.str x)) (p1 := some (.str (mkS f))) f 0 none c2 (Nat.le_trans (by decide +kernel) (show 0 ≤ 200 - 4 * f.length by omega))
      rw [show ((0 : Nat) : Int) = 0 from rfl] at lp
      cases hd : f.all fun c => decide (48 ≤ c) && decide (c ≤ 57) with
      | false =>
        rw [hd, if_neg Bool.false_ne_true] at lp
        rw [lp]
        walk_at "mp"
        rw [no (by unfold okF; rw [hd, Bool.and_false])]
        exact fin _ rfl
      | true =>
        rw [hd, if_pos rfl] at lp
        obtain ⟨q3, lp⟩ := lp
        have okf : okF f = true := by
          unfold okF
          rw [hd, decide_eq_true c1, decide_eq_true c2]
          rfl
        rw [lp]
        walk_at "mp"
        obtain ⟨c, r, rfl⟩ : ∃ c r, f = c :: r := by
          cases f with
          | nil => exact absurd c1 (by decide)
          | cons c r => exact ⟨c, r, rfl⟩
        have ed : (c :: r).foldl (fun acc c => acc * 10 + (c - 48)) 0 = NumText.digitsVal (c :: r) := rfl
        rw [ed]
        have q0 : ("0" : Str) = mkS [48] := by decide +kernel
        have d1 : decide ((⟨#[c]⟩ : Str) = "0") = decide ((c :: r).head? = some 48) := by
          rw [q0, one_sign, eq_S, ts_mk]
          by_cases z : c = 48
          · subst z; rfl
          · rw [decide_eq_false (by simpa using z), decide_eq_false (by simpa using z)]
        have d2 : decide (x = ("0" : Str)) = decide (ts x = [48]) := by rw [q0, eq_S]
        unfold b14_5
        walk_at "mp"
        rw [ixR_s _ _ lf, show (mkS (c :: r)).cps.toList = c :: r from rfl]
        walk_at "mp"
        rw [d1]
        have fin2 : ¬ ((c :: r).head? = some 48 ∧ ¬ ts x = [48]) → run (cfAt P W tb k) b14_6 [some (.str x), some (.str (mkS (c :: r))), some (.int ((NumText.digitsVal (c :: r) : Nat) : Int)), q3] h = .rt (rdV (ts x)) h := fun z => by
          have e : rd (ts x) = some (if (ts x).head? = some 45 then -((NumText.digitsVal (c :: r) : Nat) : Int) else ((NumText.digitsVal (c :: r) : Nat) : Int)) := by
            unfold rd
            rw [hF, okf, if_pos]
            rw [Bool.true_and, Bool.not_eq_true', Bool.and_eq_false_iff, decide_eq_false_iff_not, Bool.not_eq_false', decide_eq_true_eq]
            by_cases y : (c :: r).head? = some 48
            · exact .inr (Classical.byContradiction fun w => z ⟨y, w⟩)
            · exact .inl y
          unfold b14_6 rdV
          rw [e]
          walk_at "mp"
          rw [sl1]
          walk_at "mp"
          rw [hm]
          by_cases m : (ts x).head? = some 45
          · rw [decide_eq_true m, if_pos m]
            walk_at "mp"
            rw [Int.zero_sub]
          · rw [decide_eq_false m, if_neg m]
            walk_at "mp"
        by_cases z1 : (c :: r).head? = some 48
        · rw [decide_eq_true z1]
          walk_at "mp"
          rw [d2]
          by_cases z2 : ts x = [48]
          · rw [decide_eq_true z2]
            walk_at "mp"
            rw [fin2 fun w => w.2 z2]
            walk_at "mp"
            exact fin _ pv
          · rw [decide_eq_false z2]
            walk_at "mp"
            have : rdV (ts x) = .non := by
              unfold rdV rd
              rw [hF, okf, decide_eq_true z1, decide_eq_false z2]
              rfl
            rw [this]
            exact fin _ rfl
        · rw [decide_eq_false z1]
          walk_at "mp"
          rw [fin2 fun w => z1 w.1]
          walk_at "mp"
          exact fin _ pv
    · rw [decide_eq_true (show (30 : Int) < ((mkS f).length : Int) by omega)]
      walk_at "mp"
      rw [no (by unfold okF; rw [decide_eq_false c2, Bool.and_false, Bool.false_and])]
      exact fin _ rfl
  · rw [decide_eq_true (show ((mkS f).length : Int) < 1 by omega)]
    walk_at "mp"
    rw [no (by unfold okF; rw [decide_eq_false c1, Bool.false_and, Bool.false_and])]
    exact fin _ rfl
end

end MP.G
namespace MP.G
open PySem
local macro_rules | `(tactic| walk_at "mp") => `(tactic| try simp only [e_var, e_con, e_bt, e_glo, e_d0, e_d1, e_tup, e_lst, e_bin, e_neg, e_cmp, e_chn, e_sl, e_lc, e_and, e_or, e_not, e_ife, e_rev, rev_t, e_cal, e_bi, e_bm, e_ix, es_nl, es_cs, o_nl, o_cs, t_nl, t_and, t_or, t_not, t_cmp, t_chn, t_tst, i_seq, i_rng, r_unl, asL_r, asL_l, e_cl, e_new, e_fld, e_mth, e_xf, e_xi, e_xt, e_isC, e_tm, e_itx, e_fmt, e_fst, strV_s, tm_sw, tm_find, e_lH, e_xiT, xk_x, xkG_n, xiT_2, i_zip, i_enu, r_brk, r_setf, r_rais, r_tri, cf_call, cf_call1, cf_W, cf_t, cf_lv, cx_t, tri_nx, tri_rt, tri_bk, tri_exc, slot_s, slot_n, unx_s, unx_n, unx_r, xf_x, xfO_n, xi_x, xiO_n, xt_x, xtO_n, rais_0, rais_1, new_v, newO_i, setf_r, bi_any, bi_all, bi_tup, bi_lst, bi_repr, bi_str, zip_t, zip_l, zip_tl, rv_ins, rv_cls, rv_dct, isLst_l, r_nop, r_seq, r_asg, r_asgc, r_par, r_setix, r_ret, r_exp, r_ite, r_whl, r_for, r_scope, r_gif, r_aug, intO_i, st_nm, st_tup, st_nl, st_cs, st_2, bin_ii, bin_add, bin_sub, bin_ss, bin_tt, cmp_ii, cmp_eq, cmp_ne, cmp_lt, cmp_le, cmp_gt, cmp_ge, cmp_ss, cs_eq, cs_ne, cs_lt, cs_gt, cs_in, cs_nin, seq_lst, seq_rol, seq_tup, bi_abs, bi_max, bi_min, bi_int_i, bi_int_b, bi_len_l, bi_len_r, bi_len_t, bi_len_h, bi_isi, ty_non, ty_bl, ty_int, ty_str, ty_tup, ty_lst, ty_rol, ty_dct, bm_bits, bt_bits, bt_rev, bt_app, bt_join, bm_join, kit_int_int, kit_int_bool, kit_int_str, kit_int_list, kit_int_tuple, kit_int_dict, kit_bool_int, kit_bool_bool, kit_bool_str, kit_bool_list, kit_bool_tuple, kit_bool_dict, kit_str_int, kit_str_bool, kit_str_str, kit_str_list, kit_str_tuple, kit_str_dict, kit_none_int, kit_none_bool, kit_none_str, kit_none_list, kit_none_tuple, kit_none_dict, kit_list_int, kit_list_bool, kit_list_str, kit_list_list, kit_list_tuple, kit_list_dict, kit_tuple_int, kit_tuple_bool, kit_tuple_str, kit_tuple_list, kit_tuple_tuple, kit_tuple_dict, kit_dict_int, kit_dict_bool, kit_dict_str, kit_dict_list, kit_dict_tuple, kit_dict_dict, seqI_l, seqI_r, seqI_t, seqI_s, varR_ok, andR_t, andR_f, orR_t, orR_f, notR_b, negR_i, partR_i, tru_b, tru_i, tru_n, ixR_l, ixR_r, ixR_t, ixR_h, at0, at1, at2, at3, at4, at5, at6, at7, at8, at9, at10, at11, at12, at13, bind_ok, bind_exc, bind_bad, noX_ok, noX_bad, opt_some, opt_none, out_ok, out_exc, out_bad, oopt_some, oopt_none, thn_nx, thn_rt, thn_bk, thn_ct, thn_exc, thn_bad, turn_nx, turn_ct, turn_bk, turn_rt, turn_exc, turn_bad, trim_nx, trim_bk, trim_ct, trim_rt, trim_exc, trim_bad, end_nx, end_rt, end_exc, objL_s, seq_refO, setix_ref, setL_0, setL_1, setL_2, bm_rev, Option.map_some, List.reverse_cons, List.reverse_nil, fl_nil, fl_cons, tupR_v, lstR_v, lstR_h, rl_nil, rl_cons, rv_int, rv_bl, rv_non, rv_str, rv_tup, rv_lst, Bool.and_self, Bool.and_true, Bool.true_and, List.length_cons, List.length_nil, Nat.zero_add, Nat.reduceAdd, Nat.reduceLeDiff, p10_6, p10_9, p10_10, p10_12, p10_18, p10_27, p10_30, List.getElem?_cons_zero, List.getElem?_cons_succ, List.set_cons_zero, List.set_cons_succ, List.map_cons, List.map_nil, List.cons_append, List.nil_append, List.append_nil, List.replicate, Nat.sub_self, Nat.reduceSub, Option.bind_some, decide_true, decide_false, Bool.not_true, Bool.not_false, if_true, if_false, Bool.false_eq_true, ↓reduceIte, reduceCtorEq, gv_0, tisX_0, txf_0, tsub_0_0, tsub_0_1, traise_0, tisX_1, txf_1, tsub_1_0, tsub_1_1, traise_1])
local macro_rules | `(tactic| walk_at "mph") => `(tactic| try simp only [*, bin_mod, bin_mul, ne_eq, Int.reduceEq, not_false_eq_true, e_var, e_con, e_bt, e_glo, e_d0, e_d1, e_tup, e_lst, e_bin, e_neg, e_cmp, e_chn, e_sl, e_lc, e_and, e_or, e_not, e_ife, e_rev, rev_t, e_cal, e_bi, e_bm, e_ix, es_nl, es_cs, o_nl, o_cs, t_nl, t_and, t_or, t_not, t_cmp, t_chn, t_tst, i_seq, i_rng, r_unl, asL_r, asL_l, e_cl, e_new, e_fld, e_mth, e_xf, e_xi, e_xt, e_isC, e_tm, e_itx, e_fmt, e_fst, strV_s, tm_sw, tm_find, e_lH, e_xiT, xk_x, xkG_n, xiT_2, i_zip, i_enu, r_brk, r_setf, r_rais, r_tri, cf_call, cf_call1, cf_W, cf_t, cf_lv, cx_t, tri_nx, tri_rt, tri_bk, tri_exc, slot_s, slot_n, unx_s, unx_n, unx_r, xf_x, xfO_n, xi_x, xiO_n, xt_x, xtO_n, rais_0, rais_1, new_v, newO_i, setf_r, bi_any, bi_all, bi_tup, bi_lst, bi_repr, bi_str, zip_t, zip_l, zip_tl, rv_ins, rv_cls, rv_dct, isLst_l, r_nop, r_seq, r_asg, r_asgc, r_par, r_setix, r_ret, r_exp, r_ite, r_whl, r_for, r_scope, r_gif, r_aug, intO_i, st_nm, st_tup, st_nl, st_cs, st_2, bin_ii, bin_add, bin_sub, bin_ss, bin_tt, cmp_ii, cmp_eq, cmp_ne, cmp_lt, cmp_le, cmp_gt, cmp_ge, cmp_ss, cs_eq, cs_ne, cs_lt, cs_gt, cs_in, cs_nin, seq_lst, seq_rol, seq_tup, bi_abs, bi_max, bi_min, bi_int_i, bi_int_b, bi_len_l, bi_len_r, bi_len_t, bi_len_h, bi_isi, ty_non, ty_bl, ty_int, ty_str, ty_tup, ty_lst, ty_rol, ty_dct, bm_bits, bt_bits, bt_rev, bt_app, bt_join, bm_join, kit_int_int, kit_int_bool, kit_int_str, kit_int_list, kit_int_tuple, kit_int_dict, kit_bool_int, kit_bool_bool, kit_bool_str, kit_bool_list, kit_bool_tuple, kit_bool_dict, kit_str_int, kit_str_bool, kit_str_str, kit_str_list, kit_str_tuple, kit_str_dict, kit_none_int, kit_none_bool, kit_none_str, kit_none_list, kit_none_tuple, kit_none_dict, kit_list_int, kit_list_bool, kit_list_str, kit_list_list, kit_list_tuple, kit_list_dict, kit_tuple_int, kit_tuple_bool, kit_tuple_str, kit_tuple_list, kit_tuple_tuple, kit_tuple_dict, kit_dict_int, kit_dict_bool, kit_dict_str, kit_dict_list, kit_dict_tuple, kit_dict_dict, seqI_l, seqI_r, seqI_t, seqI_s, varR_ok, andR_t, andR_f, orR_t, orR_f, notR_b, negR_i, partR_i, tru_b, tru_i, tru_n, ixR_l, ixR_r, ixR_t, ixR_h, at0, at1, at2, at3, at4, at5, at6, at7, at8, at9, at10, at11, at12, at13, bind_ok, bind_exc, bind_bad, noX_ok, noX_bad, opt_some, opt_none, out_ok, out_exc, out_bad, oopt_some, oopt_none, thn_nx, thn_rt, thn_bk, thn_ct, thn_exc, thn_bad, turn_nx, turn_ct, turn_bk, turn_rt, turn_exc, turn_bad, trim_nx, trim_bk, trim_ct, trim_rt, trim_exc, trim_bad, end_nx, end_rt, end_exc, objL_s, seq_refO, setix_ref, setL_0, setL_1, setL_2, bm_rev, Option.map_some, List.reverse_cons, List.reverse_nil, fl_nil, fl_cons, tupR_v, lstR_v, lstR_h, rl_nil, rl_cons, rv_int, rv_bl, rv_non, rv_str, rv_tup, rv_lst, Bool.and_self, Bool.and_true, Bool.true_and, List.length_cons, List.length_nil, Nat.zero_add, Nat.reduceAdd, Nat.reduceLeDiff, p10_6, p10_9, p10_10, p10_12, p10_18, p10_27, p10_30, List.getElem?_cons_zero, List.getElem?_cons_succ, List.set_cons_zero, List.set_cons_succ, List.map_cons, List.map_nil, List.cons_append, List.nil_append, List.append_nil, List.replicate, Nat.sub_self, Nat.reduceSub, Option.bind_some, decide_true, decide_false, Bool.not_true, Bool.not_false, if_true, if_false, Bool.false_eq_true, ↓reduceIte, reduceCtorEq, gv_0, tisX_0, txf_0, tsub_0_0, tsub_0_1, traise_0, tisX_1, txf_1, tsub_1_0, tsub_1_1, traise_1])
local macro_rules | `(tactic| walk_at "mpi") => `(tactic| try simp only [Int.reduceEq, Int.reduceLT, Int.reduceLE, Int.reduceAdd, ne_eq, not_true_eq_false, not_false_eq_true, e_var, e_con, e_bt, e_glo, e_d0, e_d1, e_tup, e_lst, e_bin, e_neg, e_cmp, e_chn, e_sl, e_lc, e_and, e_or, e_not, e_ife, e_rev, rev_t, e_cal, e_bi, e_bm, e_ix, es_nl, es_cs, o_nl, o_cs, t_nl, t_and, t_or, t_not, t_cmp, t_chn, t_tst, i_seq, i_rng, r_unl, asL_r, asL_l, e_cl, e_new, e_fld, e_mth, e_xf, e_xi, e_xt, e_isC, e_tm, e_itx, e_fmt, e_fst, strV_s, tm_sw, tm_find, e_lH, e_xiT, xk_x, xkG_n, xiT_2, i_zip, i_enu, r_brk, r_setf, r_rais, r_tri, cf_call, cf_call1, cf_W, cf_t, cf_lv, cx_t, tri_nx, tri_rt, tri_bk, tri_exc, slot_s, slot_n, unx_s, unx_n, unx_r, xf_x, xfO_n, xi_x, xiO_n, xt_x, xtO_n, rais_0, rais_1, new_v, newO_i, setf_r, bi_any, bi_all, bi_tup, bi_lst, bi_repr, bi_str, zip_t, zip_l, zip_tl, rv_ins, rv_cls, rv_dct, isLst_l, r_nop, r_seq, r_asg, r_asgc, r_par, r_setix, r_ret, r_exp, r_ite, r_whl, r_for, r_scope, r_gif, r_aug, intO_i, st_nm, st_tup, st_nl, st_cs, st_2, bin_ii, bin_add, bin_sub, bin_ss, bin_tt, cmp_ii, cmp_eq, cmp_ne, cmp_lt, cmp_le, cmp_gt, cmp_ge, cmp_ss, cs_eq, cs_ne, cs_lt, cs_gt, cs_in, cs_nin, seq_lst, seq_rol, seq_tup, bi_abs, bi_max, bi_min, bi_int_i, bi_int_b, bi_len_l, bi_len_r, bi_len_t, bi_len_h, bi_isi, ty_non, ty_bl, ty_int, ty_str, ty_tup, ty_lst, ty_rol, ty_dct, bm_bits, bt_bits, bt_rev, bt_app, bt_join, bm_join, kit_int_int, kit_int_bool, kit_int_str, kit_int_list, kit_int_tuple, kit_int_dict, kit_bool_int, kit_bool_bool, kit_bool_str, kit_bool_list, kit_bool_tuple, kit_bool_dict, kit_str_int, kit_str_bool, kit_str_str, kit_str_list, kit_str_tuple, kit_str_dict, kit_none_int, kit_none_bool, kit_none_str, kit_none_list, kit_none_tuple, kit_none_dict, kit_list_int, kit_list_bool, kit_list_str, kit_list_list, kit_list_tuple, kit_list_dict, kit_tuple_int, kit_tuple_bool, kit_tuple_str, kit_tuple_list, kit_tuple_tuple, kit_tuple_dict, kit_dict_int, kit_dict_bool, kit_dict_str, kit_dict_list, kit_dict_tuple, kit_dict_dict, seqI_l, seqI_r, seqI_t, seqI_s, varR_ok, andR_t, andR_f, orR_t, orR_f, notR_b, negR_i, partR_i, tru_b, tru_i, tru_n, ixR_l, ixR_r, ixR_t, ixR_h, at0, at1, at2, at3, at4, at5, at6, at7, at8, at9, at10, at11, at12, at13, bind_ok, bind_exc, bind_bad, noX_ok, noX_bad, opt_some, opt_none, out_ok, out_exc, out_bad, oopt_some, oopt_none, thn_nx, thn_rt, thn_bk, thn_ct, thn_exc, thn_bad, turn_nx, turn_ct, turn_bk, turn_rt, turn_exc, turn_bad, trim_nx, trim_bk, trim_ct, trim_rt, trim_exc, trim_bad, end_nx, end_rt, end_exc, objL_s, seq_refO, setix_ref, setL_0, setL_1, setL_2, bm_rev, Option.map_some, List.reverse_cons, List.reverse_nil, fl_nil, fl_cons, tupR_v, lstR_v, lstR_h, rl_nil, rl_cons, rv_int, rv_bl, rv_non, rv_str, rv_tup, rv_lst, Bool.and_self, Bool.and_true, Bool.true_and, List.length_cons, List.length_nil, Nat.zero_add, Nat.reduceAdd, Nat.reduceLeDiff, p10_6, p10_9, p10_10, p10_12, p10_18, p10_27, p10_30, List.getElem?_cons_zero, List.getElem?_cons_succ, List.set_cons_zero, List.set_cons_succ, List.map_cons, List.map_nil, List.cons_append, List.nil_append, List.append_nil, List.replicate, Nat.sub_self, Nat.reduceSub, Option.bind_some, decide_true, decide_false, Bool.not_true, Bool.not_false, if_true, if_false, Bool.false_eq_true, ↓reduceIte, reduceCtorEq, gv_0, tisX_0, txf_0, tsub_0_0, tsub_0_1, traise_0, tisX_1, txf_1, tsub_1_0, tsub_1_1, traise_1])
/-! ### texts of fractions -/
def rf (l : List Nat) : Option (Int × Int) := match TL.par [47] [] l with
  | none => (rd l).map fun i => (i, 1)
  | some (p, q) => (rd p).bind fun t => (rd q).bind fun b => if 2 ≤ b ∧ Int.gcd t b = 1 then some (t, b) else none
def rfV (l : List Nat) : Val := match rf l with
  | some (t, b) => .tup [.int t, .int b]
  | none => .non
theorem par_cases (l : List Nat) : (47 ∉ l ∧ TL.par [47] [] l = none) ∨ ∃ p q, l = p ++ 47 :: q ∧ 47 ∉ p ∧ TL.par [47] [] l = some (p, q) := by
  by_cases c : 47 ∈ l
  · obtain ⟨p, q, e, n⟩ := List.eq_append_cons_of_mem c
    refine .inr ⟨p, q, e, n, ?_⟩
    have := TL.par_part1 (s := 47) (S := []) (p := p) (rest := q) (acc := []) n
    rw [e]
    exact this
  · exact .inl ⟨c, TL.par_none1 c⟩
theorem slash : ("/" : Str) = mkS [47] := by decide +kernel
theorem find_no {x : Str} (h : 47 ∉ ts x) : Txt.find x "/" = -1 := by
  rw [slash]
  rcases PyProof.Rows.find_whole x (mkS [47]) with ⟨e, _⟩ | ⟨i, _, ha, _⟩
  · exact e
  · have := (PySem.StrLaws.subAt_one x 47 i).mp ha
    exact absurd (List.mem_of_getElem? this) h
theorem find_at {x : Str} {p q : List Nat} (e : ts x = p ++ 47 :: q) (n : 47 ∉ p) : Txt.find x "/" = (p.length : Int) := by
  rw [slash]
  have hp : PySem.StrLaws.At x (mkS [47]) x.length p.length := (PySem.StrLaws.subAt_one x 47 p.length).mpr (by
    show (ts x)[p.length]? = some 47
    rw [e]
    simp)
  rcases PyProof.Rows.find_whole x (mkS [47]) with ⟨_, no⟩ | ⟨i, ei, ha, hk⟩
  · exact absurd hp (no _)
  · rw [ei]
    have hi := (PySem.StrLaws.subAt_one x 47 i).mp ha
    have hi : (ts x)[i]? = some 47 := hi
    rcases Nat.lt_trichotomy i p.length with z | z | z
    · rw [e, List.getElem?_append_left z] at hi
      exact absurd (List.mem_of_getElem? hi) n
    · rw [z]
    · exact absurd hp (hk _ z)
theorem split_eq (x : Str) : Txt.split x "/" = (TL.spl [47] 0 [] (ts x)).map mkS := by
  refine TL.map_tl_inj ?_
  have hk : ¬ Builtin.Str.strKind x < Builtin.Str.strKind ("/" : Str) := TL.kind_ok (by decide +kernel)
  have e := TL.split_spl x ("/" : Str) (by decide +kernel) hk
  rw [e, show TL.tl ("/" : Str) = [47] by decide +kernel, List.map_map]
  show TL.spl [47] 0 [] (ts x) = List.map (fun l => l) _
  rw [List.map_id']
theorem spl_ne (l : List Nat) : TL.spl [47] 0 [] l ≠ [] := by
  rcases par_cases l with ⟨n, _⟩ | ⟨p, q, e, n, _⟩
  · rw [TL.spl_last1 n]
    simp
  · rw [e]
    have := TL.spl_part1 (s := 47) (S := []) (p := p) (rest := q) (acc := []) n
    rw [show p ++ 47 :: q = p ++ ([47] ++ q) from rfl, this]
    simp
theorem rd_slash {q : List Nat} (h : 47 ∈ q) : rd q = none := by
  have h2 : 47 ∈ fg q := by
    unfold fg
    split
    · rename_i c
      cases q with
      | nil => cases c
      | cons a r =>
        cases c
        rcases List.mem_cons.mp h with z | z
        · cases z
        · exact z
    · exact h
  have : okF (fg q) = false := by
    unfold okF
    have : (fg q).all (fun c => decide (48 ≤ c) && decide (c ≤ 57)) = false := by
      rw [List.all_eq_false]
      exact ⟨47, h2, by decide⟩
    rw [this, Bool.and_false]
  unfold rd
  rw [this, Bool.false_and, if_neg Bool.false_ne_true]
theorem fold_lt : ∀ (l : List Nat) (n : Nat), (∀ c ∈ l, 48 ≤ c ∧ c ≤ 57) → l.foldl (fun acc c => acc * 10 + (c - 48)) n < (n + 1) * 10 ^ l.length
  | [], n, _ => by simp
  | c :: r, n, h => by
    have hc := h c (by simp)
    have ih := fold_lt r (n * 10 + (c - 48)) fun d m => h d (List.mem_cons_of_mem _ m)
    rw [List.foldl_cons, List.length_cons, Nat.pow_succ]
    refine Nat.lt_of_lt_of_le ih ?_
    have : (n * 10 + (c - 48) + 1) ≤ (n + 1) * 10 := by omega
    have := Nat.mul_le_mul_right (10 ^ r.length) this
    have e : (n + 1) * 10 * 10 ^ r.length = (n + 1) * (10 ^ r.length * 10) := by rw [Nat.mul_assoc, Nat.mul_comm 10]
    omega
theorem rd_lt {l : List Nat} {i : Int} (h : rd l = some i) : i.natAbs < 10 ^ 30 := by
  unfold rd at h
  split at h
  · rename_i c
    rw [Bool.and_eq_true] at c
    obtain ⟨c1, _⟩ := c
    unfold okF at c1
    rw [Bool.and_eq_true, Bool.and_eq_true, decide_eq_true_eq, decide_eq_true_eq] at c1
    obtain ⟨⟨l1, l2⟩, l3⟩ := c1
    have ad : ∀ c ∈ fg l, 48 ≤ c ∧ c ≤ 57 := fun c m => by
      have := List.all_eq_true.mp l3 c m
      rw [Bool.and_eq_true, decide_eq_true_eq, decide_eq_true_eq] at this
      exact this
    have lt := fold_lt (fg l) 0 ad
    have le : 10 ^ (fg l).length ≤ 10 ^ 30 := Nat.pow_le_pow_right (by decide) l2
    have lv : NumText.digitsVal (fg l) < 10 ^ 30 := by
      show (fg l).foldl (fun acc c => acc * 10 + (c - 48)) 0 < _
      omega
    split at h
    · cases h; omega
    · cases h; omega
  · cases h
theorem cut_to {x : Str} {n : Nat} (h : n ≤ x.length) : L2.cutS x none (some (n : Int)) = mkS ((ts x).take n) := by
  have e1 : HT.sIx x.length 0 none = 0 := rfl
  have e2 := HT.sIx_nat x.length x.length n
  show mkS (((ts x).drop (HT.sIx x.length 0 none)).take (HT.sIx x.length x.length (some (n : Int)) - HT.sIx x.length 0 none)) = _
  rw [e1, e2, List.drop_zero, Nat.sub_zero, Nat.min_eq_left h]
theorem cut_from {x : Str} {n : Nat} (h : n ≤ x.length) : L2.cutS x (some (n : Int)) none = mkS ((ts x).drop n) := by
  have e1 := HT.sIx_nat x.length 0 n
  have e2 : HT.sIx x.length x.length none = x.length := rfl
  have hl := ts_len x
  show mkS (((ts x).drop (HT.sIx x.length 0 (some (n : Int)))).take (HT.sIx x.length x.length none - HT.sIx x.length 0 (some (n : Int)))) = _
  rw [e1, e2, Nat.min_eq_left h, List.take_of_length_le (by rw [List.length_drop]; omega)]
theorem rdV_i {l : List Nat} {i : Int} (h : rd l = some i) : rdV l = .int i := by unfold rdV; rw [h]
theorem rdV_n {l : List Nat} (h : rd l = none) : rdV l = .non := by unfold rdV; rw [h]
theorem gcd_gt {t b : Int} (hb : 2 ≤ b) : decide (1 < ((Int.gcd t b : Nat) : Int)) = !decide (Int.gcd t b = 1) := by
  have : 0 < Int.gcd t b := Int.gcd_pos_of_ne_zero_right _ (by omega)
  by_cases c : Int.gcd t b = 1
  · rw [decide_eq_true c, decide_eq_false (by omega)]; rfl
  · rw [decide_eq_false c, decide_eq_true (by omega)]; rfl
section
variable {W k : Nat} {h : Heap}
theorem lcom15 {a b : Int} (hW : b.natAbs < W) : callF P W tb (k + 1) 15 [.int a, .int b] h = .ok (.int (Int.gcd a b)) h := by
  rw [callF_go (f := f15) rfl b15 0]
  unfold b15 b15_0
  walk_at "mp"
  unfold b15_1
  walk_at "mp"
  rw [show b15w1_0 = (.seq (.par 0 1 (.cs (.var 1) (.cs (.bin .Mod (.var 0) (.var 1)) .nl))) .nop) from rfl, common_loop _ _ _ _ _ hW]
  unfold b15_2
  walk_at "mp"
  rw [finish_i rfl]
  rfl
theorem com2 {a b : Int} (hW : b.natAbs < W) : callF P W tb (k + 1) 2 [.int a, .int b] h = .ok (.int (Int.gcd a b)) h := common_ok (P := P) (gv := tb) (i := 2) rfl hW
theorem W30 (hW : 2 ^ 9000 ≤ W) {n : Nat} (h : n < 10 ^ 30) : n < W := Nat.lt_of_lt_of_le (Nat.lt_of_lt_of_le h (show 10 ^ 30 ≤ 2 ^ 9000 from Nat.le_trans (show 10 ^ 30 ≤ 2 ^ 100 by decide +kernel) (Nat.pow_le_pow_right (by decide) (by decide)))) hW
/-- frac_of -/
theorem frac6 {x : Str} (a : Asc x) (hW : 2 ^ 9000 ≤ W) : callF P W tb (k + 2) 6 [.str x] h = .ok (rfV (ts x)) h := by
  rw [callF_go (f := f6) rfl b6 4]
  have fin : ∀ v : Val, pure0 v = true → finish f6 h.length v h = .ok v h := fun v p => finish_p rfl (refs_mono p) (List.take_length ..)
  have sp : tmF .split x "/" = some (.lst ((Txt.split x "/").map .str)) := if_pos ⟨by decide +kernel, Nat.le_trans a.len (by decide)⟩
  rw [split_eq] at sp
  have isN : ∀ h : Heap, cmpop h .Is .non .non = some true := fun _ => rfl
  have isI : ∀ (h : Heap) (i : Int), cmpop h .Is (.int i) .non = some false := fun _ _ => rfl
  rcases par_cases (ts x) with ⟨n, ep⟩ | ⟨p, q, e, n, ep⟩
  · have e1 := whole1 (W := W) (k := k) (h := h) a
    rw [TL.spl_last1 n, List.nil_append, List.map_cons, List.map_nil, mk_ts] at sp
    have l1 : decide (((1 : Nat) : Int) = 1) = true := rfl
    unfold b6 b6_0
    walk_at "mpi"
    unfold b6_1
    walk_at "mpi"
    rw [sp]
    walk_at "mpi"
    unfold b6_2
    walk_at "mpi"
    try rw [l1]
    walk_at "mpi"
    rw [e1]
    cases er : rd (ts x) with
    | none =>
      have er2 : rfV (ts x) = .non := by unfold rfV rf; rw [ep, er]; rfl
      rw [rdV_n er, er2]
      walk_at "mpi"
      rw [isN]
      walk_at "mpi"
      exact fin _ rfl
    | some i =>
      have er2 : rfV (ts x) = .tup [.int i, .int 1] := by unfold rfV rf; rw [ep, er]; rfl
      rw [rdV_i er, er2]
      walk_at "mpi"
      rw [isI]
      walk_at "mpi"
      exact fin _ rfl
  · have sg := a.sg
    have ln := a.len
    have lx := ts_len x
    rw [e] at sg lx
    rw [List.length_append, List.length_cons] at lx
    obtain ⟨q1, rest, es, q1s⟩ : ∃ q1 rest, TL.spl [47] 0 [] q = q1 :: rest ∧ ((rest = [] ∧ q1 = q) ∨ (rest ≠ [] ∧ 47 ∈ q ∧ ∃ q2, q = q1 ++ 47 :: q2)) := by
      rcases par_cases q with ⟨n2, _⟩ | ⟨q1, q2, e2, n2, _⟩
      · exact ⟨q, [], by rw [TL.spl_last1 n2]; rfl, .inl ⟨rfl, rfl⟩⟩
      · have := TL.spl_part1 (s := 47) (S := []) (p := q1) (rest := q2) (acc := []) n2
        refine ⟨q1, TL.spl [47] 0 [] q2, ?_, .inr ⟨spl_ne q2, by rw [e2]; simp, q2, e2⟩⟩
        rw [e2]
        exact this
    have e2 : TL.spl [47] 0 [] (ts x) = p :: q1 :: rest := by
      have := TL.spl_part1 (s := 47) (S := []) (p := p) (rest := q) (acc := []) n
      rw [es] at this
      rw [e]
      exact this
    rw [e2, List.map_cons, List.map_cons, List.map_cons, List.map_cons] at sp
    have ap : Asc (mkS p) := ⟨fun c m => sg c (List.mem_append.mpr (.inl m)), by rw [mkS_len]; omega⟩
    have aq : Asc (mkS q1) := by
      rcases q1s with ⟨_, rfl⟩ | ⟨_, _, q2, e3⟩
      · exact ⟨fun c m => sg c (List.mem_append.mpr (.inr (List.mem_cons_of_mem _ m))), by rw [mkS_len]; omega⟩
      · rw [e3, List.length_append, List.length_cons] at lx
        refine ⟨fun c m => sg c (List.mem_append.mpr (.inr (List.mem_cons_of_mem _ ?_))), by rw [mkS_len]; omega⟩
        rw [e3]
        exact List.mem_append.mpr (.inl m)
    have w1 := whole1 (W := W) (k := k) (h := h) ap
    have w2 := whole1 (W := W) (k := k) (h := h) aq
    rw [ts_mk] at w1 w2
    have nl : decide ((((rest.map mkS).map Val.str).length + 1 + 1 : Nat) = (1 : Int)) = false := decide_eq_false (by omega)
    have go : ∀ o, run (cfAt P W tb (k + 1)) b6_5 [some (.str x), some (.lst (.str (mkS p) :: .str (mkS q1) :: (rest.map mkS).map .str)), some (rdV p), some (rdV q1), none] h = o → run (cfAt P W tb (k + 1)) b6 ([Val.str x].map some ++ List.replicate 4 none) h = o := fun o ho => by
      unfold b6 b6_0
      walk_at "mp"
      unfold b6_1
      walk_at "mp"
      rw [sp]
      walk_at "mp"
      unfold b6_2
      walk_at "mp"
      rw [nl]
      walk_at "mp"
      unfold b6_3
      walk_at "mp"
      rw [w1]
      walk_at "mp"
      unfold b6_4
      walk_at "mp"
      rw [w2]
      walk_at "mp"
      exact ho
    rw [go _ rfl]
    have frd : rfV (ts x) = match (rd p).bind fun t => (rd q).bind fun b => if 2 ≤ b ∧ Int.gcd t b = 1 then some (t, b) else none with
      | some (t, b) => .tup [.int t, .int b]
      | none => .non := by
      unfold rfV rf
      rw [ep]
    rcases q1s with ⟨rfl, rfl⟩ | ⟨hne, hin, _⟩
    · unfold b6_5
      walk_at "mp"
      rw [show decide ((2 : Int) < ((2 : Nat) : Int)) = false from rfl]
      walk_at "mp"
      cases er : rd p with
      | none =>
        rw [er] at frd
        rw [rdV_n er, frd]
        walk_at "mp"
        rw [isN]
        walk_at "mp"
        exact fin _ rfl
      | some t =>
        rw [er] at frd
        rw [rdV_i er]
        walk_at "mp"
        rw [isI]
        walk_at "mp"
        cases er2 : rd q1 with
        | none =>
          rw [er2] at frd
          rw [rdV_n er2, frd]
          walk_at "mp"
          rw [isN]
          walk_at "mp"
          exact fin _ rfl
        | some b =>
          rw [er2] at frd
          have frd : rfV (ts x) = match (if 2 ≤ b ∧ Int.gcd t b = 1 then some (t, b) else none : Option (Int × Int)) with
            | some (t, b) => .tup [.int t, .int b]
            | none => .non := frd
          rw [rdV_i er2]
          walk_at "mp"
          rw [isI]
          walk_at "mp"
          by_cases c2 : b < 2
          · rw [decide_eq_true c2]
            rw [if_neg (fun z => by omega)] at frd
            rw [frd]
            walk_at "mp"
            exact fin _ rfl
          · rw [decide_eq_false c2]
            walk_at "mp"
            rw [com2 (W30 hW (rd_lt er2))]
            walk_at "mp"
            rw [gcd_gt (by omega)]
            by_cases c3 : Int.gcd t b = 1
            · rw [if_pos ⟨by omega, c3⟩] at frd
              rw [decide_eq_true c3, frd]
              walk_at "mp"
              unfold b6_6
              walk_at "mp"
              exact fin _ rfl
            · rw [if_neg (fun z => c3 z.2)] at frd
              rw [decide_eq_false c3, frd]
              walk_at "mp"
              exact fin _ rfl
    · have frn : rfV (ts x) = .non := by
        rw [frd, rd_slash hin]
        cases rd p <;> rfl
      have ln2 : 1 ≤ rest.length := by
        cases rest with
        | nil => exact absurd rfl hne
        | cons _ _ => rw [List.length_cons]; omega
      unfold b6_5
      walk_at "mp"
      rw [decide_eq_true (by rw [List.length_map, List.length_map]; omega), frn]
      walk_at "mp"
      exact fin _ rfl
/-- _law_read_frac -/
theorem rfrac16 {x : Str} (a : Asc x) (hW : 2 ^ 9000 ≤ W) : callF P W tb (k + 2) 16 [.str x] h = .ok (rfV (ts x)) h := by
  rw [callF_go (f := f16) rfl b16 4]
  have fin : ∀ v : Val, pure0 v = true → finish f16 h.length v h = .ok v h := fun v p => finish_p rfl (refs_mono p) (List.take_length ..)
  have isN : ∀ h : Heap, cmpop h .Is .non .non = some true := fun _ => rfl
  have isI : ∀ (h : Heap) (i : Int), cmpop h .Is (.int i) .non = some false := fun _ _ => rfl
  rcases par_cases (ts x) with ⟨n, ep⟩ | ⟨p, q, e, n, ep⟩
  · have e1 := read14 (W := W) (k := k) (h := h) a
    have ef := find_no n
    unfold b16 b16_0
    walk_at "mpi"
    rw [ef]
    walk_at "mpi"
    unfold b16_1
    walk_at "mpi"
    try rw [show decide ((-1 : Int) < 0) = true from rfl]
    walk_at "mpi"
    rw [e1]
    cases er : rd (ts x) with
    | none =>
      have er2 : rfV (ts x) = .non := by unfold rfV rf; rw [ep, er]; rfl
      rw [rdV_n er, er2]
      walk_at "mpi"
      rw [isN]
      walk_at "mpi"
      exact fin _ rfl
    | some i =>
      have er2 : rfV (ts x) = .tup [.int i, .int 1] := by unfold rfV rf; rw [ep, er]; rfl
      rw [rdV_i er, er2]
      walk_at "mpi"
      rw [isI]
      walk_at "mpi"
      exact fin _ rfl
  · have sg := a.sg
    have ln := a.len
    have lx := ts_len x
    rw [e] at sg lx
    rw [List.length_append, List.length_cons] at lx
    have lx2 : x.length ≤ 16777216 := Nat.le_trans a.len (by decide)
    have ef := find_at e n
    have ap : Asc (mkS p) := ⟨fun c m => sg c (List.mem_append.mpr (.inl m)), by rw [mkS_len]; omega⟩
    have aq : Asc (mkS q) := ⟨fun c m => sg c (List.mem_append.mpr (.inr (List.mem_cons_of_mem _ m))), by rw [mkS_len]; omega⟩
    have w1 := read14 (W := W) (k := k) (h := h) ap
    have w2 := read14 (W := W) (k := k) (h := h) aq
    rw [ts_mk] at w1 w2
    have c1 : ∀ h : Heap, slO h (.str x) none (some (p.length : Int)) = some (.str (mkS p)) := fun h => by
      rw [show slO h (.str x) none (some (p.length : Int)) = some (.str (L2.cutS x none (some (p.length : Int)))) from if_pos lx2, cut_to (by omega), e, List.take_left]
    have c2 : ∀ h : Heap, slO h (.str x) (some ((p.length : Int) + 1)) none = some (.str (mkS q)) := fun h => by
      rw [show slO h (.str x) (some ((p.length : Int) + 1)) none = some (.str (L2.cutS x (some ((p.length : Int) + 1)) none)) from if_pos lx2, show (p.length : Int) + 1 = ((p.length + 1 : Nat) : Int) by omega, cut_from (by omega), e, show p ++ 47 :: q = (p ++ [47]) ++ q by simp, show p.length + 1 = (p ++ [47]).length by simp, List.drop_left]
    have go : ∀ o, run (cfAt P W tb (k + 1)) b16_4 [some (.str x), some (.int (p.length : Int)), some (rdV p), some (rdV q), none] h = o → run (cfAt P W tb (k + 1)) b16 ([Val.str x].map some ++ List.replicate 4 none) h = o := fun o ho => by
      unfold b16 b16_0
      walk_at "mp"
      rw [ef]
      walk_at "mp"
      unfold b16_1
      walk_at "mp"
      rw [decide_eq_false (show ¬ (p.length : Int) < 0 by omega)]
      walk_at "mp"
      unfold b16_2
      walk_at "mp"
      rw [c1]
      walk_at "mp"
      rw [w1]
      walk_at "mp"
      unfold b16_3
      walk_at "mp"
      rw [c2]
      walk_at "mp"
      rw [w2]
      walk_at "mp"
      exact ho
    rw [go _ rfl]
    have frd : rfV (ts x) = match (rd p).bind fun t => (rd q).bind fun b => if 2 ≤ b ∧ Int.gcd t b = 1 then some (t, b) else none with
      | some (t, b) => .tup [.int t, .int b]
      | none => .non := by
      unfold rfV rf
      rw [ep]
    unfold b16_4
    walk_at "mp"
    cases er : rd p with
    | none =>
      rw [er] at frd
      rw [rdV_n er, frd]
      walk_at "mp"
      rw [isN]
      walk_at "mp"
      exact fin _ rfl
    | some t =>
      rw [er] at frd
      rw [rdV_i er]
      walk_at "mp"
      rw [isI]
      walk_at "mp"
      cases er2 : rd q with
      | none =>
        rw [er2] at frd
        rw [rdV_n er2, frd]
        walk_at "mp"
        rw [isN]
        walk_at "mp"
        exact fin _ rfl
      | some b =>
        rw [er2] at frd
        have frd : rfV (ts x) = match (if 2 ≤ b ∧ Int.gcd t b = 1 then some (t, b) else none : Option (Int × Int)) with
          | some (t, b) => .tup [.int t, .int b]
          | none => .non := frd
        rw [rdV_i er2]
        walk_at "mp"
        rw [isI]
        walk_at "mp"
        by_cases d2 : b < 2
        · rw [decide_eq_true d2]
          rw [if_neg (fun z => by omega)] at frd
          rw [frd]
          walk_at "mp"
          exact fin _ rfl
        · rw [decide_eq_false d2]
          walk_at "mp"
          rw [lcom15 (W30 hW (rd_lt er2))]
          walk_at "mp"
          by_cases c3 : Int.gcd t b = 1
          · rw [if_pos ⟨by omega, c3⟩] at frd
            rw [decide_eq_true (show ((Int.gcd t b : Nat) : Int) = 1 by omega), frd]
            walk_at "mp"
            unfold b16_5
            walk_at "mp"
            exact fin _ rfl
          · rw [if_neg (fun z => c3 z.2)] at frd
            rw [decide_eq_false (show ¬ ((Int.gcd t b : Nat) : Int) = 1 by omega), frd]
            walk_at "mp"
            exact fin _ rfl
end

end MP.G
namespace MP.G
open PySem
local macro_rules | `(tactic| walk_at "mp") => `(tactic| try simp only [e_var, e_con, e_bt, e_glo, e_d0, e_d1, e_tup, e_lst, e_bin, e_neg, e_cmp, e_chn, e_sl, e_lc, e_and, e_or, e_not, e_ife, e_rev, rev_t, e_cal, e_bi, e_bm, e_ix, es_nl, es_cs, o_nl, o_cs, t_nl, t_and, t_or, t_not, t_cmp, t_chn, t_tst, i_seq, i_rng, r_unl, asL_r, asL_l, e_cl, e_new, e_fld, e_mth, e_xf, e_xi, e_xt, e_isC, e_tm, e_itx, e_fmt, e_fst, strV_s, tm_sw, tm_find, e_lH, e_xiT, xk_x, xkG_n, xiT_2, i_zip, i_enu, r_brk, r_setf, r_rais, r_tri, cf_call, cf_call1, cf_W, cf_t, cf_lv, cx_t, tri_nx, tri_rt, tri_bk, tri_exc, slot_s, slot_n, unx_s, unx_n, unx_r, xf_x, xfO_n, xi_x, xiO_n, xt_x, xtO_n, rais_0, rais_1, new_v, newO_i, setf_r, bi_any, bi_all, bi_tup, bi_lst, bi_repr, bi_str, zip_t, zip_l, zip_tl, rv_ins, rv_cls, rv_dct, isLst_l, r_nop, r_seq, r_asg, r_asgc, r_par, r_setix, r_ret, r_exp, r_ite, r_whl, r_for, r_scope, r_gif, r_aug, intO_i, st_nm, st_tup, st_nl, st_cs, st_2, bin_ii, bin_add, bin_sub, bin_ss, bin_tt, cmp_ii, cmp_eq, cmp_ne, cmp_lt, cmp_le, cmp_gt, cmp_ge, cmp_ss, cs_eq, cs_ne, cs_lt, cs_gt, cs_in, cs_nin, seq_lst, seq_rol, seq_tup, bi_abs, bi_max, bi_min, bi_int_i, bi_int_b, bi_len_l, bi_len_r, bi_len_t, bi_len_h, bi_isi, ty_non, ty_bl, ty_int, ty_str, ty_tup, ty_lst, ty_rol, ty_dct, bm_bits, bt_bits, bt_rev, bt_app, bt_join, bm_join, kit_int_int, kit_int_bool, kit_int_str, kit_int_list, kit_int_tuple, kit_int_dict, kit_bool_int, kit_bool_bool, kit_bool_str, kit_bool_list, kit_bool_tuple, kit_bool_dict, kit_str_int, kit_str_bool, kit_str_str, kit_str_list, kit_str_tuple, kit_str_dict, kit_none_int, kit_none_bool, kit_none_str, kit_none_list, kit_none_tuple, kit_none_dict, kit_list_int, kit_list_bool, kit_list_str, kit_list_list, kit_list_tuple, kit_list_dict, kit_tuple_int, kit_tuple_bool, kit_tuple_str, kit_tuple_list, kit_tuple_tuple, kit_tuple_dict, kit_dict_int, kit_dict_bool, kit_dict_str, kit_dict_list, kit_dict_tuple, kit_dict_dict, seqI_l, seqI_r, seqI_t, seqI_s, varR_ok, andR_t, andR_f, orR_t, orR_f, notR_b, negR_i, partR_i, tru_b, tru_i, tru_n, ixR_l, ixR_r, ixR_t, ixR_h, at0, at1, at2, at3, at4, at5, at6, at7, at8, at9, at10, at11, at12, at13, bind_ok, bind_exc, bind_bad, noX_ok, noX_bad, opt_some, opt_none, out_ok, out_exc, out_bad, oopt_some, oopt_none, thn_nx, thn_rt, thn_bk, thn_ct, thn_exc, thn_bad, turn_nx, turn_ct, turn_bk, turn_rt, turn_exc, turn_bad, trim_nx, trim_bk, trim_ct, trim_rt, trim_exc, trim_bad, end_nx, end_rt, end_exc, objL_s, seq_refO, setix_ref, setL_0, setL_1, setL_2, bm_rev, Option.map_some, List.reverse_cons, List.reverse_nil, fl_nil, fl_cons, tupR_v, lstR_v, lstR_h, rl_nil, rl_cons, rv_int, rv_bl, rv_non, rv_str, rv_tup, rv_lst, Bool.and_self, Bool.and_true, Bool.true_and, List.length_cons, List.length_nil, Nat.zero_add, Nat.reduceAdd, Nat.reduceLeDiff, p10_6, p10_9, p10_10, p10_12, p10_18, p10_27, p10_30, List.getElem?_cons_zero, List.getElem?_cons_succ, List.set_cons_zero, List.set_cons_succ, List.map_cons, List.map_nil, List.cons_append, List.nil_append, List.append_nil, List.replicate, Nat.sub_self, Nat.reduceSub, Option.bind_some, decide_true, decide_false, Bool.not_true, Bool.not_false, if_true, if_false, Bool.false_eq_true, ↓reduceIte, reduceCtorEq, gv_0, tisX_0, txf_0, tsub_0_0, tsub_0_1, traise_0, tisX_1, txf_1, tsub_1_0, tsub_1_1, traise_1])
local macro_rules | `(tactic| walk_at "mph") => `(tactic| try simp only [*, bin_mod, bin_mul, ne_eq, Int.reduceEq, not_false_eq_true, e_var, e_con, e_bt, e_glo, e_d0, e_d1, e_tup, e_lst, e_bin, e_neg, e_cmp, e_chn, e_sl, e_lc, e_and, e_or, e_not, e_ife, e_rev, rev_t, e_cal, e_bi, e_bm, e_ix, es_nl, es_cs, o_nl, o_cs, t_nl, t_and, t_or, t_not, t_cmp, t_chn, t_tst, i_seq, i_rng, r_unl, asL_r, asL_l, e_cl, e_new, e_fld, e_mth, e_xf, e_xi, e_xt, e_isC, e_tm, e_itx, e_fmt, e_fst, strV_s, tm_sw, tm_find, e_lH, e_xiT, xk_x, xkG_n, xiT_2, i_zip, i_enu, r_brk, r_setf, r_rais, r_tri, cf_call, cf_call1, cf_W, cf_t, cf_lv, cx_t, tri_nx, tri_rt, tri_bk, tri_exc, slot_s, slot_n, unx_s, unx_n, unx_r, xf_x, xfO_n, xi_x, xiO_n, xt_x, xtO_n, rais_0, rais_1, new_v, newO_i, setf_r, bi_any, bi_all, bi_tup, bi_lst, bi_repr, bi_str, zip_t, zip_l, zip_tl, rv_ins, rv_cls, rv_dct, isLst_l, r_nop, r_seq, r_asg, r_asgc, r_par, r_setix, r_ret, r_exp, r_ite, r_whl, r_for, r_scope, r_gif, r_aug, intO_i, st_nm, st_tup, st_nl, st_cs, st_2, bin_ii, bin_add, bin_sub, bin_ss, bin_tt, cmp_ii, cmp_eq, cmp_ne, cmp_lt, cmp_le, cmp_gt, cmp_ge, cmp_ss, cs_eq, cs_ne, cs_lt, cs_gt, cs_in, cs_nin, seq_lst, seq_rol, seq_tup, bi_abs, bi_max, bi_min, bi_int_i, bi_int_b, bi_len_l, bi_len_r, bi_len_t, bi_len_h, bi_isi, ty_non, ty_bl, ty_int, ty_str, ty_tup, ty_lst, ty_rol, ty_dct, bm_bits, bt_bits, bt_rev, bt_app, bt_join, bm_join, kit_int_int, kit_int_bool, kit_int_str, kit_int_list, kit_int_tuple, kit_int_dict, kit_bool_int, kit_bool_bool, kit_bool_str, kit_bool_list, kit_bool_tuple, kit_bool_dict, kit_str_int, kit_str_bool, kit_str_str, kit_str_list, kit_str_tuple, kit_str_dict, kit_none_int, kit_none_bool, kit_none_str, kit_none_list, kit_none_tuple, kit_none_dict, kit_list_int, kit_list_bool, kit_list_str, kit_list_list, kit_list_tuple, kit_list_dict, kit_tuple_int, kit_tuple_bool, kit_tuple_str, kit_tuple_list, kit_tuple_tuple, kit_tuple_dict, kit_dict_int, kit_dict_bool, kit_dict_str, kit_dict_list, kit_dict_tuple, kit_dict_dict, seqI_l, seqI_r, seqI_t, seqI_s, varR_ok, andR_t, andR_f, orR_t, orR_f, notR_b, negR_i, partR_i, tru_b, tru_i, tru_n, ixR_l, ixR_r, ixR_t, ixR_h, at0, at1, at2, at3, at4, at5, at6, at7, at8, at9, at10, at11, at12, at13, bind_ok, bind_exc, bind_bad, noX_ok, noX_bad, opt_some, opt_none, out_ok, out_exc, out_bad, oopt_some, oopt_none, thn_nx, thn_rt, thn_bk, thn_ct, thn_exc, thn_bad, turn_nx, turn_ct, turn_bk, turn_rt, turn_exc, turn_bad, trim_nx, trim_bk, trim_ct, trim_rt, trim_exc, trim_bad, end_nx, end_rt, end_exc, objL_s, seq_refO, setix_ref, setL_0, setL_1, setL_2, bm_rev, Option.map_some, List.reverse_cons, List.reverse_nil, fl_nil, fl_cons, tupR_v, lstR_v, lstR_h, rl_nil, rl_cons, rv_int, rv_bl, rv_non, rv_str, rv_tup, rv_lst, Bool.and_self, Bool.and_true, Bool.true_and, List.length_cons, List.length_nil, Nat.zero_add, Nat.reduceAdd, Nat.reduceLeDiff, p10_6, p10_9, p10_10, p10_12, p10_18, p10_27, p10_30, List.getElem?_cons_zero, List.getElem?_cons_succ, List.set_cons_zero, List.set_cons_succ, List.map_cons, List.map_nil, List.cons_append, List.nil_append, List.append_nil, List.replicate, Nat.sub_self, Nat.reduceSub, Option.bind_some, decide_true, decide_false, Bool.not_true, Bool.not_false, if_true, if_false, Bool.false_eq_true, ↓reduceIte, reduceCtorEq, gv_0, tisX_0, txf_0, tsub_0_0, tsub_0_1, traise_0, tisX_1, txf_1, tsub_1_0, tsub_1_1, traise_1])
local macro_rules | `(tactic| walk_at "mpi") => `(tactic| try simp only [Int.reduceEq, Int.reduceLT, Int.reduceLE, Int.reduceAdd, ne_eq, not_true_eq_false, not_false_eq_true, e_var, e_con, e_bt, e_glo, e_d0, e_d1, e_tup, e_lst, e_bin, e_neg, e_cmp, e_chn, e_sl, e_lc, e_and, e_or, e_not, e_ife, e_rev, rev_t, e_cal, e_bi, e_bm, e_ix, es_nl, es_cs, o_nl, o_cs, t_nl, t_and, t_or, t_not, t_cmp, t_chn, t_tst, i_seq, i_rng, r_unl, asL_r, asL_l, e_cl, e_new, e_fld, e_mth, e_xf, e_xi, e_xt, e_isC, e_tm, e_itx, e_fmt, e_fst, strV_s, tm_sw, tm_find, e_lH, e_xiT, xk_x, xkG_n, xiT_2, i_zip, i_enu, r_brk, r_setf, r_rais, r_tri, cf_call, cf_call1, cf_W, cf_t, cf_lv, cx_t, tri_nx, tri_rt, tri_bk, tri_exc, slot_s, slot_n, unx_s, unx_n, unx_r, xf_x, xfO_n, xi_x, xiO_n, xt_x, xtO_n, rais_0, rais_1, new_v, newO_i, setf_r, bi_any, bi_all, bi_tup, bi_lst, bi_repr, bi_str, zip_t, zip_l, zip_tl, rv_ins, rv_cls, rv_dct, isLst_l, r_nop, r_seq, r_asg, r_asgc, r_par, r_setix, r_ret, r_exp, r_ite, r_whl, r_for, r_scope, r_gif, r_aug, intO_i, st_nm, st_tup, st_nl, st_cs, st_2, bin_ii, bin_add, bin_sub, bin_ss, bin_tt, cmp_ii, cmp_eq, cmp_ne, cmp_lt, cmp_le, cmp_gt, cmp_ge, cmp_ss, cs_eq, cs_ne, cs_lt, cs_gt, cs_in, cs_nin, seq_lst, seq_rol, seq_tup, bi_abs, bi_max, bi_min, bi_int_i, bi_int_b, bi_len_l, bi_len_r, bi_len_t, bi_len_h, bi_isi, ty_non, ty_bl, ty_int, ty_str, ty_tup, ty_lst, ty_rol, ty_dct, bm_bits, bt_bits, bt_rev, bt_app, bt_join, bm_join, kit_int_int, kit_int_bool, kit_int_str, kit_int_list, kit_int_tuple, kit_int_dict, kit_bool_int, kit_bool_bool, kit_bool_str, kit_bool_list, kit_bool_tuple, kit_bool_dict, kit_str_int, kit_str_bool, kit_str_str, kit_str_list, kit_str_tuple, kit_str_dict, kit_none_int, kit_none_bool, kit_none_str, kit_none_list, kit_none_tuple, kit_none_dict, kit_list_int, kit_list_bool, kit_list_str, kit_list_list, kit_list_tuple, kit_list_dict, kit_tuple_int, kit_tuple_bool, kit_tuple_str, kit_tuple_list, kit_tuple_tuple, kit_tuple_dict, kit_dict_int, kit_dict_bool, kit_dict_str, kit_dict_list, kit_dict_tuple, kit_dict_dict, seqI_l, seqI_r, seqI_t, seqI_s, varR_ok, andR_t, andR_f, orR_t, orR_f, notR_b, negR_i, partR_i, tru_b, tru_i, tru_n, ixR_l, ixR_r, ixR_t, ixR_h, at0, at1, at2, at3, at4, at5, at6, at7, at8, at9, at10, at11, at12, at13, bind_ok, bind_exc, bind_bad, noX_ok, noX_bad, opt_some, opt_none, out_ok, out_exc, out_bad, oopt_some, oopt_none, thn_nx, thn_rt, thn_bk, thn_ct, thn_exc, thn_bad, turn_nx, turn_ct, turn_bk, turn_rt, turn_exc, turn_bad, trim_nx, trim_bk, trim_ct, trim_rt, trim_exc, trim_bad, end_nx, end_rt, end_exc, objL_s, seq_refO, setix_ref, setL_0, setL_1, setL_2, bm_rev, Option.map_some, List.reverse_cons, List.reverse_nil, fl_nil, fl_cons, tupR_v, lstR_v, lstR_h, rl_nil, rl_cons, rv_int, rv_bl, rv_non, rv_str, rv_tup, rv_lst, Bool.and_self, Bool.and_true, Bool.true_and, List.length_cons, List.length_nil, Nat.zero_add, Nat.reduceAdd, Nat.reduceLeDiff, p10_6, p10_9, p10_10, p10_12, p10_18, p10_27, p10_30, List.getElem?_cons_zero, List.getElem?_cons_succ, List.set_cons_zero, List.set_cons_succ, List.map_cons, List.map_nil, List.cons_append, List.nil_append, List.append_nil, List.replicate, Nat.sub_self, Nat.reduceSub, Option.bind_some, decide_true, decide_false, Bool.not_true, Bool.not_false, if_true, if_false, Bool.false_eq_true, ↓reduceIte, reduceCtorEq, gv_0, tisX_0, txf_0, tsub_0_0, tsub_0_1, traise_0, tisX_1, txf_1, tsub_1_0, tsub_1_1, traise_1])
theorem nat_of {i : Int} (h : 0 ≤ i) : ∃ n : Nat, i = (n : Int) := ⟨i.toNat, (Int.toNat_of_nonneg h).symm⟩
/-! ### the law's texts -/
/-- signs below 128, at most n of them -/
structure Al (n : Nat) (x : Str) : Prop where
  sg : ∀ c ∈ ts x, c < 128
  len : x.length ≤ n
theorem Al.asc {n : Nat} {x : Str} (a : Al n x) (h : n ≤ 1000) : Asc x := ⟨a.sg, Nat.le_trans a.len h⟩
theorem Al.mono {n m : Nat} {x : Str} (a : Al n x) (h : n ≤ m) : Al m x := ⟨a.sg, Nat.le_trans a.len h⟩
theorem Al.app {n m : Nat} {x y : Str} (a : Al n x) (b : Al m y) : Al (n + m) (x ++ y) := by
  have e : ts (x ++ y) = ts x ++ ts y := TL.tl_append x y
  refine ⟨fun c mc => ?_, ?_⟩
  · rw [e] at mc
    rcases List.mem_append.mp mc with z | z
    · exact a.sg c z
    · exact b.sg c z
  · rw [← ts_len, e, List.length_append, ts_len, ts_len]
    have := a.len
    have := b.len
    omega
theorem Al.cut {n : Nat} {x : Str} (a : Al n x) (lo hi : Option Int) : Al n (L2.cutS x lo hi) := by
  refine ⟨fun c mc => a.sg c ?_, Nat.le_trans (L2.cutS_length x lo hi) a.len⟩
  have mc : c ∈ ((ts x).drop (HT.sIx x.length 0 lo)).take (HT.sIx x.length x.length hi - HT.sIx x.length 0 lo) := mc
  exact List.mem_of_mem_drop (List.mem_of_mem_take mc)
theorem al_of {n : Nat} {x : Str} (h : ((ts x).all fun c => decide (c < 128)) = true) (hl : x.length ≤ n) : Al n x := ⟨fun c mc => of_decide_eq_true (List.all_eq_true.mp h c mc), hl⟩
theorem cat_s {h : Heap} {n m : Nat} {x y : Str} (a : Al n x) (b : Al m y) (hn : n + m ≤ 1000) : binop h .Add (.str x) (.str y) = some (.str (x ++ y)) := by
  show (if x.length + y.length ≤ 16777216 then some (Val.str (x ++ y)) else none) = _
  rw [if_pos (by have := a.len; have := b.len; omega)]
theorem sl_s {h : Heap} {n : Nat} {x : Str} (a : Al n x) (hn : n ≤ 1000) (lo hi : Option Int) : slO h (.str x) lo hi = some (.str (L2.cutS x lo hi)) := if_pos (by have := a.len; omega)
theorem joinL_nil : ∀ ps : List (List Nat), TL.joinL [] ps = ps.flatten
  | [] => rfl
  | [p] => by simp [TL.joinL]
  | p :: q :: r => by
    show p ++ ([] ++ TL.joinL [] (q :: r)) = _
    rw [joinL_nil (q :: r)]
    simp
theorem join_al : ∀ {zs : List Str}, (∀ z ∈ zs, Al 1 z) → Al zs.length (Txt.join "" zs) ∧ (Txt.join "" zs).length = (zs.map fun z => z.length).sum := fun {zs} hz => by
  have e : ts (Txt.join "" zs) = (zs.map ts).flatten := by
    rw [TL.join_eq]
    show TL.tl (Str.join "" zs) = _
    rw [TL.tl_join, show TL.tl ("" : Str) = [] by decide +kernel, joinL_nil]
  have l : (Txt.join "" zs).length = (zs.map fun z => z.length).sum := by
    rw [← ts_len, e, List.length_flatten, List.map_map]
    exact congrArg List.sum (List.map_congr_left fun z _ => ts_len z)
  refine ⟨⟨fun c mc => ?_, ?_⟩, l⟩
  · rw [e] at mc
    obtain ⟨q, mq, mc⟩ := List.mem_flatten.mp mc
    obtain ⟨z, mz, rfl⟩ := List.mem_map.mp mq
    exact (hz z mz).sg c mc
  · rw [l]
    clear e l
    induction zs with
    | nil => exact Nat.le_refl _
    | cons z zs ih =>
      rw [List.map_cons, List.sum_cons, List.length_cons]
      have := (hz z (by simp)).len
      have := ih fun y m => hz y (List.mem_cons_of_mem _ m)
      omega
theorem strsOf_map : ∀ zs : List Str, strsOf (zs.map .str) = some zs
  | [] => rfl
  | z :: zs => by
    show (strsOf (zs.map .str)).map (fun ys => z :: ys) = _
    rw [strsOf_map zs]
    rfl
theorem set_app {r : Nat} {h : Heap} {o : Obj} {a : List Obj} (hr : r < h.length) : (h ++ a).set r o = h.set r o ++ a := List.set_append_left _ _ hr
section
variable {W k r : Nat} {h : Heap} {o : Obj} {m : Nat}
theorem comp_drawS {c : Cf} {el : Loc → Heap → Res Val} {t : T} {l0 : Loc} {N : Nat} (s : Nat) (Q : Str → Prop) : ∀ (xs acc : List Val) (h : Heap) (o : Obj) (m : Nat), h.length = N → h[r]? = some o → IsBox o m → m + s * xs.length ≤ 90000 →
    (∀ x ∈ xs, ∃ l1, store t x l0 = some l1 ∧ ∀ (h : Heap) (o : Obj) (m : Nat) acc, h.length = N → h[r]? = some o → IsBox o m → m ≤ 90000 → ∃ i o', el l1 (h ++ [.lst acc]) = .ok (.str i) (h.set r o' ++ [.lst acc]) ∧ Q i ∧ IsBox o' (m + s)) →
    acc.length + xs.length ≤ 100000 → ∃ (zs : List Str) (o' : Obj), compL (evalT c .nl) el t l0 N xs (h ++ [.lst acc]) = .ok () (h.set r o' ++ [.lst (acc ++ zs.map .str)]) ∧ zs.length = xs.length ∧ (∀ z ∈ zs, Q z) ∧ IsBox o' (m + s * xs.length)
  | [], acc, h, o, m, hN, hr, hB, hm, hx, hl => by
    refine ⟨[], o, ?_, rfl, fun z m => absurd m List.not_mem_nil, hB.mono (by omega)⟩
    have e : h.set r o = h := by
      obtain ⟨hlt, e⟩ := List.getElem?_eq_some_iff.mp hr
      rw [← e]
      exact List.set_getElem_self hlt
    rw [e]
    simp [compL]
  | x :: xs, acc, h, o, m, hN, hr, hB, hm, hx, hl => by
    obtain ⟨l1, e1, e2⟩ := hx x (by simp)
    rw [List.length_cons] at hm hl
    have hm1 : m + s + s * xs.length ≤ 90000 := by rw [Nat.mul_succ] at hm; omega
    obtain ⟨i, o1, e3, q, B1⟩ := e2 h o m acc hN hr hB (by omega)
    obtain ⟨zs, o2, e4, z1, z2, B2⟩ := comp_drawS s Q xs (acc ++ [.str i]) (h.set r o1) o1 (m + s) (by rw [List.length_set]; exact hN) (set_get hr) B1 hm1 (fun y my => hx y (List.mem_cons_of_mem _ my)) (by rw [List.length_append, List.length_singleton]; omega)
    refine ⟨i :: zs, o2, ?_, by rw [List.length_cons, List.length_cons, z1], fun z mz => ?_, B2.mono (by rw [List.length_cons, Nat.mul_succ]; omega)⟩
    · unfold compL
      have ae : appO (h.set r o1 ++ [.lst acc]) N (.str i) = some (h.set r o1 ++ [.lst (acc ++ [.str i])]) := by
        have := app_end (h := h.set r o1) (acc := acc) (v := .str i) rfl (by omega)
        rw [List.length_set, hN] at this
        exact this
      rw [e1, opt_some, t_nl, noX_ok, bind_ok, if_pos rfl, e3, noX_ok, bind_ok, ae, opt_some, e4, List.set_set]
      simp
    · rcases List.mem_cons.mp mz with rfl | mz
      · exact q
      · exact z2 z mz
theorem take9 (many : Int) (hr : h[r]? = some o) (hB : IsBox o m) (hm : m ≤ 1000000) (h1 : 1 ≤ many) (h2 : bits many ≤ 9000) : ∃ v o', callF P W tb (k + 1) 9 [.ref r, .int many] h = .ok (.int v) (h.set r o') ∧ 0 ≤ v ∧ v < many ∧ IsBox o' (m + 1) :=
  take_ok (P := P) (i := 9) rfl hr hB (by omega) h1 h2
theorem at_sign {x : Str} {i : Int} (hx : ((ts x).all fun c => decide (c < 128)) = true) (h0 : 0 ≤ i) (h1 : i < x.length) : ∃ c, L2.atI x.cps.toList i = some c ∧ (Al 1 ⟨#[c]⟩ ∧ (⟨#[c]⟩ : Str).length = 1) := by
  obtain ⟨n, rfl⟩ := nat_of h0
  have hn : n < (ts x).length := by rw [ts_len]; omega
  refine ⟨(ts x)[n], L2.atI_nat (List.getElem?_eq_getElem hn), ⟨fun c mc => ?_, Nat.le_refl 1⟩, rfl⟩
  have : c = (ts x)[n] := by simpa using mc
  rw [this]
  exact of_decide_eq_true (List.all_eq_true.mp hx _ (List.getElem_mem hn))
theorem b_of {a : Int} (n : Nat) (h1 : -(2 ^ n : Nat) < a) (h2 : a < (2 ^ n : Nat)) : bits a ≤ n := bits_le (by omega)
theorem fin_r {f : Fn} {v : Val} {o' : Obj} (e : f.frz = true) (p : pure0 v = true) : finish f h.length v (h.set r o') = .ok v (h.set r o') := finish_p e (refs_mono p) (List.take_of_length_le (by simp))
theorem at_mem {l : List Val} {i : Int} (h0 : 0 ≤ i) (h1 : i < l.length) : ∃ v, L2.atI l i = some v ∧ v ∈ l := by
  obtain ⟨n, rfl⟩ := nat_of h0
  have hn : n < l.length := by omega
  exact ⟨l[n], L2.atI_nat (List.getElem?_eq_getElem hn), List.getElem_mem hn⟩
/-- _law_figures -/
theorem figs12 (hr : h[r]? = some o) (hB : IsBox o m) (hm : m ≤ 50000) : ∃ x o', callF P W tb (k + 2) 12 [.ref r] h = .ok (.str x) (h.set r o') ∧ Al 32 x ∧ IsBox o' (m + 40) := by
  rw [callF_go (f := f12) rfl b12 3]
  obtain ⟨v1, o1, e1, p1, q1, B1⟩ := take9 (W := W) (k := k) 4 hr hB (by omega) (by decide) (by decide +kernel)
  obtain ⟨v2, o2, e2, p2, q2, B2⟩ := take9 (W := W) (k := k) 31 (set_get (o' := o1) hr) B1 (by omega) (by decide) (by decide +kernel)
  obtain ⟨v3, o3, e3, p3, q3, B3⟩ := take9 (W := W) (k := k) 4 (set_get (o' := o2) (set_get (o' := o1) hr)) B2 (by omega) (by decide) (by decide +kernel)
  simp only [List.set_set] at e2 e3
  obtain ⟨y, ey, my⟩ := at_mem (l := [.int (1 + v1), .int (1 + v2), .int 30, .int 31]) p3 (by show v3 < 4; omega)
  obtain ⟨n, rfl, n1, n31⟩ : ∃ n : Nat, y = .int (n : Int) ∧ 1 ≤ n ∧ n ≤ 31 := by
    simp only [List.mem_cons, List.not_mem_nil, or_false] at my
    rcases my with rfl | rfl | rfl | rfl
    · exact ⟨(1 + v1).toNat, by rw [Int.toNat_of_nonneg (by omega)], by omega, by omega⟩
    · exact ⟨(1 + v2).toNat, by rw [Int.toNat_of_nonneg (by omega)], by omega, by omega⟩
    · exact ⟨30, rfl, by decide, by decide⟩
    · exact ⟨31, rfl, by decide, by decide⟩
  have hr3 := set_get (o' := o3) hr
  have rlt : r < h.length := (List.getElem?_eq_some_iff.mp hr).1
  have dg : ((ts ("0123456789" : Str)).all fun c => decide (c < 128)) = true := by decide +kernel
  have dl : (("0123456789" : Str).length : Int) = 10 := by decide +kernel
  have dl2 : ("0123456789" : Str).length ≤ 16777216 := by decide +kernel
  have lrng : ∀ (n : Nat) (lo : Int), (rangeL lo n).length = n := fun n => by
    induction n with
    | zero => intro lo; rfl
    | succ n ih => intro lo; show (rangeL (lo + 1) n).length + 1 = _; rw [ih]
  obtain ⟨zs, o4, e4, z1, z2, B4⟩ := comp_drawS (r := r) (c := cfAt P W tb (k + 1)) (el := evalE (cfAt P W tb (k + 1)) (.ix (.con (.str "0123456789")) (.cal 9 (.cs (.var 0) (.cs (.con (.int 10)) .nl))))) (t := .nm 3) (l0 := [some (.ref r), some (.int (n : Int)), none, none]) (N := h.length) 1 (fun z => Al 1 z ∧ z.length = 1) (rangeL 0 n) [] (h.set r o3) o3 (m + 3) (by simp) hr3 B3 (by rw [lrng]; omega) (fun x mx => by
    refine ⟨_, rfl, fun h' o m acc hN hr hB hm => ?_⟩
    have rlt' : r < h'.length := (List.getElem?_eq_some_iff.mp hr).1
    have hra : (h' ++ [Obj.lst acc])[r]? = some o := by rw [List.getElem?_append_left rlt']; exact hr
    obtain ⟨v4, o4, e4, p4, q4, B4⟩ := take9 (W := W) (k := k) 10 hra hB (by omega) (by decide) (by decide +kernel)
    rw [set_app rlt'] at e4
    obtain ⟨c, ec, ac⟩ := at_sign (x := "0123456789") (i := v4) dg p4 (by omega)
    refine ⟨⟨#[c]⟩, o4, ?_, ac, B4⟩
    simp only [List.set_cons_succ, List.set_cons_zero]
    walk_at "mp"
    rw [e4]
    walk_at "mp"
    rw [ixR_s _ _ dl2, ec]
    walk_at "mp") (by rw [lrng, List.length_nil]; omega)
  rw [lrng] at z1 B4
  rw [List.set_set, List.nil_append] at e4
  have hset : (h.set r o4).length = h.length := List.length_set ..
  obtain ⟨aj, lj⟩ := join_al fun z mz => (z2 z mz).1
  have jl : 1 ≤ (Txt.join "" zs).length := by
    rw [lj]
    cases zs with
    | nil => rw [List.length_nil] at z1; omega
    | cons z zs =>
      rw [List.map_cons, List.sum_cons, (z2 z (by simp)).2]
      omega
  have jb : (zs.map (·.length)).sum + zs.length * ("" : Str).length ≤ 16777216 := by
    rw [← lj, show ("" : Str).length = 0 by decide +kernel]
    have := aj.len
    omega
  generalize hT : Txt.join "" zs = T0 at *
  have a0 : Al 32 T0 := aj.mono (by omega)
  obtain ⟨v5, o5, e5, p5, q5, B5⟩ := take9 (W := W) (k := k) 4 (set_get (o' := o4) hr) B4 (by omega) (by decide) (by decide +kernel)
  rw [List.set_set] at e5
  obtain ⟨c, er⟩ : ∃ c, L2.atI T0.cps.toList 0 = some c := by
    have h0 : 0 < (ts T0).length := by rw [ts_len]; omega
    exact ⟨(ts T0)[0], L2.atI_nat (j := 0) (List.getElem?_eq_getElem h0)⟩
  have lt0 : T0.length ≤ 16777216 := by have := a0.len; omega
  have a1 : Al 33 ("1" ++ L2.cutS T0 (some 1) none) := (Al.app (al_of (n := 1) (by decide +kernel) (by decide +kernel)) (a0.cut (some 1) none)).mono (by decide)
  have a1' : Al 32 ("1" ++ L2.cutS T0 (some 1) none) := by
    refine ⟨a1.sg, ?_⟩
    have e : ts ("1" ++ L2.cutS T0 (some 1) none) = ts ("1" : Str) ++ ts (L2.cutS T0 (some 1) none) := TL.tl_append _ _
    rw [← ts_len, e, List.length_append, cut_1, ts_mk, List.length_drop, ts_len T0, show (ts ("1" : Str)).length = 1 by decide +kernel]
    have := a0.len
    omega
  have fin3 : ∀ (T1 : Str) (o' : Obj) (q3 : Option Val), Al 32 T1 → IsBox o' (m + 40) → ∃ x o2, endF f12 h.length (run (cfAt P W tb (k + 1)) b12_3 [some (.ref r), some (.int (n : Int)), some (.str T1), q3] (h.set r o')) = .ok (.str x) (h.set r o2) ∧ Al 32 x ∧ IsBox o2 (m + 40) := fun T1 o' q3 a B => by
    refine ⟨T1, o', ?_, a, B⟩
    unfold b12_3
    walk_at "mp"
    exact fin_r rfl rfl
  unfold b12 b12_0
  walk_at "mp"
  rw [e1]
  walk_at "mp"
  rw [e2]
  walk_at "mp"
  rw [e3]
  walk_at "mp"
  rw [ey]
  walk_at "mp"
  unfold b12_1
  walk_at "mp"
  rw [rng_i (by omega) (by omega), Int.toNat_natCast]
  walk_at "mp"
  rw [show wipeL [some (Val.ref r), some (.int (n : Int)), none, none] [3] = [some (Val.ref r), some (.int (n : Int)), none, none] from rfl, List.length_set, e4, bind_ok]
  have cf := compF_v (h := h.set r o4) (ys := zs.map .str)
  rw [hset] at cf
  rw [cf]
  walk_at "mp"
  rw [strsOf_map]
  walk_at "mp"
  rw [if_pos jb, hT]
  walk_at "mp"
  unfold b12_2
  walk_at "mp"
  rw [ixR_s _ _ lt0, er]
  walk_at "mp"
  cases hz : decide ((⟨#[c]⟩ : Str) = "0") with
  | false =>
    walk_at "mp"
    exact fin3 _ _ _ a0 (B4.mono (by omega))
  | true =>
    walk_at "mp"
    rw [e5]
    walk_at "mp"
    by_cases c5 : 0 < v5
    · rw [decide_eq_true c5]
      walk_at "mp"
      rw [sl_s a0 (by decide)]
      walk_at "mp"
      have lc := (a0.cut (some 1) none).len
      have l1 : ("1" : Str).length = 1 := by decide +kernel
      rw [if_pos (by omega)]
      walk_at "mp"
      exact fin3 _ _ _ a1' (B5.mono (by omega))
    · rw [decide_eq_false c5]
      walk_at "mp"
      exact fin3 _ _ _ a0 (B5.mono (by omega))
end

end MP.G
namespace MP.G
open PySem
local macro_rules | `(tactic| walk_at "mp") => `(tactic| try simp only [e_var, e_con, e_bt, e_glo, e_d0, e_d1, e_tup, e_lst, e_bin, e_neg, e_cmp, e_chn, e_sl, e_lc, e_and, e_or, e_not, e_ife, e_rev, rev_t, e_cal, e_bi, e_bm, e_ix, es_nl, es_cs, o_nl, o_cs, t_nl, t_and, t_or, t_not, t_cmp, t_chn, t_tst, i_seq, i_rng, r_unl, asL_r, asL_l, e_cl, e_new, e_fld, e_mth, e_xf, e_xi, e_xt, e_isC, e_tm, e_itx, e_fmt, e_fst, strV_s, tm_sw, tm_find, e_lH, e_xiT, xk_x, xkG_n, xiT_2, i_zip, i_enu, r_brk, r_setf, r_rais, r_tri, cf_call, cf_call1, cf_W, cf_t, cf_lv, cx_t, tri_nx, tri_rt, tri_bk, tri_exc, slot_s, slot_n, unx_s, unx_n, unx_r, xf_x, xfO_n, xi_x, xiO_n, xt_x, xtO_n, rais_0, rais_1, new_v, newO_i, setf_r, bi_any, bi_all, bi_tup, bi_lst, bi_repr, bi_str, zip_t, zip_l, zip_tl, rv_ins, rv_cls, rv_dct, isLst_l, r_nop, r_seq, r_asg, r_asgc, r_par, r_setix, r_ret, r_exp, r_ite, r_whl, r_for, r_scope, r_gif, r_aug, intO_i, st_nm, st_tup, st_nl, st_cs, st_2, bin_ii, bin_add, bin_sub, bin_ss, bin_tt, cmp_ii, cmp_eq, cmp_ne, cmp_lt, cmp_le, cmp_gt, cmp_ge, cmp_ss, cs_eq, cs_ne, cs_lt, cs_gt, cs_in, cs_nin, seq_lst, seq_rol, seq_tup, bi_abs, bi_max, bi_min, bi_int_i, bi_int_b, bi_len_l, bi_len_r, bi_len_t, bi_len_h, bi_isi, ty_non, ty_bl, ty_int, ty_str, ty_tup, ty_lst, ty_rol, ty_dct, bm_bits, bt_bits, bt_rev, bt_app, bt_join, bm_join, kit_int_int, kit_int_bool, kit_int_str, kit_int_list, kit_int_tuple, kit_int_dict, kit_bool_int, kit_bool_bool, kit_bool_str, kit_bool_list, kit_bool_tuple, kit_bool_dict, kit_str_int, kit_str_bool, kit_str_str, kit_str_list, kit_str_tuple, kit_str_dict, kit_none_int, kit_none_bool, kit_none_str, kit_none_list, kit_none_tuple, kit_none_dict, kit_list_int, kit_list_bool, kit_list_str, kit_list_list, kit_list_tuple, kit_list_dict, kit_tuple_int, kit_tuple_bool, kit_tuple_str, kit_tuple_list, kit_tuple_tuple, kit_tuple_dict, kit_dict_int, kit_dict_bool, kit_dict_str, kit_dict_list, kit_dict_tuple, kit_dict_dict, seqI_l, seqI_r, seqI_t, seqI_s, varR_ok, andR_t, andR_f, orR_t, orR_f, notR_b, negR_i, partR_i, tru_b, tru_i, tru_n, ixR_l, ixR_r, ixR_t, ixR_h, at0, at1, at2, at3, at4, at5, at6, at7, at8, at9, at10, at11, at12, at13, bind_ok, bind_exc, bind_bad, noX_ok, noX_bad, opt_some, opt_none, out_ok, out_exc, out_bad, oopt_some, oopt_none, thn_nx, thn_rt, thn_bk, thn_ct, thn_exc, thn_bad, turn_nx, turn_ct, turn_bk, turn_rt, turn_exc, turn_bad, trim_nx, trim_bk, trim_ct, trim_rt, trim_exc, trim_bad, end_nx, end_rt, end_exc, objL_s, seq_refO, setix_ref, setL_0, setL_1, setL_2, bm_rev, Option.map_some, List.reverse_cons, List.reverse_nil, fl_nil, fl_cons, tupR_v, lstR_v, lstR_h, rl_nil, rl_cons, rv_int, rv_bl, rv_non, rv_str, rv_tup, rv_lst, Bool.and_self, Bool.and_true, Bool.true_and, List.length_cons, List.length_nil, Nat.zero_add, Nat.reduceAdd, Nat.reduceLeDiff, p10_6, p10_9, p10_10, p10_12, p10_18, p10_27, p10_30, List.getElem?_cons_zero, List.getElem?_cons_succ, List.set_cons_zero, List.set_cons_succ, List.map_cons, List.map_nil, List.cons_append, List.nil_append, List.append_nil, List.replicate, Nat.sub_self, Nat.reduceSub, Option.bind_some, decide_true, decide_false, Bool.not_true, Bool.not_false, if_true, if_false, Bool.false_eq_true, ↓reduceIte, reduceCtorEq, gv_0, tisX_0, txf_0, tsub_0_0, tsub_0_1, traise_0, tisX_1, txf_1, tsub_1_0, tsub_1_1, traise_1])
local macro_rules | `(tactic| walk_at "mph") => `(tactic| try simp only [*, bin_mod, bin_mul, ne_eq, Int.reduceEq, not_false_eq_true, e_var, e_con, e_bt, e_glo, e_d0, e_d1, e_tup, e_lst, e_bin, e_neg, e_cmp, e_chn, e_sl, e_lc, e_and, e_or, e_not, e_ife, e_rev, rev_t, e_cal, e_bi, e_bm, e_ix, es_nl, es_cs, o_nl, o_cs, t_nl, t_and, t_or, t_not, t_cmp, t_chn, t_tst, i_seq, i_rng, r_unl, asL_r, asL_l, e_cl, e_new, e_fld, e_mth, e_xf, e_xi, e_xt, e_isC, e_tm, e_itx, e_fmt, e_fst, strV_s, tm_sw, tm_find, e_lH, e_xiT, xk_x, xkG_n, xiT_2, i_zip, i_enu, r_brk, r_setf, r_rais, r_tri, cf_call, cf_call1, cf_W, cf_t, cf_lv, cx_t, tri_nx, tri_rt, tri_bk, tri_exc, slot_s, slot_n, unx_s, unx_n, unx_r, xf_x, xfO_n, xi_x, xiO_n, xt_x, xtO_n, rais_0, rais_1, new_v, newO_i, setf_r, bi_any, bi_all, bi_tup, bi_lst, bi_repr, bi_str, zip_t, zip_l, zip_tl, rv_ins, rv_cls, rv_dct, isLst_l, r_nop, r_seq, r_asg, r_asgc, r_par, r_setix, r_ret, r_exp, r_ite, r_whl, r_for, r_scope, r_gif, r_aug, intO_i, st_nm, st_tup, st_nl, st_cs, st_2, bin_ii, bin_add, bin_sub, bin_ss, bin_tt, cmp_ii, cmp_eq, cmp_ne, cmp_lt, cmp_le, cmp_gt, cmp_ge, cmp_ss, cs_eq, cs_ne, cs_lt, cs_gt, cs_in, cs_nin, seq_lst, seq_rol, seq_tup, bi_abs, bi_max, bi_min, bi_int_i, bi_int_b, bi_len_l, bi_len_r, bi_len_t, bi_len_h, bi_isi, ty_non, ty_bl, ty_int, ty_str, ty_tup, ty_lst, ty_rol, ty_dct, bm_bits, bt_bits, bt_rev, bt_app, bt_join, bm_join, kit_int_int, kit_int_bool, kit_int_str, kit_int_list, kit_int_tuple, kit_int_dict, kit_bool_int, kit_bool_bool, kit_bool_str, kit_bool_list, kit_bool_tuple, kit_bool_dict, kit_str_int, kit_str_bool, kit_str_str, kit_str_list, kit_str_tuple, kit_str_dict, kit_none_int, kit_none_bool, kit_none_str, kit_none_list, kit_none_tuple, kit_none_dict, kit_list_int, kit_list_bool, kit_list_str, kit_list_list, kit_list_tuple, kit_list_dict, kit_tuple_int, kit_tuple_bool, kit_tuple_str, kit_tuple_list, kit_tuple_tuple, kit_tuple_dict, kit_dict_int, kit_dict_bool, kit_dict_str, kit_dict_list, kit_dict_tuple, kit_dict_dict, seqI_l, seqI_r, seqI_t, seqI_s, varR_ok, andR_t, andR_f, orR_t, orR_f, notR_b, negR_i, partR_i, tru_b, tru_i, tru_n, ixR_l, ixR_r, ixR_t, ixR_h, at0, at1, at2, at3, at4, at5, at6, at7, at8, at9, at10, at11, at12, at13, bind_ok, bind_exc, bind_bad, noX_ok, noX_bad, opt_some, opt_none, out_ok, out_exc, out_bad, oopt_some, oopt_none, thn_nx, thn_rt, thn_bk, thn_ct, thn_exc, thn_bad, turn_nx, turn_ct, turn_bk, turn_rt, turn_exc, turn_bad, trim_nx, trim_bk, trim_ct, trim_rt, trim_exc, trim_bad, end_nx, end_rt, end_exc, objL_s, seq_refO, setix_ref, setL_0, setL_1, setL_2, bm_rev, Option.map_some, List.reverse_cons, List.reverse_nil, fl_nil, fl_cons, tupR_v, lstR_v, lstR_h, rl_nil, rl_cons, rv_int, rv_bl, rv_non, rv_str, rv_tup, rv_lst, Bool.and_self, Bool.and_true, Bool.true_and, List.length_cons, List.length_nil, Nat.zero_add, Nat.reduceAdd, Nat.reduceLeDiff, p10_6, p10_9, p10_10, p10_12, p10_18, p10_27, p10_30, List.getElem?_cons_zero, List.getElem?_cons_succ, List.set_cons_zero, List.set_cons_succ, List.map_cons, List.map_nil, List.cons_append, List.nil_append, List.append_nil, List.replicate, Nat.sub_self, Nat.reduceSub, Option.bind_some, decide_true, decide_false, Bool.not_true, Bool.not_false, if_true, if_false, Bool.false_eq_true, ↓reduceIte, reduceCtorEq, gv_0, tisX_0, txf_0, tsub_0_0, tsub_0_1, traise_0, tisX_1, txf_1, tsub_1_0, tsub_1_1, traise_1])
local macro_rules | `(tactic| walk_at "mpi") => `(tactic| try simp only [Int.reduceEq, Int.reduceLT, Int.reduceLE, Int.reduceAdd, ne_eq, not_true_eq_false, not_false_eq_true, e_var, e_con, e_bt, e_glo, e_d0, e_d1, e_tup, e_lst, e_bin, e_neg, e_cmp, e_chn, e_sl, e_lc, e_and, e_or, e_not, e_ife, e_rev, rev_t, e_cal, e_bi, e_bm, e_ix, es_nl, es_cs, o_nl, o_cs, t_nl, t_and, t_or, t_not, t_cmp, t_chn, t_tst, i_seq, i_rng, r_unl, asL_r, asL_l, e_cl, e_new, e_fld, e_mth, e_xf, e_xi, e_xt, e_isC, e_tm, e_itx, e_fmt, e_fst, strV_s, tm_sw, tm_find, e_lH, e_xiT, xk_x, xkG_n, xiT_2, i_zip, i_enu, r_brk, r_setf, r_rais, r_tri, cf_call, cf_call1, cf_W, cf_t, cf_lv, cx_t, tri_nx, tri_rt, tri_bk, tri_exc, slot_s, slot_n, unx_s, unx_n, unx_r, xf_x, xfO_n, xi_x, xiO_n, xt_x, xtO_n, rais_0, rais_1, new_v, newO_i, setf_r, bi_any, bi_all, bi_tup, bi_lst, bi_repr, bi_str, zip_t, zip_l, zip_tl, rv_ins, rv_cls, rv_dct, isLst_l, r_nop, r_seq, r_asg, r_asgc, r_par, r_setix, r_ret, r_exp, r_ite, r_whl, r_for, r_scope, r_gif, r_aug, intO_i, st_nm, st_tup, st_nl, st_cs, st_2, bin_ii, bin_add, bin_sub, bin_ss, bin_tt, cmp_ii, cmp_eq, cmp_ne, cmp_lt, cmp_le, cmp_gt, cmp_ge, cmp_ss, cs_eq, cs_ne, cs_lt, cs_gt, cs_in, cs_nin, seq_lst, seq_rol, seq_tup, bi_abs, bi_max, bi_min, bi_int_i, bi_int_b, bi_len_l, bi_len_r, bi_len_t, bi_len_h, bi_isi, ty_non, ty_bl, ty_int, ty_str, ty_tup, ty_lst, ty_rol, ty_dct, bm_bits, bt_bits, bt_rev, bt_app, bt_join, bm_join, kit_int_int, kit_int_bool, kit_int_str, kit_int_list, kit_int_tuple, kit_int_dict, kit_bool_int, kit_bool_bool, kit_bool_str, kit_bool_list, kit_bool_tuple, kit_bool_dict, kit_str_int, kit_str_bool, kit_str_str, kit_str_list, kit_str_tuple, kit_str_dict, kit_none_int, kit_none_bool, kit_none_str, kit_none_list, kit_none_tuple, kit_none_dict, kit_list_int, kit_list_bool, kit_list_str, kit_list_list, kit_list_tuple, kit_list_dict, kit_tuple_int, kit_tuple_bool, kit_tuple_str, kit_tuple_list, kit_tuple_tuple, kit_tuple_dict, kit_dict_int, kit_dict_bool, kit_dict_str, kit_dict_list, kit_dict_tuple, kit_dict_dict, seqI_l, seqI_r, seqI_t, seqI_s, varR_ok, andR_t, andR_f, orR_t, orR_f, notR_b, negR_i, partR_i, tru_b, tru_i, tru_n, ixR_l, ixR_r, ixR_t, ixR_h, at0, at1, at2, at3, at4, at5, at6, at7, at8, at9, at10, at11, at12, at13, bind_ok, bind_exc, bind_bad, noX_ok, noX_bad, opt_some, opt_none, out_ok, out_exc, out_bad, oopt_some, oopt_none, thn_nx, thn_rt, thn_bk, thn_ct, thn_exc, thn_bad, turn_nx, turn_ct, turn_bk, turn_rt, turn_exc, turn_bad, trim_nx, trim_bk, trim_ct, trim_rt, trim_exc, trim_bad, end_nx, end_rt, end_exc, objL_s, seq_refO, setix_ref, setL_0, setL_1, setL_2, bm_rev, Option.map_some, List.reverse_cons, List.reverse_nil, fl_nil, fl_cons, tupR_v, lstR_v, lstR_h, rl_nil, rl_cons, rv_int, rv_bl, rv_non, rv_str, rv_tup, rv_lst, Bool.and_self, Bool.and_true, Bool.true_and, List.length_cons, List.length_nil, Nat.zero_add, Nat.reduceAdd, Nat.reduceLeDiff, p10_6, p10_9, p10_10, p10_12, p10_18, p10_27, p10_30, List.getElem?_cons_zero, List.getElem?_cons_succ, List.set_cons_zero, List.set_cons_succ, List.map_cons, List.map_nil, List.cons_append, List.nil_append, List.append_nil, List.replicate, Nat.sub_self, Nat.reduceSub, Option.bind_some, decide_true, decide_false, Bool.not_true, Bool.not_false, if_true, if_false, Bool.false_eq_true, ↓reduceIte, reduceCtorEq, gv_0, tisX_0, txf_0, tsub_0_0, tsub_0_1, traise_0, tisX_1, txf_1, tsub_1_0, tsub_1_1, traise_1])
/-- the law's page of signs, as its text has it -/
def pgA : Str := match b11_0 with
  | .seq (.asg _ (.con (.str s))) _ => s
  | _ => ""
def pgB : Str := match b11_1 with
  | .seq (.ret (.bin _ _ (.con (.str s)))) _ => s
  | _ => ""
def pgC : Str := match b13_1 with
  | .seq (.asg _ (.ix (.bin _ (.con (.str s)) _) _)) _ => s
  | _ => ""
theorem pg_al : Al 109 (pgC ++ (pgA ++ pgB)) := al_of (by decide +kernel) (by decide +kernel)
theorem pg_len : (pgC ++ (pgA ++ pgB)).length = 109 := by decide +kernel
theorem pg_all : ((ts (pgC ++ (pgA ++ pgB))).all fun c => decide (c < 128)) = true := by decide +kernel
theorem pgA_al : Al 80 pgA := al_of (by decide +kernel) (by decide +kernel)
theorem pgB_al : Al 40 pgB := al_of (by decide +kernel) (by decide +kernel)
theorem pgC_al : Al 20 pgC := al_of (by decide +kernel) (by decide +kernel)
section
variable {W k r : Nat} {h : Heap} {o : Obj} {m : Nat}
theorem page11 : callF P W tb (k + 1) 11 [] h = .ok (.str (pgA ++ pgB)) h := by
  rw [callF_go (f := f11) rfl b11 1]
  have e0 : b11_0 = .seq (.asg (.nm 0) (.con (.str pgA))) b11_1 := rfl
  have e1 : b11_1 = .seq (.ret (.bin .Add (.var 0) (.con (.str pgB)))) .nop := rfl
  have c := cat_s (h := h) pgA_al pgB_al (by decide)
  unfold b11
  rw [e0, e1]
  generalize pgA = A at *
  generalize pgB = B at *
  simp only [r_seq, r_asg, e_con, out_ok, st_nm, oopt_some, thn_nx, List.map_nil, List.nil_append, List.replicate, List.set_cons_zero, r_ret, e_bin, e_var, List.getElem?_cons_zero, varR_ok, bind_ok, c, opt_some, thn_rt, end_rt]
  exact finish_p rfl rfl (List.take_length ..)
/-- _law_text -/
theorem text13 (hr : h[r]? = some o) (hB : IsBox o m) (hm : m ≤ 40000) : ∃ x o', callF P W tb (k + 3) 13 [.ref r] h = .ok (.str x) (h.set r o') ∧ Al 200 x ∧ IsBox o' (m + 200) := by
  rw [callF_go (f := f13) rfl b13 4]
  obtain ⟨v1, o1, e1, p1, q1, B1⟩ := take9 (W := W) (k := k + 1) 8 hr hB (by omega) (by decide) (by decide +kernel)
  obtain ⟨v2, o2, e2, p2, q2, B2⟩ := take9 (W := W) (k := k + 1) (14 + 95) (set_get (o' := o1) hr) B1 (by omega) (by decide) (by decide +kernel)
  obtain ⟨v3, o3, e3, p3, q3, B3⟩ := take9 (W := W) (k := k + 1) 2 (set_get (o' := o2) (set_get (o' := o1) hr)) B2 (by omega) (by decide) (by decide +kernel)
  obtain ⟨f1, o4, e4, A4, B4⟩ := figs12 (W := W) (k := k) (set_get (o' := o3) (set_get (o' := o2) (set_get (o' := o1) hr))) B3 (by omega)
  obtain ⟨v5, o5, e5, p5, q5, B5⟩ := take9 (W := W) (k := k + 1) 2 (set_get (o' := o4) hr) B4 (by omega) (by decide) (by decide +kernel)
  obtain ⟨f2, o6, e6, A6, B6⟩ := figs12 (W := W) (k := k) (set_get (o' := o5) hr) B5 (by omega)
  simp only [List.set_set] at e2 e3 e4 e5 e6
  have pg := page11 (W := W) (k := k + 1) (h := h.set r o1)
  obtain ⟨c, ec, ac, _⟩ := at_sign (x := pgC ++ (pgA ++ pgB)) (i := v2) pg_all p2 (by rw [pg_len]; omega)
  have pl : (pgC ++ (pgA ++ pgB)).length ≤ 16777216 := by rw [pg_len]; decide
  have pc : ∀ h : Heap, binop h .Add (.str pgC) (.str (pgA ++ pgB)) = some (.str (pgC ++ (pgA ++ pgB))) := fun h => cat_s pgC_al (pgA_al.app pgB_al) (by decide)
  have eb : b13_1 = .seq (.asg (.nm 2) (.ix (.bin .Add (.con (.str pgC)) (.cal 11 .nl)) (.cal 9 (.cs (.var 0) (.cs (.bin .Add (.con (.int 14)) (.con (.int 95))) .nl))))) b13_2 := rfl
  obtain ⟨y, ey, my⟩ := at_mem (l := [.str "", .str "-"]) p3 (by show v3 < 2; omega)
  obtain ⟨s0, rfl, as0⟩ : ∃ s0 : Str, y = .str s0 ∧ Al 1 s0 := by
    simp only [List.mem_cons, List.not_mem_nil, or_false] at my
    rcases my with rfl | rfl
    · exact ⟨_, rfl, al_of (by decide +kernel) (by decide +kernel)⟩
    · exact ⟨_, rfl, al_of (by decide +kernel) (by decide +kernel)⟩
  have cs1 : ∀ h : Heap, binop h .Add (.str s0) (.str f1) = some (.str (s0 ++ f1)) := fun h => cat_s as0 A4 (by decide)
  have A1 : Al 33 (s0 ++ f1) := (as0.app A4).mono (by decide)
  have asl : Al 1 ("/" : Str) := al_of (by decide +kernel) (by decide +kernel)
  have cs2 : ∀ h : Heap, binop h .Add (.str (s0 ++ f1)) (.str "/") = some (.str (s0 ++ f1 ++ "/")) := fun h => cat_s A1 asl (by decide)
  have cs3 : ∀ h : Heap, binop h .Add (.str (s0 ++ f1 ++ "/")) (.str f2) = some (.str (s0 ++ f1 ++ "/" ++ f2)) := fun h => cat_s (A1.app asl) A6 (by decide)
  -- behind the text
  have tail : ∀ (t : Str) (o' : Obj) (n : Nat), Al 66 t → IsBox o' n → n ≤ m + 190 → ∃ x o2, endF f13 h.length (run (cfAt P W tb (k + 2)) b13_4 [some (.ref r), some (.int v1), some (.str ⟨#[c]⟩), some (.str t), none] (h.set r o')) = .ok (.str x) (h.set r o2) ∧ Al 200 x ∧ IsBox o2 (m + 200) := fun t o' n At Bo hn => by
    have lt : t.length ≤ 16777216 := by have := At.len; omega
    obtain ⟨v7, o7, e7, p7, q7, B7⟩ := take9 (W := W) (k := k + 1) ((t.length : Int) + 1) (set_get (o' := o') hr) Bo (by omega) (by omega) (Nat.le_trans (b_of 8 (by have := At.len; omega) (by have := At.len; omega)) (by decide))
    rw [List.set_set] at e7
    have s1 := fun h lo hi => sl_s (h := h) At (by decide) lo hi
    have cat3 : ∀ (h : Heap) {x y : Str}, Al 66 x → Al 66 y → binop h .Add (.str x) (.str y) = some (.str (x ++ y)) := fun h {x y} a b => cat_s a b (by decide)
    have cat4 : ∀ (h : Heap) {x y : Str}, Al 132 x → Al 66 y → binop h .Add (.str x) (.str y) = some (.str (x ++ y)) := fun h {x y} a b => cat_s a b (by decide)
    have ac6 : Al 66 (⟨#[c]⟩ : Str) := ac.mono (by decide)
    have fin2 : ∀ {x : Str} {o2 : Obj} {n2 : Nat}, Al 200 x → IsBox o2 n2 → n2 ≤ m + 200 → ∃ x' o3, finish f13 h.length (.str x) (h.set r o2) = .ok (.str x') (h.set r o3) ∧ Al 200 x' ∧ IsBox o3 (m + 200) := fun {x o2 n2} a b hn2 => ⟨x, o2, fin_r rfl rfl, a, b.mono hn2⟩
    obtain ⟨j, rfl⟩ := nat_of p7
    have u1 := At.cut none (some (j : Int))
    have u2 := At.cut (some (j : Int)) none
    have u3 := At.cut (some ((j : Int) + 1)) none
    have u4 := At.cut (some (j : Int)) (some ((j : Int) + 1))
    generalize hc : (⟨#[c]⟩ : Str) = cc at *
    unfold b13_4
    walk_at "mp"
    rw [bi_len_s _ lt]
    walk_at "mp"
    rw [e7]
    walk_at "mp"
    unfold b13_5
    walk_at "mp"
    by_cases c2 : v1 < 2
    · rw [decide_eq_true c2]
      walk_at "mp"
      try simp only [s1]
      walk_at "mp"
      rw [if_pos (by have := u1.len; have := ac6.len; omega)]
      walk_at "mp"
      try simp only [s1]
      walk_at "mp"
      rw [if_pos (by have := (u1.app ac6).len; have := u2.len; omega)]
      walk_at "mp"
      exact fin2 (((u1.app ac6).app u2).mono (by decide)) B7 (by omega)
    · rw [decide_eq_false c2]
      walk_at "mp"
      unfold b13_6
      walk_at "mp"
      by_cases c3 : v1 = 2
      · rw [decide_eq_true c3]
        walk_at "mp"
        try simp only [s1]
        walk_at "mp"
        try simp only [s1]
        walk_at "mp"
        rw [if_pos (by have := u1.len; have := u3.len; omega)]
        walk_at "mp"
        exact fin2 ((u1.app u3).mono (by decide)) B7 (by omega)
      · rw [decide_eq_false c3]
        walk_at "mp"
        unfold b13_7
        walk_at "mp"
        by_cases c4 : v1 = 3
        · rw [decide_eq_true c4]
          walk_at "mp"
          try simp only [s1]
          walk_at "mp"
          rw [if_pos (by have := u1.len; have := ac6.len; omega)]
          walk_at "mp"
          try simp only [s1]
          walk_at "mp"
          rw [if_pos (by have := (u1.app ac6).len; have := u3.len; omega)]
          walk_at "mp"
          exact fin2 (((u1.app ac6).app u3).mono (by decide)) B7 (by omega)
        · rw [decide_eq_false c4]
          walk_at "mp"
          unfold b13_8
          walk_at "mp"
          by_cases c5 : v1 = 4
          · rw [decide_eq_true c5]
            walk_at "mp"
            try simp only [s1]
            walk_at "mp"
            try simp only [s1]
            walk_at "mp"
            rw [if_pos (by have := u1.len; have := u4.len; omega)]
            walk_at "mp"
            try simp only [s1]
            walk_at "mp"
            rw [if_pos (by have := (u1.app u4).len; have := u2.len; omega)]
            walk_at "mp"
            exact fin2 (((u1.app u4).app u2).mono (by decide)) B7 (by omega)
          · rw [decide_eq_false c5]
            walk_at "mp"
            unfold b13_9
            walk_at "mp"
            by_cases c6 : v1 = 5
            · obtain ⟨v8, o8, e8, p8, q8, B8⟩ := take9 (W := W) (k := k + 1) 12 (set_get (o' := o7) hr) B7 (by omega) (by decide) (by decide +kernel)
              rw [List.set_set] at e8
              obtain ⟨y, ey, my⟩ := at_mem (l := [.str cc, .str "", .str "-", .str "/", .str "0", .str "-0", .str "1/", .str "/1", .str "0/1", .str "2/4", .str "3/1", .str "1/-2"]) p8 (by show v8 < 12; omega)
              obtain ⟨s1, rfl, as1⟩ : ∃ s1 : Str, y = .str s1 ∧ Al 200 s1 := by
                simp only [List.mem_cons, List.not_mem_nil, or_false] at my
                rcases my with rfl | rfl | rfl | rfl | rfl | rfl | rfl | rfl | rfl | rfl | rfl | rfl
                · exact ⟨_, rfl, ac6.mono (by decide)⟩
                all_goals exact ⟨_, rfl, al_of (by decide +kernel) (by decide +kernel)⟩
              rw [decide_eq_true c6]
              walk_at "mp"
              rw [e8]
              walk_at "mp"
              rw [ey]
              walk_at "mp"
              exact fin2 as1 B8 (by omega)
            · rw [decide_eq_false c6]
              walk_at "mp"
              unfold b13_10
              walk_at "mp"
              exact fin2 (At.mono (by decide)) B7 (by omega)
  have pcl : pgC.length + (pgA ++ pgB).length ≤ 16777216 := by
    have := pgC_al.len
    have := (pgA_al.app pgB_al).len
    omega
  unfold b13 b13_0
  walk_at "mp"
  rw [e1]
  walk_at "mp"
  rw [eb]
  generalize pgC = PC at *
  generalize pgA ++ pgB = PAB at *
  walk_at "mp"
  rw [pg]
  walk_at "mp"
  rw [if_pos pcl]
  walk_at "mp"
  rw [e2]
  walk_at "mp"
  rw [ixR_s _ _ pl, ec]
  walk_at "mp"
  unfold b13_2
  walk_at "mp"
  rw [e3]
  walk_at "mp"
  rw [ey]
  walk_at "mp"
  rw [e4]
  walk_at "mp"
  rw [if_pos (by have := as0.len; have := A4.len; omega)]
  walk_at "mp"
  unfold b13_3
  walk_at "mp"
  rw [e5]
  walk_at "mp"
  by_cases c5 : v5 = 0
  · rw [decide_eq_true c5]
    walk_at "mp"
    rw [if_pos (by have := A1.len; have := asl.len; omega)]
    walk_at "mp"
    rw [e6]
    walk_at "mp"
    rw [if_pos (by have := (A1.app asl).len; have := A6.len; omega)]
    walk_at "mp"
    exact tail _ _ _ (((A1.app asl).app A6).mono (by decide)) B6 (by omega)
  · rw [decide_eq_false c5]
    walk_at "mp"
    exact tail _ _ _ (A1.mono (by decide)) B5 (by omega)
end

end MP.G
namespace MP.G
open PySem
local macro_rules | `(tactic| walk_at "mp") => `(tactic| try simp only [e_var, e_con, e_bt, e_glo, e_d0, e_d1, e_tup, e_lst, e_bin, e_neg, e_cmp, e_chn, e_sl, e_lc, e_and, e_or, e_not, e_ife, e_rev, rev_t, e_cal, e_bi, e_bm, e_ix, es_nl, es_cs, o_nl, o_cs, t_nl, t_and, t_or, t_not, t_cmp, t_chn, t_tst, i_seq, i_rng, r_unl, asL_r, asL_l, e_cl, e_new, e_fld, e_mth, e_xf, e_xi, e_xt, e_isC, e_tm, e_itx, e_fmt, e_fst, strV_s, tm_sw, tm_find, e_lH, e_xiT, xk_x, xkG_n, xiT_2, i_zip, i_enu, r_brk, r_setf, r_rais, r_tri, cf_call, cf_call1, cf_W, cf_t, cf_lv, cx_t, tri_nx, tri_rt, tri_bk, tri_exc, slot_s, slot_n, unx_s, unx_n, unx_r, xf_x, xfO_n, xi_x, xiO_n, xt_x, xtO_n, rais_0, rais_1, new_v, newO_i, setf_r, bi_any, bi_all, bi_tup, bi_lst, bi_repr, bi_str, zip_t, zip_l, zip_tl, rv_ins, rv_cls, rv_dct, isLst_l, r_nop, r_seq, r_asg, r_asgc, r_par, r_setix, r_ret, r_exp, r_ite, r_whl, r_for, r_scope, r_gif, r_aug, intO_i, st_nm, st_tup, st_nl, st_cs, st_2, bin_ii, bin_add, bin_sub, bin_ss, bin_tt, cmp_ii, cmp_eq, cmp_ne, cmp_lt, cmp_le, cmp_gt, cmp_ge, cmp_ss, cs_eq, cs_ne, cs_lt, cs_gt, cs_in, cs_nin, seq_lst, seq_rol, seq_tup, bi_abs, bi_max, bi_min, bi_int_i, bi_int_b, bi_len_l, bi_len_r, bi_len_t, bi_len_h, bi_isi, ty_non, ty_bl, ty_int, ty_str, ty_tup, ty_lst, ty_rol, ty_dct, bm_bits, bt_bits, bt_rev, bt_app, bt_join, bm_join, kit_int_int, kit_int_bool, kit_int_str, kit_int_list, kit_int_tuple, kit_int_dict, kit_bool_int, kit_bool_bool, kit_bool_str, kit_bool_list, kit_bool_tuple, kit_bool_dict, kit_str_int, kit_str_bool, kit_str_str, kit_str_list, kit_str_tuple, kit_str_dict, kit_none_int, kit_none_bool, kit_none_str, kit_none_list, kit_none_tuple, kit_none_dict, kit_list_int, kit_list_bool, kit_list_str, kit_list_list, kit_list_tuple, kit_list_dict, kit_tuple_int, kit_tuple_bool, kit_tuple_str, kit_tuple_list, kit_tuple_tuple, kit_tuple_dict, kit_dict_int, kit_dict_bool, kit_dict_str, kit_dict_list, kit_dict_tuple, kit_dict_dict, seqI_l, seqI_r, seqI_t, seqI_s, varR_ok, andR_t, andR_f, orR_t, orR_f, notR_b, negR_i, partR_i, tru_b, tru_i, tru_n, ixR_l, ixR_r, ixR_t, ixR_h, at0, at1, at2, at3, at4, at5, at6, at7, at8, at9, at10, at11, at12, at13, bind_ok, bind_exc, bind_bad, noX_ok, noX_bad, opt_some, opt_none, out_ok, out_exc, out_bad, oopt_some, oopt_none, thn_nx, thn_rt, thn_bk, thn_ct, thn_exc, thn_bad, turn_nx, turn_ct, turn_bk, turn_rt, turn_exc, turn_bad, trim_nx, trim_bk, trim_ct, trim_rt, trim_exc, trim_bad, end_nx, end_rt, end_exc, objL_s, seq_refO, setix_ref, setL_0, setL_1, setL_2, bm_rev, Option.map_some, List.reverse_cons, List.reverse_nil, fl_nil, fl_cons, tupR_v, lstR_v, lstR_h, rl_nil, rl_cons, rv_int, rv_bl, rv_non, rv_str, rv_tup, rv_lst, Bool.and_self, Bool.and_true, Bool.true_and, List.length_cons, List.length_nil, Nat.zero_add, Nat.reduceAdd, Nat.reduceLeDiff, p10_6, p10_9, p10_10, p10_12, p10_18, p10_27, p10_30, List.getElem?_cons_zero, List.getElem?_cons_succ, List.set_cons_zero, List.set_cons_succ, List.map_cons, List.map_nil, List.cons_append, List.nil_append, List.append_nil, List.replicate, Nat.sub_self, Nat.reduceSub, Option.bind_some, decide_true, decide_false, Bool.not_true, Bool.not_false, if_true, if_false, Bool.false_eq_true, ↓reduceIte, reduceCtorEq, gv_0, tisX_0, txf_0, tsub_0_0, tsub_0_1, traise_0, tisX_1, txf_1, tsub_1_0, tsub_1_1, traise_1])
local macro_rules | `(tactic| walk_at "mph") => `(tactic| try simp only [*, bin_mod, bin_mul, ne_eq, Int.reduceEq, not_false_eq_true, e_var, e_con, e_bt, e_glo, e_d0, e_d1, e_tup, e_lst, e_bin, e_neg, e_cmp, e_chn, e_sl, e_lc, e_and, e_or, e_not, e_ife, e_rev, rev_t, e_cal, e_bi, e_bm, e_ix, es_nl, es_cs, o_nl, o_cs, t_nl, t_and, t_or, t_not, t_cmp, t_chn, t_tst, i_seq, i_rng, r_unl, asL_r, asL_l, e_cl, e_new, e_fld, e_mth, e_xf, e_xi, e_xt, e_isC, e_tm, e_itx, e_fmt, e_fst, strV_s, tm_sw, tm_find, e_lH, e_xiT, xk_x, xkG_n, xiT_2, i_zip, i_enu, r_brk, r_setf, r_rais, r_tri, cf_call, cf_call1, cf_W, cf_t, cf_lv, cx_t, tri_nx, tri_rt, tri_bk, tri_exc, slot_s, slot_n, unx_s, unx_n, unx_r, xf_x, xfO_n, xi_x, xiO_n, xt_x, xtO_n, rais_0, rais_1, new_v, newO_i, setf_r, bi_any, bi_all, bi_tup, bi_lst, bi_repr, bi_str, zip_t, zip_l, zip_tl, rv_ins, rv_cls, rv_dct, isLst_l, r_nop, r_seq, r_asg, r_asgc, r_par, r_setix, r_ret, r_exp, r_ite, r_whl, r_for, r_scope, r_gif, r_aug, intO_i, st_nm, st_tup, st_nl, st_cs, st_2, bin_ii, bin_add, bin_sub, bin_ss, bin_tt, cmp_ii, cmp_eq, cmp_ne, cmp_lt, cmp_le, cmp_gt, cmp_ge, cmp_ss, cs_eq, cs_ne, cs_lt, cs_gt, cs_in, cs_nin, seq_lst, seq_rol, seq_tup, bi_abs, bi_max, bi_min, bi_int_i, bi_int_b, bi_len_l, bi_len_r, bi_len_t, bi_len_h, bi_isi, ty_non, ty_bl, ty_int, ty_str, ty_tup, ty_lst, ty_rol, ty_dct, bm_bits, bt_bits, bt_rev, bt_app, bt_join, bm_join, kit_int_int, kit_int_bool, kit_int_str, kit_int_list, kit_int_tuple, kit_int_dict, kit_bool_int, kit_bool_bool, kit_bool_str, kit_bool_list, kit_bool_tuple, kit_bool_dict, kit_str_int, kit_str_bool, kit_str_str, kit_str_list, kit_str_tuple, kit_str_dict, kit_none_int, kit_none_bool, kit_none_str, kit_none_list, kit_none_tuple, kit_none_dict, kit_list_int, kit_list_bool, kit_list_str, kit_list_list, kit_list_tuple, kit_list_dict, kit_tuple_int, kit_tuple_bool, kit_tuple_str, kit_tuple_list, kit_tuple_tuple, kit_tuple_dict, kit_dict_int, kit_dict_bool, kit_dict_str, kit_dict_list, kit_dict_tuple, kit_dict_dict, seqI_l, seqI_r, seqI_t, seqI_s, varR_ok, andR_t, andR_f, orR_t, orR_f, notR_b, negR_i, partR_i, tru_b, tru_i, tru_n, ixR_l, ixR_r, ixR_t, ixR_h, at0, at1, at2, at3, at4, at5, at6, at7, at8, at9, at10, at11, at12, at13, bind_ok, bind_exc, bind_bad, noX_ok, noX_bad, opt_some, opt_none, out_ok, out_exc, out_bad, oopt_some, oopt_none, thn_nx, thn_rt, thn_bk, thn_ct, thn_exc, thn_bad, turn_nx, turn_ct, turn_bk, turn_rt, turn_exc, turn_bad, trim_nx, trim_bk, trim_ct, trim_rt, trim_exc, trim_bad, end_nx, end_rt, end_exc, objL_s, seq_refO, setix_ref, setL_0, setL_1, setL_2, bm_rev, Option.map_some, List.reverse_cons, List.reverse_nil, fl_nil, fl_cons, tupR_v, lstR_v, lstR_h, rl_nil, rl_cons, rv_int, rv_bl, rv_non, rv_str, rv_tup, rv_lst, Bool.and_self, Bool.and_true, Bool.true_and, List.length_cons, List.length_nil, Nat.zero_add, Nat.reduceAdd, Nat.reduceLeDiff, p10_6, p10_9, p10_10, p10_12, p10_18, p10_27, p10_30, List.getElem?_cons_zero, List.getElem?_cons_succ, List.set_cons_zero, List.set_cons_succ, List.map_cons, List.map_nil, List.cons_append, List.nil_append, List.append_nil, List.replicate, Nat.sub_self, Nat.reduceSub, Option.bind_some, decide_true, decide_false, Bool.not_true, Bool.not_false, if_true, if_false, Bool.false_eq_true, ↓reduceIte, reduceCtorEq, gv_0, tisX_0, txf_0, tsub_0_0, tsub_0_1, traise_0, tisX_1, txf_1, tsub_1_0, tsub_1_1, traise_1])
local macro_rules | `(tactic| walk_at "mpi") => `(tactic| try simp only [Int.reduceEq, Int.reduceLT, Int.reduceLE, Int.reduceAdd, ne_eq, not_true_eq_false, not_false_eq_true, e_var, e_con, e_bt, e_glo, e_d0, e_d1, e_tup, e_lst, e_bin, e_neg, e_cmp, e_chn, e_sl, e_lc, e_and, e_or, e_not, e_ife, e_rev, rev_t, e_cal, e_bi, e_bm, e_ix, es_nl, es_cs, o_nl, o_cs, t_nl, t_and, t_or, t_not, t_cmp, t_chn, t_tst, i_seq, i_rng, r_unl, asL_r, asL_l, e_cl, e_new, e_fld, e_mth, e_xf, e_xi, e_xt, e_isC, e_tm, e_itx, e_fmt, e_fst, strV_s, tm_sw, tm_find, e_lH, e_xiT, xk_x, xkG_n, xiT_2, i_zip, i_enu, r_brk, r_setf, r_rais, r_tri, cf_call, cf_call1, cf_W, cf_t, cf_lv, cx_t, tri_nx, tri_rt, tri_bk, tri_exc, slot_s, slot_n, unx_s, unx_n, unx_r, xf_x, xfO_n, xi_x, xiO_n, xt_x, xtO_n, rais_0, rais_1, new_v, newO_i, setf_r, bi_any, bi_all, bi_tup, bi_lst, bi_repr, bi_str, zip_t, zip_l, zip_tl, rv_ins, rv_cls, rv_dct, isLst_l, r_nop, r_seq, r_asg, r_asgc, r_par, r_setix, r_ret, r_exp, r_ite, r_whl, r_for, r_scope, r_gif, r_aug, intO_i, st_nm, st_tup, st_nl, st_cs, st_2, bin_ii, bin_add, bin_sub, bin_ss, bin_tt, cmp_ii, cmp_eq, cmp_ne, cmp_lt, cmp_le, cmp_gt, cmp_ge, cmp_ss, cs_eq, cs_ne, cs_lt, cs_gt, cs_in, cs_nin, seq_lst, seq_rol, seq_tup, bi_abs, bi_max, bi_min, bi_int_i, bi_int_b, bi_len_l, bi_len_r, bi_len_t, bi_len_h, bi_isi, ty_non, ty_bl, ty_int, ty_str, ty_tup, ty_lst, ty_rol, ty_dct, bm_bits, bt_bits, bt_rev, bt_app, bt_join, bm_join, kit_int_int, kit_int_bool, kit_int_str, kit_int_list, kit_int_tuple, kit_int_dict, kit_bool_int, kit_bool_bool, kit_bool_str, kit_bool_list, kit_bool_tuple, kit_bool_dict, kit_str_int, kit_str_bool, kit_str_str, kit_str_list, kit_str_tuple, kit_str_dict, kit_none_int, kit_none_bool, kit_none_str, kit_none_list, kit_none_tuple, kit_none_dict, kit_list_int, kit_list_bool, kit_list_str, kit_list_list, kit_list_tuple, kit_list_dict, kit_tuple_int, kit_tuple_bool, kit_tuple_str, kit_tuple_list, kit_tuple_tuple, kit_tuple_dict, kit_dict_int, kit_dict_bool, kit_dict_str, kit_dict_list, kit_dict_tuple, kit_dict_dict, seqI_l, seqI_r, seqI_t, seqI_s, varR_ok, andR_t, andR_f, orR_t, orR_f, notR_b, negR_i, partR_i, tru_b, tru_i, tru_n, ixR_l, ixR_r, ixR_t, ixR_h, at0, at1, at2, at3, at4, at5, at6, at7, at8, at9, at10, at11, at12, at13, bind_ok, bind_exc, bind_bad, noX_ok, noX_bad, opt_some, opt_none, out_ok, out_exc, out_bad, oopt_some, oopt_none, thn_nx, thn_rt, thn_bk, thn_ct, thn_exc, thn_bad, turn_nx, turn_ct, turn_bk, turn_rt, turn_exc, turn_bad, trim_nx, trim_bk, trim_ct, trim_rt, trim_exc, trim_bad, end_nx, end_rt, end_exc, objL_s, seq_refO, setix_ref, setL_0, setL_1, setL_2, bm_rev, Option.map_some, List.reverse_cons, List.reverse_nil, fl_nil, fl_cons, tupR_v, lstR_v, lstR_h, rl_nil, rl_cons, rv_int, rv_bl, rv_non, rv_str, rv_tup, rv_lst, Bool.and_self, Bool.and_true, Bool.true_and, List.length_cons, List.length_nil, Nat.zero_add, Nat.reduceAdd, Nat.reduceLeDiff, p10_6, p10_9, p10_10, p10_12, p10_18, p10_27, p10_30, List.getElem?_cons_zero, List.getElem?_cons_succ, List.set_cons_zero, List.set_cons_succ, List.map_cons, List.map_nil, List.cons_append, List.nil_append, List.append_nil, List.replicate, Nat.sub_self, Nat.reduceSub, Option.bind_some, decide_true, decide_false, Bool.not_true, Bool.not_false, if_true, if_false, Bool.false_eq_true, ↓reduceIte, reduceCtorEq, gv_0, tisX_0, txf_0, tsub_0_0, tsub_0_1, traise_0, tisX_1, txf_1, tsub_1_0, tsub_1_1, traise_1])
/-! ### numbers as texts -/
def tI (i : Int) : Str := Str.ofString (toString i)
theorem ts_neg (m : Nat) : ts (tI (Int.negSucc m)) = 45 :: TL.numL (m + 1) := by
  have e : tI (Int.negSucc m) = Str.ofString ("-" ++ toString (m + 1)) := rfl
  show TL.tl (tI (Int.negSucc m)) = _
  rw [e, TL.tl_ofString, String.toList_append, List.map_append]
  have e2 : TL.tl (Str.ofString (toString ((m + 1 : Nat) : Int))) = TL.numL (m + 1) := TL.tl_num (m + 1)
  rw [TL.tl_ofString] at e2
  have e3 : (toString ((m + 1 : Nat) : Int)) = toString (m + 1) := rfl
  rw [e3] at e2
  rw [e2]
  rfl
theorem ts_pos (n : Nat) : ts (tI (n : Int)) = TL.numL n := TL.tl_num n
theorem numL_head : ∀ n : Nat, 0 < n → (TL.numL n).head? ≠ some 48 := by
  intro n
  induction n using Nat.strongRecOn with
  | _ n ih =>
    intro h0
    by_cases h : n < 10
    · rw [TL.numL_lt h]
      intro z
      have z : some (48 + n) = some 48 := z
      have := Option.some.inj z
      omega
    · rw [TL.numL_step (by omega)]
      have hd := ih (n / 10) (by omega) (by omega)
      have ne := TL.numL_ne (n / 10)
      cases e : TL.numL (n / 10) with
      | nil => exact absurd e ne
      | cons c r =>
        rw [e] at hd
        exact hd
theorem numL_all (n : Nat) : (TL.numL n).all (fun c => decide (48 ≤ c) && decide (c ≤ 57)) = true := by
  rw [List.all_eq_true]
  intro c mc
  have := TL.numL_digits n c mc
  rw [decide_eq_true this.1, decide_eq_true this.2]
  rfl
theorem numL_30 (n : Nat) : decide ((TL.numL n).length ≤ 30) = decide (n < 10 ^ 30) := by
  by_cases c : n < 10 ^ 30
  · rw [decide_eq_true c, decide_eq_true (TL.numL_len (by decide) c)]
  · rw [decide_eq_false c]
    refine decide_eq_false fun z => c ?_
    have lt := fold_lt (TL.numL n) 0 (TL.numL_digits n)
    have le : 10 ^ (TL.numL n).length ≤ 10 ^ 30 := Nat.pow_le_pow_right (by decide) z
    have v := TL.numL_val n
    have v : (TL.numL n).foldl (fun acc c => acc * 10 + (c - 48)) 0 = n := v
    omega
theorem okF_num (n : Nat) : okF (TL.numL n) = decide (n < 10 ^ 30) := by
  unfold okF
  have : 1 ≤ (TL.numL n).length := by
    have := TL.numL_ne n
    cases e : TL.numL n with
    | nil => exact absurd e this
    | cons _ _ => rw [List.length_cons]; omega
  rw [numL_all, numL_30, decide_eq_true this, Bool.true_and, Bool.and_true]
theorem fg_pos (n : Nat) : fg (TL.numL n) = TL.numL n := by
  unfold fg
  refine if_neg fun z => ?_
  have := TL.numL_digits n
  cases e : TL.numL n with
  | nil => rw [e] at z; cases z
  | cons c r =>
    rw [e] at z this
    cases z
    have := this 45 (by simp)
    omega
theorem rd_num (i : Int) : rd (ts (tI i)) = if i.natAbs < 10 ^ 30 then some i else none := by
  cases i with
  | ofNat n =>
    show rd (ts (tI (n : Int))) = _
    rw [ts_pos]
    unfold rd
    rw [fg_pos, okF_num]
    have hm : ¬ (TL.numL n).head? = some 45 := fun z => by
      have := TL.numL_digits n
      cases e : TL.numL n with
      | nil => rw [e] at z; cases z
      | cons c r =>
        rw [e] at z this
        cases z
        have := this 45 (by simp)
        omega
    have zz : (decide ((TL.numL n).head? = some 48) && !decide (TL.numL n = [48])) = false := by
      rcases Nat.eq_zero_or_pos n with e | e
      · subst e
        have : TL.numL 0 = [48] := TL.numL_lt (by decide)
        rw [this]
        rfl
      · rw [decide_eq_false (numL_head n e)]
        rfl
    rw [zz, if_neg hm, TL.numL_val]
    have en : (Int.ofNat n).natAbs = n := rfl
    rw [en]
    by_cases c : n < 10 ^ 30
    · rw [decide_eq_true c, if_pos c]; rfl
    · rw [decide_eq_false c, if_neg c]; rfl
  | negSucc m =>
    rw [ts_neg]
    unfold rd
    have ef : fg (45 :: TL.numL (m + 1)) = TL.numL (m + 1) := rfl
    rw [ef, okF_num]
    have zz : (decide ((TL.numL (m + 1)).head? = some 48) && !decide (45 :: TL.numL (m + 1) = [48])) = false := by
      rw [decide_eq_false (numL_head (m + 1) (by omega))]
      rfl
    rw [zz, if_pos (show (45 :: TL.numL (m + 1)).head? = some 45 from rfl), TL.numL_val]
    have en : (Int.negSucc m).natAbs = m + 1 := rfl
    rw [en]
    by_cases c : m + 1 < 10 ^ 30
    · rw [decide_eq_true c, if_pos c]; rfl
    · rw [decide_eq_false c, if_neg c]; rfl
theorem tI_slash (i : Int) : 47 ∉ ts (tI i) := by
  cases i with
  | ofNat n =>
    show 47 ∉ ts (tI (n : Int))
    rw [ts_pos]
    exact TL.numL_free (.inl (by decide))
  | negSucc m =>
    rw [ts_neg]
    intro z
    rcases List.mem_cons.mp z with z | z
    · cases z
    · exact TL.numL_free (.inl (by decide)) z
theorem tI_al {i : Int} (h : bits i ≤ 1300) : Al 400 (tI i) := by
  have hn : i.natAbs < 10 ^ 399 := by
    have h1 := lt_bits i
    have h2 := Nat.lt_of_lt_of_le h1 (two_le h)
    exact Nat.lt_of_lt_of_le h2 (by decide +kernel)
  cases i with
  | ofNat n =>
    have e : ts (tI (Int.ofNat n)) = TL.numL n := ts_pos n
    refine ⟨fun c mc => ?_, ?_⟩
    · rw [e] at mc
      have := TL.numL_digits n c mc
      omega
    · rw [← ts_len, e]
      have := TL.numL_len (n := n) (k := 399) (by decide) hn
      omega
  | negSucc m =>
    have e := ts_neg m
    refine ⟨fun c mc => ?_, ?_⟩
    · rw [e] at mc
      rcases List.mem_cons.mp mc with z | z
      · omega
      · have := TL.numL_digits (m + 1) c z
        omega
    · rw [← ts_len, e, List.length_cons]
      have := TL.numL_len (n := m + 1) (k := 399) (by decide) hn
      omega
/-- a fraction's text -/
def fT (t b : Int) : Str := if b = 1 then tI t else tI t ++ "/" ++ tI b
theorem rf_text {t b : Int} (hb : 1 ≤ b) (hg : Int.gcd t b = 1) : rf (ts (fT t b)) = if t.natAbs < 10 ^ 30 ∧ b.natAbs < 10 ^ 30 then some (t, b) else none := by
  unfold fT
  by_cases c : b = 1
  · rw [if_pos c]
    unfold rf
    rw [TL.par_none1 (tI_slash t), rd_num]
    subst c
    have : (1 : Int).natAbs < 10 ^ 30 := by decide
    by_cases z : t.natAbs < 10 ^ 30
    · rw [if_pos z, if_pos ⟨z, this⟩]; rfl
    · rw [if_neg z, if_neg fun y => z y.1]; rfl
  · rw [if_neg c]
    have e : ts (tI t ++ "/" ++ tI b) = ts (tI t) ++ ([47] ++ ts (tI b)) := by
      have e1 : ts (tI t ++ "/" ++ tI b) = ts (tI t ++ "/") ++ ts (tI b) := TL.tl_append _ _
      have e2 : ts (tI t ++ "/") = ts (tI t) ++ ts ("/" : Str) := TL.tl_append _ _
      rw [e1, e2, show ts ("/" : Str) = [47] by decide +kernel, List.append_assoc]
    unfold rf
    have pp := TL.par_part1 (s := 47) (S := []) (p := ts (tI t)) (rest := ts (tI b)) (acc := []) (tI_slash t)
    rw [e]
    have pp : TL.par [47] [] (ts (tI t) ++ ([47] ++ ts (tI b))) = some (ts (tI t), ts (tI b)) := pp
    rw [pp]
    show ((rd (ts (tI t))).bind fun t => (rd (ts (tI b))).bind fun b => if 2 ≤ b ∧ Int.gcd t b = 1 then some (t, b) else none) = _
    rw [rd_num, rd_num]
    by_cases z : t.natAbs < 10 ^ 30
    · by_cases y : b.natAbs < 10 ^ 30
      · rw [if_pos z, if_pos y, if_pos ⟨z, y⟩]
        show (if 2 ≤ b ∧ Int.gcd t b = 1 then some (t, b) else none) = _
        rw [if_pos ⟨by omega, hg⟩]
      · rw [if_pos z, if_neg y, if_neg fun w => y w.2]; rfl
    · rw [if_neg z, if_neg (show ¬ (t.natAbs < 10 ^ 30 ∧ b.natAbs < 10 ^ 30) from fun w => z w.1)]; rfl
theorem shown_i {h : Heap} {i : Int} (hi : bits i ≤ 1300) : shownO h (.int i) = some (tI i) := by
  obtain ⟨z, e, _, _⟩ := (Gd.int (n := 0) hi (by decide)).shown (by decide) (by decide)
  have e2 := e h
  rw [e2]
  unfold shownO at e2
  have : dataW h (.int i) = some (.int i) := rfl
  rw [this] at e2
  have e2 : (if (PyData.int i).showable = true ∧ (PyData.int i).depth ≤ 20 ∧ (PyData.int i).shown.length ≤ 1000000 ∧ ((PyData.int i).hasDict = false ∨ noLst (.int i) = true) then some (PyData.int i).shown else none) = some z := e2
  split at e2
  · cases e2
    rfl
  · cases e2
section
variable {W k : Nat} {h : Heap}
theorem str_e (x : Str) : Str.empty ++ x = x := TL.ext_tl (by rw [TL.tl_append]; rfl)
/-- frac_text -/
theorem ftext5 {t b : Int} (ht : bits t ≤ 1300) (hb : bits b ≤ 1300) : callF P W tb (k + 1) 5 [.tup [.int t, .int b]] h = .ok (.str (fT t b)) h := by
  rw [callF_go (f := f5) rfl b5 0]
  have f1 : ∀ {i : Int}, bits i ≤ 1300 → fmtO (.int i) = some (tI i) := fun {i} hi => if_pos ⟨log_bits hi (by decide), Nat.le_trans (tI_al hi).len (by decide)⟩
  have s1 : strO h (.int t) = some (tI t) := shown_i (h := h) ht
  have fs : fstO [.str (tI t), .str "/", .str (tI b)] = some (tI t ++ "/" ++ tI b) := by
    show some (Str.empty ++ tI t ++ "/" ++ tI b) = _
    rw [str_e]
  unfold fT
  unfold b5 b5_0
  walk_at "mp"
  by_cases c : b = 1
  · rw [decide_eq_true c, if_pos c]
    walk_at "mp"
    rw [s1]
    walk_at "mp"
    exact finish_p rfl rfl (List.take_length ..)
  · rw [decide_eq_false c, if_neg c]
    walk_at "mp"
    unfold b5_1
    walk_at "mp"
    rw [f1 ht]
    walk_at "mp"
    rw [f1 hb]
    walk_at "mp"
    rw [fs]
    walk_at "mp"
    exact finish_p rfl rfl (List.take_length ..)
theorem wh0 (a : Int) : callF P W tb (k + 1) 0 [.int a] h = .ok (.bl true) h := by
  rw [callF_go (f := f0) rfl b0 0]
  unfold b0 b0_0
  walk_at "mp"
  exact finish_b rfl
/-- frac of a fraction in lowest terms -/
theorem frac4 {t b : Int} (ht : bits t ≤ 1300) (hb : bits b ≤ 1300) (b1 : 1 ≤ b) (hg : Int.gcd t b = 1) (hW : 2 ^ 9000 ≤ W) : callF P W tb (k + 3) 4 [.int t, .int b] h = .ok (.tup [.int t, .int b]) h := by
  have bw : b.natAbs < W := by
    have h1 := lt_bits b
    have h2 := Nat.lt_of_lt_of_le h1 (two_le (show bits b ≤ 9000 by omega))
    exact Nat.lt_of_lt_of_le h2 hW
  have e1 := com2 (W := W) (k := k) (h := h) (a := t) (b := b) bw
  rw [hg] at e1
  have e3 : callF P W tb (k + 2) 3 [.int t, .int b] h = .ok (.tup [.int t, .int b]) h := by
    rw [callF_go (f := f3) rfl b3 1]
    have d1 : ∀ a : Int, binI .FloorDiv a 1 = some (.int a) := fun a => by
      rw [bin_div (by decide) (pylong_small (by decide +kernel))]
      rw [Int.fdiv_one]
    unfold b3 b3_0
    walk_at "mp"
    rw [e1]
    walk_at "mp"
    unfold b3_1
    walk_at "mp"
    rw [decide_eq_false (show ¬ b < 0 by omega)]
    walk_at "mp"
    unfold b3_2
    walk_at "mp"
    rw [show ((1 : Nat) : Int) = 1 from rfl, d1, opt_some, bind_ok, d1]
    walk_at "mp"
    exact finish_p rfl rfl (List.take_length ..)
  rw [callF_go (f := f4) rfl b4 0]
  have w1 := wh0 (W := W) (k := k + 1) (h := h) t
  have w2 := wh0 (W := W) (k := k + 1) (h := h) b
  unfold b4 b4_0
  walk_at "mp"
  rw [w1]
  walk_at "mp"
  rw [w2]
  walk_at "mp"
  rw [decide_eq_false (show ¬ b = 0 by omega)]
  walk_at "mp"
  unfold b4_1
  walk_at "mp"
  rw [e3]
  walk_at "mp"
  exact finish_p rfl rfl (List.take_length ..)
end

end MP.G
namespace MP.G
open PySem
local macro_rules | `(tactic| walk_at "mp") => `(tactic| try simp only [e_var, e_con, e_bt, e_glo, e_d0, e_d1, e_tup, e_lst, e_bin, e_neg, e_cmp, e_chn, e_sl, e_lc, e_and, e_or, e_not, e_ife, e_rev, rev_t, e_cal, e_bi, e_bm, e_ix, es_nl, es_cs, o_nl, o_cs, t_nl, t_and, t_or, t_not, t_cmp, t_chn, t_tst, i_seq, i_rng, r_unl, asL_r, asL_l, e_cl, e_new, e_fld, e_mth, e_xf, e_xi, e_xt, e_isC, e_tm, e_itx, e_fmt, e_fst, strV_s, tm_sw, tm_find, e_lH, e_xiT, xk_x, xkG_n, xiT_2, i_zip, i_enu, r_brk, r_setf, r_rais, r_tri, cf_call, cf_call1, cf_W, cf_t, cf_lv, cx_t, tri_nx, tri_rt, tri_bk, tri_exc, slot_s, slot_n, unx_s, unx_n, unx_r, xf_x, xfO_n, xi_x, xiO_n, xt_x, xtO_n, rais_0, rais_1, new_v, newO_i, setf_r, bi_any, bi_all, bi_tup, bi_lst, bi_repr, bi_str, zip_t, zip_l, zip_tl, rv_ins, rv_cls, rv_dct, isLst_l, r_nop, r_seq, r_asg, r_asgc, r_par, r_setix, r_ret, r_exp, r_ite, r_whl, r_for, r_scope, r_gif, r_aug, intO_i, st_nm, st_tup, st_nl, st_cs, st_2, bin_ii, bin_add, bin_sub, bin_ss, bin_tt, cmp_ii, cmp_eq, cmp_ne, cmp_lt, cmp_le, cmp_gt, cmp_ge, cmp_ss, cs_eq, cs_ne, cs_lt, cs_gt, cs_in, cs_nin, seq_lst, seq_rol, seq_tup, bi_abs, bi_max, bi_min, bi_int_i, bi_int_b, bi_len_l, bi_len_r, bi_len_t, bi_len_h, bi_isi, ty_non, ty_bl, ty_int, ty_str, ty_tup, ty_lst, ty_rol, ty_dct, bm_bits, bt_bits, bt_rev, bt_app, bt_join, bm_join, kit_int_int, kit_int_bool, kit_int_str, kit_int_list, kit_int_tuple, kit_int_dict, kit_bool_int, kit_bool_bool, kit_bool_str, kit_bool_list, kit_bool_tuple, kit_bool_dict, kit_str_int, kit_str_bool, kit_str_str, kit_str_list, kit_str_tuple, kit_str_dict, kit_none_int, kit_none_bool, kit_none_str, kit_none_list, kit_none_tuple, kit_none_dict, kit_list_int, kit_list_bool, kit_list_str, kit_list_list, kit_list_tuple, kit_list_dict, kit_tuple_int, kit_tuple_bool, kit_tuple_str, kit_tuple_list, kit_tuple_tuple, kit_tuple_dict, kit_dict_int, kit_dict_bool, kit_dict_str, kit_dict_list, kit_dict_tuple, kit_dict_dict, seqI_l, seqI_r, seqI_t, seqI_s, varR_ok, andR_t, andR_f, orR_t, orR_f, notR_b, negR_i, partR_i, tru_b, tru_i, tru_n, ixR_l, ixR_r, ixR_t, ixR_h, at0, at1, at2, at3, at4, at5, at6, at7, at8, at9, at10, at11, at12, at13, bind_ok, bind_exc, bind_bad, noX_ok, noX_bad, opt_some, opt_none, out_ok, out_exc, out_bad, oopt_some, oopt_none, thn_nx, thn_rt, thn_bk, thn_ct, thn_exc, thn_bad, turn_nx, turn_ct, turn_bk, turn_rt, turn_exc, turn_bad, trim_nx, trim_bk, trim_ct, trim_rt, trim_exc, trim_bad, end_nx, end_rt, end_exc, objL_s, seq_refO, setix_ref, setL_0, setL_1, setL_2, bm_rev, Option.map_some, List.reverse_cons, List.reverse_nil, fl_nil, fl_cons, tupR_v, lstR_v, lstR_h, rl_nil, rl_cons, rv_int, rv_bl, rv_non, rv_str, rv_tup, rv_lst, Bool.and_self, Bool.and_true, Bool.true_and, List.length_cons, List.length_nil, Nat.zero_add, Nat.reduceAdd, Nat.reduceLeDiff, p10_6, p10_9, p10_10, p10_12, p10_18, p10_27, p10_30, List.getElem?_cons_zero, List.getElem?_cons_succ, List.set_cons_zero, List.set_cons_succ, List.map_cons, List.map_nil, List.cons_append, List.nil_append, List.append_nil, List.replicate, Nat.sub_self, Nat.reduceSub, Option.bind_some, decide_true, decide_false, Bool.not_true, Bool.not_false, if_true, if_false, Bool.false_eq_true, ↓reduceIte, reduceCtorEq, gv_0, tisX_0, txf_0, tsub_0_0, tsub_0_1, traise_0, tisX_1, txf_1, tsub_1_0, tsub_1_1, traise_1])
local macro_rules | `(tactic| walk_at "mph") => `(tactic| try simp only [*, bin_mod, bin_mul, ne_eq, Int.reduceEq, not_false_eq_true, e_var, e_con, e_bt, e_glo, e_d0, e_d1, e_tup, e_lst, e_bin, e_neg, e_cmp, e_chn, e_sl, e_lc, e_and, e_or, e_not, e_ife, e_rev, rev_t, e_cal, e_bi, e_bm, e_ix, es_nl, es_cs, o_nl, o_cs, t_nl, t_and, t_or, t_not, t_cmp, t_chn, t_tst, i_seq, i_rng, r_unl, asL_r, asL_l, e_cl, e_new, e_fld, e_mth, e_xf, e_xi, e_xt, e_isC, e_tm, e_itx, e_fmt, e_fst, strV_s, tm_sw, tm_find, e_lH, e_xiT, xk_x, xkG_n, xiT_2, i_zip, i_enu, r_brk, r_setf, r_rais, r_tri, cf_call, cf_call1, cf_W, cf_t, cf_lv, cx_t, tri_nx, tri_rt, tri_bk, tri_exc, slot_s, slot_n, unx_s, unx_n, unx_r, xf_x, xfO_n, xi_x, xiO_n, xt_x, xtO_n, rais_0, rais_1, new_v, newO_i, setf_r, bi_any, bi_all, bi_tup, bi_lst, bi_repr, bi_str, zip_t, zip_l, zip_tl, rv_ins, rv_cls, rv_dct, isLst_l, r_nop, r_seq, r_asg, r_asgc, r_par, r_setix, r_ret, r_exp, r_ite, r_whl, r_for, r_scope, r_gif, r_aug, intO_i, st_nm, st_tup, st_nl, st_cs, st_2, bin_ii, bin_add, bin_sub, bin_ss, bin_tt, cmp_ii, cmp_eq, cmp_ne, cmp_lt, cmp_le, cmp_gt, cmp_ge, cmp_ss, cs_eq, cs_ne, cs_lt, cs_gt, cs_in, cs_nin, seq_lst, seq_rol, seq_tup, bi_abs, bi_max, bi_min, bi_int_i, bi_int_b, bi_len_l, bi_len_r, bi_len_t, bi_len_h, bi_isi, ty_non, ty_bl, ty_int, ty_str, ty_tup, ty_lst, ty_rol, ty_dct, bm_bits, bt_bits, bt_rev, bt_app, bt_join, bm_join, kit_int_int, kit_int_bool, kit_int_str, kit_int_list, kit_int_tuple, kit_int_dict, kit_bool_int, kit_bool_bool, kit_bool_str, kit_bool_list, kit_bool_tuple, kit_bool_dict, kit_str_int, kit_str_bool, kit_str_str, kit_str_list, kit_str_tuple, kit_str_dict, kit_none_int, kit_none_bool, kit_none_str, kit_none_list, kit_none_tuple, kit_none_dict, kit_list_int, kit_list_bool, kit_list_str, kit_list_list, kit_list_tuple, kit_list_dict, kit_tuple_int, kit_tuple_bool, kit_tuple_str, kit_tuple_list, kit_tuple_tuple, kit_tuple_dict, kit_dict_int, kit_dict_bool, kit_dict_str, kit_dict_list, kit_dict_tuple, kit_dict_dict, seqI_l, seqI_r, seqI_t, seqI_s, varR_ok, andR_t, andR_f, orR_t, orR_f, notR_b, negR_i, partR_i, tru_b, tru_i, tru_n, ixR_l, ixR_r, ixR_t, ixR_h, at0, at1, at2, at3, at4, at5, at6, at7, at8, at9, at10, at11, at12, at13, bind_ok, bind_exc, bind_bad, noX_ok, noX_bad, opt_some, opt_none, out_ok, out_exc, out_bad, oopt_some, oopt_none, thn_nx, thn_rt, thn_bk, thn_ct, thn_exc, thn_bad, turn_nx, turn_ct, turn_bk, turn_rt, turn_exc, turn_bad, trim_nx, trim_bk, trim_ct, trim_rt, trim_exc, trim_bad, end_nx, end_rt, end_exc, objL_s, seq_refO, setix_ref, setL_0, setL_1, setL_2, bm_rev, Option.map_some, List.reverse_cons, List.reverse_nil, fl_nil, fl_cons, tupR_v, lstR_v, lstR_h, rl_nil, rl_cons, rv_int, rv_bl, rv_non, rv_str, rv_tup, rv_lst, Bool.and_self, Bool.and_true, Bool.true_and, List.length_cons, List.length_nil, Nat.zero_add, Nat.reduceAdd, Nat.reduceLeDiff, p10_6, p10_9, p10_10, p10_12, p10_18, p10_27, p10_30, List.getElem?_cons_zero, List.getElem?_cons_succ, List.set_cons_zero, List.set_cons_succ, List.map_cons, List.map_nil, List.cons_append, List.nil_append, List.append_nil, List.replicate, Nat.sub_self, Nat.reduceSub, Option.bind_some, decide_true, decide_false, Bool.not_true, Bool.not_false, if_true, if_false, Bool.false_eq_true, ↓reduceIte, reduceCtorEq, gv_0, tisX_0, txf_0, tsub_0_0, tsub_0_1, traise_0, tisX_1, txf_1, tsub_1_0, tsub_1_1, traise_1])
local macro_rules | `(tactic| walk_at "mpi") => `(tactic| try simp only [Int.reduceEq, Int.reduceLT, Int.reduceLE, Int.reduceAdd, ne_eq, not_true_eq_false, not_false_eq_true, e_var, e_con, e_bt, e_glo, e_d0, e_d1, e_tup, e_lst, e_bin, e_neg, e_cmp, e_chn, e_sl, e_lc, e_and, e_or, e_not, e_ife, e_rev, rev_t, e_cal, e_bi, e_bm, e_ix, es_nl, es_cs, o_nl, o_cs, t_nl, t_and, t_or, t_not, t_cmp, t_chn, t_tst, i_seq, i_rng, r_unl, asL_r, asL_l, e_cl, e_new, e_fld, e_mth, e_xf, e_xi, e_xt, e_isC, e_tm, e_itx, e_fmt, e_fst, strV_s, tm_sw, tm_find, e_lH, e_xiT, xk_x, xkG_n, xiT_2, i_zip, i_enu, r_brk, r_setf, r_rais, r_tri, cf_call, cf_call1, cf_W, cf_t, cf_lv, cx_t, tri_nx, tri_rt, tri_bk, tri_exc, slot_s, slot_n, unx_s, unx_n, unx_r, xf_x, xfO_n, xi_x, xiO_n, xt_x, xtO_n, rais_0, rais_1, new_v, newO_i, setf_r, bi_any, bi_all, bi_tup, bi_lst, bi_repr, bi_str, zip_t, zip_l, zip_tl, rv_ins, rv_cls, rv_dct, isLst_l, r_nop, r_seq, r_asg, r_asgc, r_par, r_setix, r_ret, r_exp, r_ite, r_whl, r_for, r_scope, r_gif, r_aug, intO_i, st_nm, st_tup, st_nl, st_cs, st_2, bin_ii, bin_add, bin_sub, bin_ss, bin_tt, cmp_ii, cmp_eq, cmp_ne, cmp_lt, cmp_le, cmp_gt, cmp_ge, cmp_ss, cs_eq, cs_ne, cs_lt, cs_gt, cs_in, cs_nin, seq_lst, seq_rol, seq_tup, bi_abs, bi_max, bi_min, bi_int_i, bi_int_b, bi_len_l, bi_len_r, bi_len_t, bi_len_h, bi_isi, ty_non, ty_bl, ty_int, ty_str, ty_tup, ty_lst, ty_rol, ty_dct, bm_bits, bt_bits, bt_rev, bt_app, bt_join, bm_join, kit_int_int, kit_int_bool, kit_int_str, kit_int_list, kit_int_tuple, kit_int_dict, kit_bool_int, kit_bool_bool, kit_bool_str, kit_bool_list, kit_bool_tuple, kit_bool_dict, kit_str_int, kit_str_bool, kit_str_str, kit_str_list, kit_str_tuple, kit_str_dict, kit_none_int, kit_none_bool, kit_none_str, kit_none_list, kit_none_tuple, kit_none_dict, kit_list_int, kit_list_bool, kit_list_str, kit_list_list, kit_list_tuple, kit_list_dict, kit_tuple_int, kit_tuple_bool, kit_tuple_str, kit_tuple_list, kit_tuple_tuple, kit_tuple_dict, kit_dict_int, kit_dict_bool, kit_dict_str, kit_dict_list, kit_dict_tuple, kit_dict_dict, seqI_l, seqI_r, seqI_t, seqI_s, varR_ok, andR_t, andR_f, orR_t, orR_f, notR_b, negR_i, partR_i, tru_b, tru_i, tru_n, ixR_l, ixR_r, ixR_t, ixR_h, at0, at1, at2, at3, at4, at5, at6, at7, at8, at9, at10, at11, at12, at13, bind_ok, bind_exc, bind_bad, noX_ok, noX_bad, opt_some, opt_none, out_ok, out_exc, out_bad, oopt_some, oopt_none, thn_nx, thn_rt, thn_bk, thn_ct, thn_exc, thn_bad, turn_nx, turn_ct, turn_bk, turn_rt, turn_exc, turn_bad, trim_nx, trim_bk, trim_ct, trim_rt, trim_exc, trim_bad, end_nx, end_rt, end_exc, objL_s, seq_refO, setix_ref, setL_0, setL_1, setL_2, bm_rev, Option.map_some, List.reverse_cons, List.reverse_nil, fl_nil, fl_cons, tupR_v, lstR_v, lstR_h, rl_nil, rl_cons, rv_int, rv_bl, rv_non, rv_str, rv_tup, rv_lst, Bool.and_self, Bool.and_true, Bool.true_and, List.length_cons, List.length_nil, Nat.zero_add, Nat.reduceAdd, Nat.reduceLeDiff, p10_6, p10_9, p10_10, p10_12, p10_18, p10_27, p10_30, List.getElem?_cons_zero, List.getElem?_cons_succ, List.set_cons_zero, List.set_cons_succ, List.map_cons, List.map_nil, List.cons_append, List.nil_append, List.append_nil, List.replicate, Nat.sub_self, Nat.reduceSub, Option.bind_some, decide_true, decide_false, Bool.not_true, Bool.not_false, if_true, if_false, Bool.false_eq_true, ↓reduceIte, reduceCtorEq, gv_0, tisX_0, txf_0, tsub_0_0, tsub_0_1, traise_0, tisX_1, txf_1, tsub_1_0, tsub_1_1, traise_1])
theorem bits_le_of {a b : Int} {n : Nat} (h : a.natAbs ≤ b.natAbs) (hb : bits b ≤ n) : bits a ≤ n := Nat.le_trans (bits_abs h) hb
theorem sz_mul {a b : Int} {n m : Nat} (ha : bits a ≤ n) (hb : bits b ≤ m) : bits (a * b) ≤ n + m := Nat.le_trans (bits_mul a b) (Nat.add_le_add ha hb)
theorem szp {a : Int} {n m : Nat} (h : bits a ≤ n) (hn : n ≤ m) : bits a ≤ m := Nat.le_trans h hn
theorem rfV_n {l : List Nat} (h : rf l = none) : rfV l = .non := by unfold rfV; rw [h]
theorem rfV_s {l : List Nat} {t b : Int} (h : rf l = some (t, b)) : rfV l = .tup [.int t, .int b] := by unfold rfV; rw [h]
theorem pair_gd {t b : Int} (ht : bits t ≤ 1300) (hb : bits b ≤ 1300) : Gd 1 4000 (.tup [.int t, .int b]) := (GdL.cons (Gd.int (n := 0) ht (by decide)) (GdL.cons (Gd.int (n := 0) hb (by decide)) GdL.nil)).tup.mono (by decide) (by decide)
theorem fT_al {t b : Int} (ht : bits t ≤ 1300) (hb : bits b ≤ 1300) : Al 801 (fT t b) := by
  unfold fT
  split
  · exact (tI_al ht).mono (by decide)
  · exact ((tI_al ht).app (al_of (n := 1) (by decide +kernel) (by decide +kernel))).app (tI_al hb)
section
variable {W k r : Nat} {h : Heap} {o : Obj} {m : Nat}
/-- a fraction in lowest terms, shown and read -/
theorem end18 {t b : Int} (ht : bits t ≤ 1300) (hb : bits b ≤ 1300) (b1 : 1 ≤ b) (hg : Int.gcd t b = 1) {q0 q3 q4 q5 : Option Val} (hW : 2 ^ 9000 ≤ W) : run (cfAt P W tb (k + 5)) b18_6 [q0, some (.int t), some (.int b), q3, q4, q5] h = .rt (.bl true) h := by
  have s1 : strO h (.int t) = some (tI t) := shown_i (h := h) ht
  have s2 : strO h (.int b) = some (tI b) := shown_i (h := h) hb
  have e1 := ftext5 (W := W) (k := k + 4) (h := h) ht hb
  have e2 := frac4 (W := W) (k := k + 2) (h := h) ht hb b1 hg hW
  have e3 := frac6 (W := W) (k := k + 3) (h := h) ((fT_al ht hb).asc (by decide)) hW
  have er := rf_text b1 hg
  have asl : Al 1 ("/" : Str) := al_of (by decide +kernel) (by decide +kernel)
  have fin : run (cfAt P W tb (k + 5)) b18_8 [q0, some (.int t), some (.int b), q3, some (.str (fT t b)), q5] h = .rt (.bl true) h := by
    have isN : ∀ h : Heap, cmpop h .Is .non .non = some true := fun _ => rfl
    generalize fT t b = F at *
    unfold b18_8
    walk_at "mp"
    rw [e1]
    walk_at "mp"
    unfold b18_9
    walk_at "mp"
    rw [e2]
    walk_at "mp"
    rw [e1]
    walk_at "mp"
    unfold b18_10
    walk_at "mp"
    obtain ⟨z, ez, _, _⟩ := (pair_gd ht hb).shown (by decide) (by decide)
    by_cases c : (1000000000000000000000000000000 : Int) ≤ max (t.natAbs : Int) b
    · have er2 : rf (ts F) = none := by
        rw [er]
        exact if_neg fun w => by omega
      rw [rfV_n er2] at e3
      rw [decide_eq_true c]
      walk_at "mp"
      rw [e3]
      walk_at "mp"
      rw [isN]
      walk_at "mp"
    · have er2 : rf (ts F) = some (t, b) := by
        rw [er]
        exact if_pos ⟨by omega, by omega⟩
      rw [rfV_s er2] at e3
      rw [decide_eq_false c]
      walk_at "mp"
      unfold b18_11
      walk_at "mp"
      rw [e3]
      walk_at "mp"
      rw [ez]
      walk_at "mp"
      rw [ez]
      walk_at "mp"
  unfold b18_6
  walk_at "mp"
  rw [s1]
  walk_at "mp"
  unfold b18_7
  walk_at "mp"
  by_cases c : b = 1
  · rw [decide_eq_false (show ¬ 1 < b by omega)]
    walk_at "mp"
    unfold fT at fin
    rw [if_pos c] at fin
    exact fin
  · rw [decide_eq_true (show 1 < b by omega)]
    walk_at "mp"
    rw [if_pos (by have := (tI_al ht).len; have := asl.len; omega)]
    walk_at "mp"
    rw [s2]
    walk_at "mp"
    rw [if_pos (by have := ((tI_al ht).app asl).len; have := (tI_al hb).len; omega)]
    walk_at "mp"
    unfold fT at fin
    rw [if_neg c] at fin
    exact fin
theorem great10 {ch : Nat} (hr : h[r]? = some o) (hB : IsBox o m) (hm : m ≤ 50000) (hc : ch ≤ 42) : ∃ v o', callF P W tb (k + 2) 10 [.ref r, .int ch] h = .ok (.int v) (h.set r o') ∧ 1 ≤ v ∧ bits v ≤ 1264 ∧ IsBox o' (m + 50) := by
  obtain ⟨v, o', e, v1, v2, B⟩ := great_ok (P := P) (gv := tb) (i := 10) (t := 9) (W := W) (k := k) (ch := ch) rfl rfl hr hB (by omega) (by omega)
  refine ⟨v, o', e, v1, ?_, B.mono (by omega)⟩
  refine bits_lt (by omega) (Int.lt_of_lt_of_le v2 ?_)
  have : (2 : Nat) ^ (4 + 30 * ch) ≤ 2 ^ 1264 := Nat.pow_le_pow_right (by decide) (by omega)
  exact_mod_cast this
/-- _law_shown -/
theorem shown18 (hr : h[r]? = some o) (hB : IsBox o m) (hm : m ≤ 40000) (hW : 2 ^ 9000 ≤ W) : ∃ o', callF P W tb (k + 6) 18 [.ref r] h = .ok (.bl true) (h.set r o') ∧ IsBox o' (m + 200) := by
  rw [callF_go (f := f18) rfl b18 5]
  obtain ⟨v1, o1, e1, p1, q1, B1⟩ := take9 (W := W) (k := k + 4) 3 hr hB (by omega) (by decide) (by decide +kernel)
  obtain ⟨v2, o2, e2, p2, q2, B2⟩ := take9 (W := W) (k := k + 4) 4 (set_get (o' := o1) hr) B1 (by omega) (by decide) (by decide +kernel)
  obtain ⟨y, ey, my⟩ := at_mem (l := [.int 0, .int 1, .int 3, .int 42]) p2 (by show v2 < 4; omega)
  obtain ⟨ch, rfl, hch⟩ : ∃ ch : Nat, y = .int (ch : Int) ∧ ch ≤ 42 := by
    simp only [List.mem_cons, List.not_mem_nil, or_false] at my
    rcases my with rfl | rfl | rfl | rfl
    · exact ⟨0, rfl, by decide⟩
    · exact ⟨1, rfl, by decide⟩
    · exact ⟨3, rfl, by decide⟩
    · exact ⟨42, rfl, by decide⟩
  obtain ⟨g, o3, e3, g1, sg, B3⟩ := great10 (W := W) (k := k + 3) (set_get (o' := o2) (set_get (o' := o1) hr)) B2 (by omega) hch
  obtain ⟨v4, o4, e4, p4, q4, B4⟩ := take9 (W := W) (k := k + 4) 12 (set_get (o' := o3) hr) B3 (by omega) (by decide) (by decide +kernel)
  obtain ⟨v5, o5, e5, p5, q5, B5⟩ := take9 (W := W) (k := k + 4) 3 (set_get (o' := o4) hr) B4 (by omega) (by decide) (by decide +kernel)
  simp only [List.set_set] at e2 e3 e4 e5
  have sv1 : bits (v1 - 1) ≤ 2 := b_of 2 (by omega) (by omega)
  have st : bits ((v1 - 1) * g) ≤ 1266 := szp (sz_mul sv1 sg) (by decide)
  -- from the shared on
  have fin : ∀ (t b : Int) (o' : Obj) (n : Nat), bits t ≤ 1266 → bits b ≤ 1266 → 1 ≤ b → IsBox o' n → n ≤ m + 190 → ∃ o2, endF f18 h.length (run (cfAt P W tb (k + 5)) b18_4 [some (.ref r), some (.int t), some (.int b), none, none, none] (h.set r o')) = .ok (.bl true) (h.set r o2) ∧ IsBox o2 (m + 200) := fun t b o' n ht hb b1 Bo hn => by
    refine ⟨o', ?_, Bo.mono (by omega)⟩
    have bw : b.natAbs < W := by
      have h1 := lt_bits b
      have h2 := Nat.lt_of_lt_of_le h1 (two_le (show bits b ≤ 9000 by omega))
      exact Nat.lt_of_lt_of_le h2 hW
    have e := lcom15 (W := W) (k := k + 4) (h := h.set r o') (a := t) (b := b) bw
    have gp : 0 < Int.gcd t b := Int.gcd_pos_of_ne_zero_right _ (by omega)
    have gd1 : ((Int.gcd t b : Nat) : Int) ∣ t := Int.gcd_dvd_left ..
    have gd2 : ((Int.gcd t b : Nat) : Int) ∣ b := Int.gcd_dvd_right ..
    have hg1 : Int.gcd (t / (Int.gcd t b : Nat)) (b / (Int.gcd t b : Nat)) = 1 := Int.gcd_ediv_gcd_ediv_gcd gp
    have sg : bits ((Int.gcd t b : Nat) : Int) ≤ 9000 := by
      refine Nat.le_trans (bits_le_of (b := b) ?_ hb) (by decide)
      have := Int.le_of_dvd (by omega) gd2
      omega
    have s1 : bits (t / (Int.gcd t b : Nat)) ≤ 1300 := Nat.le_trans (bits_le_of (Int.natAbs_ediv_le_natAbs _ _) ht) (by decide)
    have s2 : bits (b / (Int.gcd t b : Nat)) ≤ 1300 := Nat.le_trans (bits_le_of (Int.natAbs_ediv_le_natAbs _ _) hb) (by decide)
    have b2 : 1 ≤ b / (Int.gcd t b : Nat) := by
      have := Int.ediv_mul_cancel gd2
      refine Int.not_lt.mp fun z => ?_
      have : b / (Int.gcd t b : Nat) * (Int.gcd t b : Nat) ≤ 0 := Int.mul_nonpos_of_nonpos_of_nonneg (by omega) (by omega)
      omega
    generalize hG : ((Int.gcd t b : Nat) : Int) = G at *
    have G0 : 0 < G := by omega
    have d1 : ∀ a : Int, binI .FloorDiv a G = some (.int (a / G)) := fun a => by
      rw [bin_div (by omega) (pylong_small sg), Int.fdiv_eq_ediv_of_nonneg _ (by omega)]
    have ee := fun q3 q4 q5 => end18 (W := W) (k := k) (h := h.set r o') (q0 := some (.ref r)) (q3 := q3) (q4 := q4) (q5 := q5) s1 s2 b2 hg1 hW
    unfold b18_4
    walk_at "mp"
    rw [e]
    walk_at "mp"
    unfold b18_5
    walk_at "mp"
    rw [d1]
    walk_at "mp"
    rw [d1]
    walk_at "mp"
    rw [ee]
    walk_at "mp"
    exact fin_r rfl rfl
  have mid : ∀ (b : Int) (o' : Obj) (n : Nat), bits b ≤ 1266 → 1 ≤ b → IsBox o' n → n ≤ m + 150 → ∃ o2, endF f18 h.length (run (cfAt P W tb (k + 5)) b18_3 [some (.ref r), some (.int ((v1 - 1) * g)), some (.int b), none, none, none] (h.set r o')) = .ok (.bl true) (h.set r o2) ∧ IsBox o2 (m + 200) := fun b o' n hb b1 Bo hn => by
    obtain ⟨w1, u1, f1, w1a, w1b, U1⟩ := take9 (W := W) (k := k + 4) 2 (set_get (o' := o') hr) Bo (by omega) (by decide) (by decide +kernel)
    obtain ⟨w2, u2, f2, w2a, w2b, U2⟩ := take9 (W := W) (k := k + 4) (2 * 1000000) (set_get (o' := u1) hr) U1 (by omega) (by decide) (by decide +kernel)
    obtain ⟨w3, u3, f3, w3a, w3b, U3⟩ := take9 (W := W) (k := k + 4) 1000 (set_get (o' := u2) hr) U2 (by omega) (by decide) (by decide +kernel)
    simp only [List.set_set] at f1 f2 f3
    have p3 : binI .Pow 10 3 = some (.int 1000) := by kernel_rfl
    have bm : binI .Mult 2 1000000 = some (.int (2 * 1000000)) := bin_mul (by decide +kernel)
    unfold b18_3
    walk_at "mp"
    rw [f1]
    walk_at "mp"
    by_cases c : w1 = 0
    · rw [decide_eq_true c]
      walk_at "mp"
      rw [bm]
      walk_at "mp"
      rw [f2]
      walk_at "mp"
      rw [p3]
      walk_at "mp"
      rw [f3]
      walk_at "mp"
      exact fin _ _ _ _ (Nat.le_trans (b_of 30 (by omega) (by omega)) (by decide)) (Nat.le_trans (b_of 30 (by omega) (by omega)) (by decide)) (by omega) U3 (by omega)
    · rw [decide_eq_false c]
      walk_at "mp"
      exact fin _ _ _ _ st hb b1 U1 (by omega)
  unfold b18 b18_0
  walk_at "mp"
  rw [e1]
  walk_at "mp"
  rw [e2]
  walk_at "mp"
  rw [ey]
  walk_at "mp"
  rw [e3]
  walk_at "mp"
  rw [bin_mul (by omega)]
  walk_at "mp"
  unfold b18_1
  walk_at "mp"
  rw [e4]
  walk_at "mp"
  unfold b18_2
  walk_at "mp"
  rw [e5]
  walk_at "mp"
  by_cases c : v5 = 0
  · obtain ⟨v6, o6, e6, p6, q6, B6⟩ := take9 (W := W) (k := k + 4) 3 (set_get (o' := o5) hr) B5 (by omega) (by decide) (by decide +kernel)
    obtain ⟨y2, ey2, my2⟩ := at_mem (l := [.int 2, .int 3, .int 42]) p6 (by show v6 < 3; omega)
    obtain ⟨ch2, rfl, hch2⟩ : ∃ ch : Nat, y2 = .int (ch : Int) ∧ ch ≤ 42 := by
      simp only [List.mem_cons, List.not_mem_nil, or_false] at my2
      rcases my2 with rfl | rfl | rfl
      · exact ⟨2, rfl, by decide⟩
      · exact ⟨3, rfl, by decide⟩
      · exact ⟨42, rfl, by decide⟩
    obtain ⟨g2, o7, e7, g21, sg2, B7⟩ := great10 (W := W) (k := k + 3) (set_get (o' := o6) hr) B6 (by omega) hch2
    simp only [List.set_set] at e6 e7
    rw [decide_eq_true c]
    walk_at "mp"
    rw [e6]
    walk_at "mp"
    rw [ey2]
    walk_at "mp"
    rw [e7]
    walk_at "mp"
    exact mid _ _ _ (szp sg2 (by decide)) g21 B7 (by omega)
  · rw [decide_eq_false c]
    walk_at "mp"
    exact mid _ _ _ (Nat.le_trans (b_of 5 (by omega) (by omega)) (by decide)) (by omega) B5 (by omega)
end

end MP.G
namespace MP.G
open PySem
local macro_rules | `(tactic| walk_at "mp") => `(tactic| try simp only [e_var, e_con, e_bt, e_glo, e_d0, e_d1, e_tup, e_lst, e_bin, e_neg, e_cmp, e_chn, e_sl, e_lc, e_and, e_or, e_not, e_ife, e_rev, rev_t, e_cal, e_bi, e_bm, e_ix, es_nl, es_cs, o_nl, o_cs, t_nl, t_and, t_or, t_not, t_cmp, t_chn, t_tst, i_seq, i_rng, r_unl, asL_r, asL_l, e_cl, e_new, e_fld, e_mth, e_xf, e_xi, e_xt, e_isC, e_tm, e_itx, e_fmt, e_fst, strV_s, tm_sw, tm_find, e_lH, e_xiT, xk_x, xkG_n, xiT_2, i_zip, i_enu, r_brk, r_setf, r_rais, r_tri, cf_call, cf_call1, cf_W, cf_t, cf_lv, cx_t, tri_nx, tri_rt, tri_bk, tri_exc, slot_s, slot_n, unx_s, unx_n, unx_r, xf_x, xfO_n, xi_x, xiO_n, xt_x, xtO_n, rais_0, rais_1, new_v, newO_i, setf_r, bi_any, bi_all, bi_tup, bi_lst, bi_repr, bi_str, zip_t, zip_l, zip_tl, rv_ins, rv_cls, rv_dct, isLst_l, r_nop, r_seq, r_asg, r_asgc, r_par, r_setix, r_ret, r_exp, r_ite, r_whl, r_for, r_scope, r_gif, r_aug, intO_i, st_nm, st_tup, st_nl, st_cs, st_2, bin_ii, bin_add, bin_sub, bin_ss, bin_tt, cmp_ii, cmp_eq, cmp_ne, cmp_lt, cmp_le, cmp_gt, cmp_ge, cmp_ss, cs_eq, cs_ne, cs_lt, cs_gt, cs_in, cs_nin, seq_lst, seq_rol, seq_tup, bi_abs, bi_max, bi_min, bi_int_i, bi_int_b, bi_len_l, bi_len_r, bi_len_t, bi_len_h, bi_isi, ty_non, ty_bl, ty_int, ty_str, ty_tup, ty_lst, ty_rol, ty_dct, bm_bits, bt_bits, bt_rev, bt_app, bt_join, bm_join, kit_int_int, kit_int_bool, kit_int_str, kit_int_list, kit_int_tuple, kit_int_dict, kit_bool_int, kit_bool_bool, kit_bool_str, kit_bool_list, kit_bool_tuple, kit_bool_dict, kit_str_int, kit_str_bool, kit_str_str, kit_str_list, kit_str_tuple, kit_str_dict, kit_none_int, kit_none_bool, kit_none_str, kit_none_list, kit_none_tuple, kit_none_dict, kit_list_int, kit_list_bool, kit_list_str, kit_list_list, kit_list_tuple, kit_list_dict, kit_tuple_int, kit_tuple_bool, kit_tuple_str, kit_tuple_list, kit_tuple_tuple, kit_tuple_dict, kit_dict_int, kit_dict_bool, kit_dict_str, kit_dict_list, kit_dict_tuple, kit_dict_dict, seqI_l, seqI_r, seqI_t, seqI_s, varR_ok, andR_t, andR_f, orR_t, orR_f, notR_b, negR_i, partR_i, tru_b, tru_i, tru_n, ixR_l, ixR_r, ixR_t, ixR_h, at0, at1, at2, at3, at4, at5, at6, at7, at8, at9, at10, at11, at12, at13, bind_ok, bind_exc, bind_bad, noX_ok, noX_bad, opt_some, opt_none, out_ok, out_exc, out_bad, oopt_some, oopt_none, thn_nx, thn_rt, thn_bk, thn_ct, thn_exc, thn_bad, turn_nx, turn_ct, turn_bk, turn_rt, turn_exc, turn_bad, trim_nx, trim_bk, trim_ct, trim_rt, trim_exc, trim_bad, end_nx, end_rt, end_exc, objL_s, seq_refO, setix_ref, setL_0, setL_1, setL_2, bm_rev, Option.map_some, List.reverse_cons, List.reverse_nil, fl_nil, fl_cons, tupR_v, lstR_v, lstR_h, rl_nil, rl_cons, rv_int, rv_bl, rv_non, rv_str, rv_tup, rv_lst, Bool.and_self, Bool.and_true, Bool.true_and, List.length_cons, List.length_nil, Nat.zero_add, Nat.reduceAdd, Nat.reduceLeDiff, p10_6, p10_9, p10_10, p10_12, p10_18, p10_27, p10_30, List.getElem?_cons_zero, List.getElem?_cons_succ, List.set_cons_zero, List.set_cons_succ, List.map_cons, List.map_nil, List.cons_append, List.nil_append, List.append_nil, List.replicate, Nat.sub_self, Nat.reduceSub, Option.bind_some, decide_true, decide_false, Bool.not_true, Bool.not_false, if_true, if_false, Bool.false_eq_true, ↓reduceIte, reduceCtorEq, gv_0, tisX_0, txf_0, tsub_0_0, tsub_0_1, traise_0, tisX_1, txf_1, tsub_1_0, tsub_1_1, traise_1])
local macro_rules | `(tactic| walk_at "mph") => `(tactic| try simp only [*, bin_mod, bin_mul, ne_eq, Int.reduceEq, not_false_eq_true, e_var, e_con, e_bt, e_glo, e_d0, e_d1, e_tup, e_lst, e_bin, e_neg, e_cmp, e_chn, e_sl, e_lc, e_and, e_or, e_not, e_ife, e_rev, rev_t, e_cal, e_bi, e_bm, e_ix, es_nl, es_cs, o_nl, o_cs, t_nl, t_and, t_or, t_not, t_cmp, t_chn, t_tst, i_seq, i_rng, r_unl, asL_r, asL_l, e_cl, e_new, e_fld, e_mth, e_xf, e_xi, e_xt, e_isC, e_tm, e_itx, e_fmt, e_fst, strV_s, tm_sw, tm_find, e_lH, e_xiT, xk_x, xkG_n, xiT_2, i_zip, i_enu, r_brk, r_setf, r_rais, r_tri, cf_call, cf_call1, cf_W, cf_t, cf_lv, cx_t, tri_nx, tri_rt, tri_bk, tri_exc, slot_s, slot_n, unx_s, unx_n, unx_r, xf_x, xfO_n, xi_x, xiO_n, xt_x, xtO_n, rais_0, rais_1, new_v, newO_i, setf_r, bi_any, bi_all, bi_tup, bi_lst, bi_repr, bi_str, zip_t, zip_l, zip_tl, rv_ins, rv_cls, rv_dct, isLst_l, r_nop, r_seq, r_asg, r_asgc, r_par, r_setix, r_ret, r_exp, r_ite, r_whl, r_for, r_scope, r_gif, r_aug, intO_i, st_nm, st_tup, st_nl, st_cs, st_2, bin_ii, bin_add, bin_sub, bin_ss, bin_tt, cmp_ii, cmp_eq, cmp_ne, cmp_lt, cmp_le, cmp_gt, cmp_ge, cmp_ss, cs_eq, cs_ne, cs_lt, cs_gt, cs_in, cs_nin, seq_lst, seq_rol, seq_tup, bi_abs, bi_max, bi_min, bi_int_i, bi_int_b, bi_len_l, bi_len_r, bi_len_t, bi_len_h, bi_isi, ty_non, ty_bl, ty_int, ty_str, ty_tup, ty_lst, ty_rol, ty_dct, bm_bits, bt_bits, bt_rev, bt_app, bt_join, bm_join, kit_int_int, kit_int_bool, kit_int_str, kit_int_list, kit_int_tuple, kit_int_dict, kit_bool_int, kit_bool_bool, kit_bool_str, kit_bool_list, kit_bool_tuple, kit_bool_dict, kit_str_int, kit_str_bool, kit_str_str, kit_str_list, kit_str_tuple, kit_str_dict, kit_none_int, kit_none_bool, kit_none_str, kit_none_list, kit_none_tuple, kit_none_dict, kit_list_int, kit_list_bool, kit_list_str, kit_list_list, kit_list_tuple, kit_list_dict, kit_tuple_int, kit_tuple_bool, kit_tuple_str, kit_tuple_list, kit_tuple_tuple, kit_tuple_dict, kit_dict_int, kit_dict_bool, kit_dict_str, kit_dict_list, kit_dict_tuple, kit_dict_dict, seqI_l, seqI_r, seqI_t, seqI_s, varR_ok, andR_t, andR_f, orR_t, orR_f, notR_b, negR_i, partR_i, tru_b, tru_i, tru_n, ixR_l, ixR_r, ixR_t, ixR_h, at0, at1, at2, at3, at4, at5, at6, at7, at8, at9, at10, at11, at12, at13, bind_ok, bind_exc, bind_bad, noX_ok, noX_bad, opt_some, opt_none, out_ok, out_exc, out_bad, oopt_some, oopt_none, thn_nx, thn_rt, thn_bk, thn_ct, thn_exc, thn_bad, turn_nx, turn_ct, turn_bk, turn_rt, turn_exc, turn_bad, trim_nx, trim_bk, trim_ct, trim_rt, trim_exc, trim_bad, end_nx, end_rt, end_exc, objL_s, seq_refO, setix_ref, setL_0, setL_1, setL_2, bm_rev, Option.map_some, List.reverse_cons, List.reverse_nil, fl_nil, fl_cons, tupR_v, lstR_v, lstR_h, rl_nil, rl_cons, rv_int, rv_bl, rv_non, rv_str, rv_tup, rv_lst, Bool.and_self, Bool.and_true, Bool.true_and, List.length_cons, List.length_nil, Nat.zero_add, Nat.reduceAdd, Nat.reduceLeDiff, p10_6, p10_9, p10_10, p10_12, p10_18, p10_27, p10_30, List.getElem?_cons_zero, List.getElem?_cons_succ, List.set_cons_zero, List.set_cons_succ, List.map_cons, List.map_nil, List.cons_append, List.nil_append, List.append_nil, List.replicate, Nat.sub_self, Nat.reduceSub, Option.bind_some, decide_true, decide_false, Bool.not_true, Bool.not_false, if_true, if_false, Bool.false_eq_true, ↓reduceIte, reduceCtorEq, gv_0, tisX_0, txf_0, tsub_0_0, tsub_0_1, traise_0, tisX_1, txf_1, tsub_1_0, tsub_1_1, traise_1])
local macro_rules | `(tactic| walk_at "mpi") => `(tactic| try simp only [Int.reduceEq, Int.reduceLT, Int.reduceLE, Int.reduceAdd, ne_eq, not_true_eq_false, not_false_eq_true, e_var, e_con, e_bt, e_glo, e_d0, e_d1, e_tup, e_lst, e_bin, e_neg, e_cmp, e_chn, e_sl, e_lc, e_and, e_or, e_not, e_ife, e_rev, rev_t, e_cal, e_bi, e_bm, e_ix, es_nl, es_cs, o_nl, o_cs, t_nl, t_and, t_or, t_not, t_cmp, t_chn, t_tst, i_seq, i_rng, r_unl, asL_r, asL_l, e_cl, e_new, e_fld, e_mth, e_xf, e_xi, e_xt, e_isC, e_tm, e_itx, e_fmt, e_fst, strV_s, tm_sw, tm_find, e_lH, e_xiT, xk_x, xkG_n, xiT_2, i_zip, i_enu, r_brk, r_setf, r_rais, r_tri, cf_call, cf_call1, cf_W, cf_t, cf_lv, cx_t, tri_nx, tri_rt, tri_bk, tri_exc, slot_s, slot_n, unx_s, unx_n, unx_r, xf_x, xfO_n, xi_x, xiO_n, xt_x, xtO_n, rais_0, rais_1, new_v, newO_i, setf_r, bi_any, bi_all, bi_tup, bi_lst, bi_repr, bi_str, zip_t, zip_l, zip_tl, rv_ins, rv_cls, rv_dct, isLst_l, r_nop, r_seq, r_asg, r_asgc, r_par, r_setix, r_ret, r_exp, r_ite, r_whl, r_for, r_scope, r_gif, r_aug, intO_i, st_nm, st_tup, st_nl, st_cs, st_2, bin_ii, bin_add, bin_sub, bin_ss, bin_tt, cmp_ii, cmp_eq, cmp_ne, cmp_lt, cmp_le, cmp_gt, cmp_ge, cmp_ss, cs_eq, cs_ne, cs_lt, cs_gt, cs_in, cs_nin, seq_lst, seq_rol, seq_tup, bi_abs, bi_max, bi_min, bi_int_i, bi_int_b, bi_len_l, bi_len_r, bi_len_t, bi_len_h, bi_isi, ty_non, ty_bl, ty_int, ty_str, ty_tup, ty_lst, ty_rol, ty_dct, bm_bits, bt_bits, bt_rev, bt_app, bt_join, bm_join, kit_int_int, kit_int_bool, kit_int_str, kit_int_list, kit_int_tuple, kit_int_dict, kit_bool_int, kit_bool_bool, kit_bool_str, kit_bool_list, kit_bool_tuple, kit_bool_dict, kit_str_int, kit_str_bool, kit_str_str, kit_str_list, kit_str_tuple, kit_str_dict, kit_none_int, kit_none_bool, kit_none_str, kit_none_list, kit_none_tuple, kit_none_dict, kit_list_int, kit_list_bool, kit_list_str, kit_list_list, kit_list_tuple, kit_list_dict, kit_tuple_int, kit_tuple_bool, kit_tuple_str, kit_tuple_list, kit_tuple_tuple, kit_tuple_dict, kit_dict_int, kit_dict_bool, kit_dict_str, kit_dict_list, kit_dict_tuple, kit_dict_dict, seqI_l, seqI_r, seqI_t, seqI_s, varR_ok, andR_t, andR_f, orR_t, orR_f, notR_b, negR_i, partR_i, tru_b, tru_i, tru_n, ixR_l, ixR_r, ixR_t, ixR_h, at0, at1, at2, at3, at4, at5, at6, at7, at8, at9, at10, at11, at12, at13, bind_ok, bind_exc, bind_bad, noX_ok, noX_bad, opt_some, opt_none, out_ok, out_exc, out_bad, oopt_some, oopt_none, thn_nx, thn_rt, thn_bk, thn_ct, thn_exc, thn_bad, turn_nx, turn_ct, turn_bk, turn_rt, turn_exc, turn_bad, trim_nx, trim_bk, trim_ct, trim_rt, trim_exc, trim_bad, end_nx, end_rt, end_exc, objL_s, seq_refO, setix_ref, setL_0, setL_1, setL_2, bm_rev, Option.map_some, List.reverse_cons, List.reverse_nil, fl_nil, fl_cons, tupR_v, lstR_v, lstR_h, rl_nil, rl_cons, rv_int, rv_bl, rv_non, rv_str, rv_tup, rv_lst, Bool.and_self, Bool.and_true, Bool.true_and, List.length_cons, List.length_nil, Nat.zero_add, Nat.reduceAdd, Nat.reduceLeDiff, p10_6, p10_9, p10_10, p10_12, p10_18, p10_27, p10_30, List.getElem?_cons_zero, List.getElem?_cons_succ, List.set_cons_zero, List.set_cons_succ, List.map_cons, List.map_nil, List.cons_append, List.nil_append, List.append_nil, List.replicate, Nat.sub_self, Nat.reduceSub, Option.bind_some, decide_true, decide_false, Bool.not_true, Bool.not_false, if_true, if_false, Bool.false_eq_true, ↓reduceIte, reduceCtorEq, gv_0, tisX_0, txf_0, tsub_0_0, tsub_0_1, traise_0, tisX_1, txf_1, tsub_1_0, tsub_1_1, traise_1])
theorem rd_gd {l : List Nat} {i : Int} (h : rd l = some i) : bits i ≤ 100 := bits_le (Nat.lt_of_lt_of_le (rd_lt h) (by decide +kernel))
section
variable {W k r : Nat} {h : Heap} {o : Obj} {m : Nat}
theorem same17 {v : Val} (hv : v = .non ∨ ∃ n s, Gd n s v ∧ n ≤ 20 ∧ s ≤ 100000 ∧ ∀ h : Heap, cmpop h .Is v .non = some false ∧ cmpop h .IsNot v .non = some true) : callF P W tb (k + 1) 17 [v, v] h = .ok (.bl true) h := by
  rw [callF_go (f := f17) rfl b17 0]
  rcases hv with rfl | ⟨n, s, g, hn, hs, hi⟩
  · have isN : ∀ h : Heap, cmpop h .Is .non .non = some true := fun _ => rfl
    unfold b17 b17_0
    walk_at "mp"
    rw [isN]
    walk_at "mp"
    exact finish_b rfl
  · obtain ⟨z, ez, _, _⟩ := g.shown hn hs
    unfold b17 b17_0
    walk_at "mp"
    rw [(hi h).1]
    walk_at "mp"
    unfold b17_1
    walk_at "mp"
    rw [(hi h).2]
    walk_at "mp"
    rw [ez]
    walk_at "mp"
    rw [ez]
    walk_at "mp"
    exact finish_b rfl
theorem rdV_sm (l : List Nat) : rdV l = .non ∨ ∃ n s, Gd n s (rdV l) ∧ n ≤ 20 ∧ s ≤ 100000 ∧ ∀ h : Heap, cmpop h .Is (rdV l) .non = some false ∧ cmpop h .IsNot (rdV l) .non = some true := by
  cases e : rd l with
  | none => exact .inl (rdV_n e)
  | some i =>
    rw [rdV_i e]
    exact .inr ⟨0, _, Gd.int (n := 0) (rd_gd e) (by decide), by decide, by decide, fun _ => ⟨rfl, rfl⟩⟩
theorem rf_gd {l : List Nat} {t b : Int} (h : rf l = some (t, b)) : bits t ≤ 100 ∧ bits b ≤ 100 := by
  unfold rf at h
  split at h
  · cases e : rd l with
    | none => rw [e] at h; cases h
    | some i =>
      rw [e] at h
      cases h
      exact ⟨rd_gd e, by decide +kernel⟩
  · rename_i p q _
    cases e : rd p with
    | none => rw [e] at h; cases h
    | some i =>
      cases e2 : rd q with
      | none => rw [e, e2] at h; cases h
      | some j =>
        rw [e, e2] at h
        have h : (if 2 ≤ j ∧ Int.gcd i j = 1 then some (i, j) else none) = some (t, b) := h
        split at h
        · cases h
          exact ⟨rd_gd e, rd_gd e2⟩
        · cases h
theorem rfV_sm (l : List Nat) : rfV l = .non ∨ ∃ n s, Gd n s (rfV l) ∧ n ≤ 20 ∧ s ≤ 100000 ∧ ∀ h : Heap, cmpop h .Is (rfV l) .non = some false ∧ cmpop h .IsNot (rfV l) .non = some true := by
  cases e : rf l with
  | none => exact .inl (rfV_n e)
  | some p =>
    obtain ⟨t, b⟩ := p
    obtain ⟨g1, g2⟩ := rf_gd e
    rw [rfV_s e]
    exact .inr ⟨_, _, pair_gd (Nat.le_trans g1 (by decide)) (Nat.le_trans g2 (by decide)), by decide, by decide, fun _ => ⟨rfl, rfl⟩⟩
/-- things that are no texts -/
theorem thing_no {v : Val} (hv : v ∈ [Val.non, .int 7, .bl true, .lst [.str "7"], .tup [.str "7"], .dct [] [], .tup [.int 7, .int 1], .int 0]) : callF P W tb (k + 1) 1 [v] h = .ok .non h ∧ callF P W tb (k + 2) 6 [v] h = .ok .non h := by
  have fin : ∀ f : Fn, f.frz = true → finish f h.length .non h = .ok .non h := fun f e => finish_p e rfl (List.take_length ..)
  simp only [List.mem_cons, List.not_mem_nil, or_false] at hv
  rw [callF_go (f := f1) rfl b1 2, callF_go (f := f6) rfl b6 4]
  unfold b1 b1_0 b6 b6_0
  rcases hv with rfl | rfl | rfl | rfl | rfl | rfl | rfl | rfl
  all_goals
    refine ⟨?_, ?_⟩
    · walk_at "mp"
      exact fin _ rfl
    · walk_at "mp"
      exact fin _ rfl
theorem turn_ok {ns : List Int} {j : Nat} {p2 p3 p4 p5 : Option Val} (hj : j < 1000) (hW : 2 ^ 9000 ≤ W) :
    ∃ q1 q2 q3 q4 q5, run (cfAt P W tb (k + 6)) (.scope b19w1_0) [some (.rol (ns.map .int)), some (.int j), p2, p3, p4, p5] [] = .nx [some (.rol (ns.map .int)), q1, q2, q3, q4, q5] [] := by
  obtain ⟨c, ec⟩ := cell_ok (P := P) (gv := tb) (i := 7) (W := W) (k := k + 5) (ns := ns) (j := j) (h := []) rfl hj
  obtain ⟨o, eb, B0⟩ := box_ok (P := P) (gv := tb) (i := 8) (W := W) (k := k + 5) (v := c) (h := []) rfl
  have hr : ∀ o : Obj, ([o] : Heap)[0]? = some o := fun _ => rfl
  have st : ∀ o o' : Obj, ([o] : Heap).set 0 o' = [o'] := fun _ _ => rfl
  obtain ⟨x, o1, e1, A1, B1⟩ := text13 (W := W) (k := k + 3) (hr o) B0 (by omega)
  obtain ⟨o2, e2, B2⟩ := shown18 (W := W) (k := k) (hr o1) B1 (by omega) hW
  obtain ⟨v, o3, e3, p3', q3, B3⟩ := take9 (W := W) (k := k + 5) 8 (hr o2) B2 (by omega) (by decide) (by decide +kernel)
  rw [st] at e1 e2 e3
  have a := A1.asc (by decide)
  have w1 := whole1 (W := W) (k := k + 5) (h := [o1]) a
  have w2 := read14 (W := W) (k := k + 5) (h := [o1]) a
  have w3 := frac6 (W := W) (k := k + 4) (h := [o1]) a hW
  have w4 := rfrac16 (W := W) (k := k + 4) (h := [o1]) a hW
  have s1 := same17 (W := W) (k := k + 5) (h := [o1]) (rdV_sm (ts x))
  have s2 := same17 (W := W) (k := k + 5) (h := [o1]) (rfV_sm (ts x))
  have two : ∀ q4 : Option Val, ∀ q5 : Option Val, run (cfAt P W tb (k + 6)) b19w2_0 [some (.rol (ns.map .int)), some (.int j), some (.ref 0), some (.str x), q4, q5] [o1] = .nx [some (.rol (ns.map .int)), some (.int j), some (.ref 0), some (.str x), q4, q5] [o1] := fun q4 q5 => by
    generalize rdV (ts x) = V1 at *
    generalize rfV (ts x) = V2 at *
    unfold b19w2_0
    walk_at "mp"
    rw [w1]
    walk_at "mp"
    rw [w2]
    walk_at "mp"
    rw [s1]
    walk_at "mp"
    rw [w3]
    walk_at "mp"
    rw [w4]
    walk_at "mp"
    rw [s2]
    walk_at "mp"
  obtain ⟨y, ey, my⟩ := at_mem (l := [Val.non, .int 7, .bl true, .lst [.str "7"], .tup [.str "7"], .dct [] [], .tup [.int 7, .int 1], .int 0]) p3' (by show v < 8; omega)
  obtain ⟨n1, n2⟩ := thing_no (W := W) (k := k + 4) (h := [o3]) my
  have n1 := (thing_no (W := W) (k := k + 5) (h := [o3]) my).1
  have isn : ∀ h : Heap, cmpop h .IsNot .non .non = some false := fun _ => rfl
  have body : ∃ q4 q5, run (cfAt P W tb (k + 6)) b19w1_0 [some (.rol (ns.map .int)), some (.int j), p2, p3, p4, p5] [] = .nx [some (.rol (ns.map .int)), some (.int j), some (.ref 0), some (.str x), q4, q5] [o3] := by
    refine ⟨some (.int 1), some y, ?_⟩
    unfold b19w1_0
    walk_at "mp"
    rw [ec]
    walk_at "mp"
    rw [eb]
    walk_at "mp"
    unfold b19w1_1
    walk_at "mp"
    rw [e1]
    walk_at "mp"
    unfold b19w1_2
    walk_at "mp"
    rw [rng_i (by decide) (by decide)]
    rw [show rangeL 0 (2 : Int).toNat = [.int 0, .int 1] from rfl]
    walk_at "mp"
    rw [two]
    walk_at "mp"
    rw [two]
    walk_at "mp"
    unfold b19w1_3
    walk_at "mp"
    rw [e2]
    walk_at "mp"
    unfold b19w1_4
    walk_at "mp"
    rw [e3]
    walk_at "mp"
    rw [ey]
    walk_at "mp"
    unfold b19w1_5
    walk_at "mp"
    rw [n1]
    walk_at "mp"
    rw [isn]
    walk_at "mp"
    rw [n2]
    walk_at "mp"
    rw [isn]
    walk_at "mp"
  obtain ⟨q4, q5, e⟩ := body
  rw [r_scope, e, trim_nx]
  simp only [trimL_cons, trimL_nil]
  rw [trim1_s (v := .rol (ns.map .int)) (refsLtL_ints _ ns)]
  exact ⟨_, _, _, _, _, rfl⟩
theorem law_loop {ns : List Int} (hW : 2 ^ 9000 ≤ W) : ∀ (n lo : Nat) (p1 p2 p3 p4 p5 : Option Val), lo + n ≤ 1000 →
    ∃ q1 q2 q3 q4 q5, forL (.nm 1) (run (cfAt P W tb (k + 6)) (.scope b19w1_0)) (rangeL lo n) [some (.rol (ns.map .int)), p1, p2, p3, p4, p5] [] = .nx [some (.rol (ns.map .int)), q1, q2, q3, q4, q5] []
  | 0, lo, p1, p2, p3, p4, p5, _ => ⟨_, _, _, _, _, rfl⟩
  | n + 1, lo, p1, p2, p3, p4, p5, h => by
    rw [rangeL_succ, fl_cons, st_nm]
    obtain ⟨q1, q2, q3, q4, q5, e⟩ := turn_ok (W := W) (k := k) (ns := ns) (j := lo) (p2 := p2) (p3 := p3) (p4 := p4) (p5 := p5) (by omega) hW
    rw [oopt_some]
    simp only [List.set_cons_succ, List.set_cons_zero]
    rw [e, turn_nx]
    exact law_loop hW n (lo + 1) q1 q2 q3 q4 q5 (by omega)
end
theorem law_holds (ns : List Int) (hl : ns.length ≤ 63) (hb : ∀ z ∈ ns, Builtin.Int.intBits z ≤ 1048576) : ∃ W h', callF P W tb lev 19 [.rol (ns.map .int)] [] = .ok (.bl true) h' := by
  refine ⟨2 ^ 9000, [], ?_⟩
  show callF P _ tb (11 + 1) 19 _ _ = _
  rw [callF_go (f := f19) rfl b19 5]
  unfold b19 b19_0
  walk_at "mp"
  have e : max (2 : Int) (min 30 ((ns.map Val.int).length : Int)) = ((max 2 (min 30 ns.length) : Nat) : Int) := by
    rw [List.length_map]
    omega
  rw [e, rng_i (by omega) (by omega), Int.toNat_natCast]
  walk_at "mp"
  obtain ⟨q1, q2, q3, q4, q5, e2⟩ := law_loop (W := 2 ^ 9000) (k := 5) (ns := ns) (Nat.le_refl _) (max 2 (min 30 ns.length)) 0 none none none none none (by omega)
  rw [show ((0 : Nat) : Int) = 0 from rfl] at e2
  rw [e2]
  unfold b19_1
  walk_at "mp"
  exact finish_b rfl

end MP.G
namespace MP.G
open PySem L2
section
variable {K : PySem.W.Frag} {h : PySem.Heap} {mg : Str → Option Value}
theorem xb1 : ∃ p1 p2 p3 p4, defBody (mtop 2 0) = [.Assign [.Attribute (.Name "self" p1) "found" p2] (.Name "found" p3) p4] := ⟨_, _, _, _, rfl⟩
theorem xs1 : FnScope ["self", "found"] ["self", "found"] (defScope (mtop 2 0)) := ⟨rfl, rfl, rfl, by decide +kernel, rfl, by decide +kernel, by decide +kernel⟩
def gk (K : PySem.W.Frag) (cs fs : List Addr) : Gk := ⟨K, fun i => cs.getD i 0, fun i => fs.getD i 0, tb⟩
theorem all_mk {f0a : Addr} {oc0 kV0 dc0 pm0 cd0 ct0 : Value} {od0 an0 : Option Addr} {sl0 : Array (Option Value)} {f1a : Addr} {oc1 kV1 dc1 pm1 cd1 ct1 : Value} {od1 an1 : Option Addr} {sl1 : Array (Option Value)} {f2a : Addr} {oc2 kV2 dc2 pm2 cd2 ct2 : Value} {od2 an2 : Option Addr} {sl2 : Array (Option Value)} {f3a : Addr} {oc3 kV3 dc3 pm3 cd3 ct3 : Value} {od3 an3 : Option Addr} {sl3 : Array (Option Value)} {f4a : Addr} {oc4 kV4 dc4 pm4 cd4 ct4 : Value} {od4 an4 : Option Addr} {sl4 : Array (Option Value)} {f5a : Addr} {oc5 kV5 dc5 pm5 cd5 ct5 : Value} {od5 an5 : Option Addr} {sl5 : Array (Option Value)} {f6a : Addr} {oc6 kV6 dc6 pm6 cd6 ct6 : Value} {od6 an6 : Option Addr} {sl6 : Array (Option Value)} {f7a : Addr} {oc7 kV7 dc7 pm7 cd7 ct7 : Value} {od7 an7 : Option Addr} {sl7 : Array (Option Value)} {f8a : Addr} {oc8 kV8 dc8 pm8 cd8 ct8 : Value} {od8 an8 : Option Addr} {sl8 : Array (Option Value)} {f9a : Addr} {oc9 kV9 dc9 pm9 cd9 ct9 : Value} {od9 an9 : Option Addr} {sl9 : Array (Option Value)} {f10a : Addr} {oc10 kV10 dc10 pm10 cd10 ct10 : Value} {od10 an10 : Option Addr} {sl10 : Array (Option Value)} {f11a : Addr} {oc11 kV11 dc11 pm11 cd11 ct11 : Value} {od11 an11 : Option Addr} {sl11 : Array (Option Value)} {f12a : Addr} {oc12 kV12 dc12 pm12 cd12 ct12 : Value} {od12 an12 : Option Addr} {sl12 : Array (Option Value)} {f13a : Addr} {oc13 kV13 dc13 pm13 cd13 ct13 : Value} {od13 an13 : Option Addr} {sl13 : Array (Option Value)} {f14a : Addr} {oc14 kV14 dc14 pm14 cd14 ct14 : Value} {od14 an14 : Option Addr} {sl14 : Array (Option Value)} {f15a : Addr} {oc15 kV15 dc15 pm15 cd15 ct15 : Value} {od15 an15 : Option Addr} {sl15 : Array (Option Value)} {f16a : Addr} {oc16 kV16 dc16 pm16 cd16 ct16 : Value} {od16 an16 : Option Addr} {sl16 : Array (Option Value)} {f17a : Addr} {oc17 kV17 dc17 pm17 cd17 ct17 : Value} {od17 an17 : Option Addr} {sl17 : Array (Option Value)} {f18a : Addr} {oc18 kV18 dc18 pm18 cd18 ct18 : Value} {od18 an18 : Option Addr} {sl18 : Array (Option Value)} {f19a : Addr} {oc19 kV19 dc19 pm19 cd19 ct19 : Value} {od19 an19 : Option Addr} {sl19 : Array (Option Value)} {c0a : Addr} {c1a : Addr} {nm1 qn1 : Str} {nn1 : Addr} {bs1 bm1 : List Value} {sn1 : List Str} {sb1 : List Value} {ab1 : Bool} {co1 : Option Bool} {dd1 : Option Addr} {u10 u11 u12 u13 u15 : Option Value} {i1a : Addr} {ioc1 ikV1 idc1 ipm1 icd1 ict1 : Value} {iod1 ian1 : Option Addr} {isl1 : Array (Option Value)} {t0 : Tok} (X : K.In h) (G : h.Ns mainGlobals mg)
    (a0 : PySem.W.nsIn K mainGlobals "is_whole" = some (some (.ref f0a)))
    (a1 : PySem.W.nsIn K mainGlobals "whole_of" = some (some (.ref f1a)))
    (a2 : PySem.W.nsIn K mainGlobals "common" = some (some (.ref f2a)))
    (a3 : PySem.W.nsIn K mainGlobals "lowest" = some (some (.ref f3a)))
    (a4 : PySem.W.nsIn K mainGlobals "frac" = some (some (.ref f4a)))
    (a5 : PySem.W.nsIn K mainGlobals "frac_text" = some (some (.ref f5a)))
    (a6 : PySem.W.nsIn K mainGlobals "frac_of" = some (some (.ref f6a)))
    (a7 : PySem.W.nsIn K mainGlobals "_law_cell" = some (some (.ref f7a)))
    (a8 : PySem.W.nsIn K mainGlobals "_law_box" = some (some (.ref f8a)))
    (a9 : PySem.W.nsIn K mainGlobals "_law_take" = some (some (.ref f9a)))
    (a10 : PySem.W.nsIn K mainGlobals "_law_great" = some (some (.ref f10a)))
    (a11 : PySem.W.nsIn K mainGlobals "_law_page" = some (some (.ref f11a)))
    (a12 : PySem.W.nsIn K mainGlobals "_law_figures" = some (some (.ref f12a)))
    (a13 : PySem.W.nsIn K mainGlobals "_law_text" = some (some (.ref f13a)))
    (a14 : PySem.W.nsIn K mainGlobals "_law_read" = some (some (.ref f14a)))
    (a15 : PySem.W.nsIn K mainGlobals "_law_common" = some (some (.ref f15a)))
    (a16 : PySem.W.nsIn K mainGlobals "_law_read_frac" = some (some (.ref f16a)))
    (a17 : PySem.W.nsIn K mainGlobals "_law_same" = some (some (.ref f17a)))
    (a18 : PySem.W.nsIn K mainGlobals "_law_shown" = some (some (.ref f18a)))
    (a19 : PySem.W.nsIn K mainGlobals "law" = some (some (.ref f19a)))
    (n0 : PySem.W.nsIn K mainGlobals "ShapeError" = some (some (.ref c0a)))
    (n1 : PySem.W.nsIn K mainGlobals "NoFraction" = some (some (.ref c1a)))
    (l0 : K.lookup f0a = some ⟨oc0, od0, .func (PySem.W.fnOf "is_whole" "is_whole" (defArgs (top 5)) (defBody (top 5)) (defScope (top 5)) .none kV0 dc0 pm0 an0 cd0 ct0), sl0⟩)
    (e0 : PySem.W.codeIn K cd0 "is_whole" = true)
    (k0 : PySem.W.keepIn K (.ref f0a) = true)
    (l1 : K.lookup f1a = some ⟨oc1, od1, .func (PySem.W.fnOf "whole_of" "whole_of" (defArgs (top 6)) (defBody (top 6)) (defScope (top 6)) .none kV1 dc1 pm1 an1 cd1 ct1), sl1⟩)
    (e1 : PySem.W.codeIn K cd1 "whole_of" = true)
    (k1 : PySem.W.keepIn K (.ref f1a) = true)
    (l2 : K.lookup f2a = some ⟨oc2, od2, .func (PySem.W.fnOf "common" "common" (defArgs (top 7)) (defBody (top 7)) (defScope (top 7)) .none kV2 dc2 pm2 an2 cd2 ct2), sl2⟩)
    (e2 : PySem.W.codeIn K cd2 "common" = true)
    (k2 : PySem.W.keepIn K (.ref f2a) = true)
    (l3 : K.lookup f3a = some ⟨oc3, od3, .func (PySem.W.fnOf "lowest" "lowest" (defArgs (top 9)) (defBody (top 9)) (defScope (top 9)) .none kV3 dc3 pm3 an3 cd3 ct3), sl3⟩)
    (e3 : PySem.W.codeIn K cd3 "lowest" = true)
    (k3 : PySem.W.keepIn K (.ref f3a) = true)
    (l4 : K.lookup f4a = some ⟨oc4, od4, .func (PySem.W.fnOf "frac" "frac" (defArgs (top 10)) (defBody (top 10)) (defScope (top 10)) .none kV4 dc4 pm4 an4 cd4 ct4), sl4⟩)
    (e4 : PySem.W.codeIn K cd4 "frac" = true)
    (k4 : PySem.W.keepIn K (.ref f4a) = true)
    (l5 : K.lookup f5a = some ⟨oc5, od5, .func (PySem.W.fnOf "frac_text" "frac_text" (defArgs (top 11)) (defBody (top 11)) (defScope (top 11)) .none kV5 dc5 pm5 an5 cd5 ct5), sl5⟩)
    (e5 : PySem.W.codeIn K cd5 "frac_text" = true)
    (k5 : PySem.W.keepIn K (.ref f5a) = true)
    (l6 : K.lookup f6a = some ⟨oc6, od6, .func (PySem.W.fnOf "frac_of" "frac_of" (defArgs (top 12)) (defBody (top 12)) (defScope (top 12)) .none kV6 dc6 pm6 an6 cd6 ct6), sl6⟩)
    (e6 : PySem.W.codeIn K cd6 "frac_of" = true)
    (k6 : PySem.W.keepIn K (.ref f6a) = true)
    (l7 : K.lookup f7a = some ⟨oc7, od7, .func (PySem.W.fnOf "_law_cell" "_law_cell" (defArgs (top 14)) (defBody (top 14)) (defScope (top 14)) .none kV7 dc7 pm7 an7 cd7 ct7), sl7⟩)
    (e7 : PySem.W.codeIn K cd7 "_law_cell" = true)
    (k7 : PySem.W.keepIn K (.ref f7a) = true)
    (l8 : K.lookup f8a = some ⟨oc8, od8, .func (PySem.W.fnOf "_law_box" "_law_box" (defArgs (top 15)) (defBody (top 15)) (defScope (top 15)) .none kV8 dc8 pm8 an8 cd8 ct8), sl8⟩)
    (e8 : PySem.W.codeIn K cd8 "_law_box" = true)
    (k8 : PySem.W.keepIn K (.ref f8a) = true)
    (l9 : K.lookup f9a = some ⟨oc9, od9, .func (PySem.W.fnOf "_law_take" "_law_take" (defArgs (top 16)) (defBody (top 16)) (defScope (top 16)) .none kV9 dc9 pm9 an9 cd9 ct9), sl9⟩)
    (e9 : PySem.W.codeIn K cd9 "_law_take" = true)
    (k9 : PySem.W.keepIn K (.ref f9a) = true)
    (l10 : K.lookup f10a = some ⟨oc10, od10, .func (PySem.W.fnOf "_law_great" "_law_great" (defArgs (top 17)) (defBody (top 17)) (defScope (top 17)) .none kV10 dc10 pm10 an10 cd10 ct10), sl10⟩)
    (e10 : PySem.W.codeIn K cd10 "_law_great" = true)
    (k10 : PySem.W.keepIn K (.ref f10a) = true)
    (l11 : K.lookup f11a = some ⟨oc11, od11, .func (PySem.W.fnOf "_law_page" "_law_page" (defArgs (top 18)) (defBody (top 18)) (defScope (top 18)) .none kV11 dc11 pm11 an11 cd11 ct11), sl11⟩)
    (e11 : PySem.W.codeIn K cd11 "_law_page" = true)
    (k11 : PySem.W.keepIn K (.ref f11a) = true)
    (l12 : K.lookup f12a = some ⟨oc12, od12, .func (PySem.W.fnOf "_law_figures" "_law_figures" (defArgs (top 19)) (defBody (top 19)) (defScope (top 19)) .none kV12 dc12 pm12 an12 cd12 ct12), sl12⟩)
    (e12 : PySem.W.codeIn K cd12 "_law_figures" = true)
    (k12 : PySem.W.keepIn K (.ref f12a) = true)
    (l13 : K.lookup f13a = some ⟨oc13, od13, .func (PySem.W.fnOf "_law_text" "_law_text" (defArgs (top 20)) (defBody (top 20)) (defScope (top 20)) .none kV13 dc13 pm13 an13 cd13 ct13), sl13⟩)
    (e13 : PySem.W.codeIn K cd13 "_law_text" = true)
    (k13 : PySem.W.keepIn K (.ref f13a) = true)
    (l14 : K.lookup f14a = some ⟨oc14, od14, .func (PySem.W.fnOf "_law_read" "_law_read" (defArgs (top 21)) (defBody (top 21)) (defScope (top 21)) .none kV14 dc14 pm14 an14 cd14 ct14), sl14⟩)
    (e14 : PySem.W.codeIn K cd14 "_law_read" = true)
    (k14 : PySem.W.keepIn K (.ref f14a) = true)
    (l15 : K.lookup f15a = some ⟨oc15, od15, .func (PySem.W.fnOf "_law_common" "_law_common" (defArgs (top 22)) (defBody (top 22)) (defScope (top 22)) .none kV15 dc15 pm15 an15 cd15 ct15), sl15⟩)
    (e15 : PySem.W.codeIn K cd15 "_law_common" = true)
    (k15 : PySem.W.keepIn K (.ref f15a) = true)
    (l16 : K.lookup f16a = some ⟨oc16, od16, .func (PySem.W.fnOf "_law_read_frac" "_law_read_frac" (defArgs (top 23)) (defBody (top 23)) (defScope (top 23)) .none kV16 dc16 pm16 an16 cd16 ct16), sl16⟩)
    (e16 : PySem.W.codeIn K cd16 "_law_read_frac" = true)
    (k16 : PySem.W.keepIn K (.ref f16a) = true)
    (l17 : K.lookup f17a = some ⟨oc17, od17, .func (PySem.W.fnOf "_law_same" "_law_same" (defArgs (top 24)) (defBody (top 24)) (defScope (top 24)) .none kV17 dc17 pm17 an17 cd17 ct17), sl17⟩)
    (e17 : PySem.W.codeIn K cd17 "_law_same" = true)
    (k17 : PySem.W.keepIn K (.ref f17a) = true)
    (l18 : K.lookup f18a = some ⟨oc18, od18, .func (PySem.W.fnOf "_law_shown" "_law_shown" (defArgs (top 25)) (defBody (top 25)) (defScope (top 25)) .none kV18 dc18 pm18 an18 cd18 ct18), sl18⟩)
    (e18 : PySem.W.codeIn K cd18 "_law_shown" = true)
    (k18 : PySem.W.keepIn K (.ref f18a) = true)
    (l19 : K.lookup f19a = some ⟨oc19, od19, .func (PySem.W.fnOf "law" "law" (defArgs (top 26)) (defBody (top 26)) (defScope (top 26)) .none kV19 dc19 pm19 an19 cd19 ct19), sl19⟩)
    (e19 : PySem.W.codeIn K cd19 "law" = true)
    (k19 : PySem.W.keepIn K (.ref f19a) = true)
    (x0ex : PySem.W.subIn K (.ref c0a) (.type "BaseException") = some true)
    (x0ty : PySem.W.typeIn K (.ref c0a) = some (.type "type"))
    (x0kp : PySem.W.keepIn K (.ref c0a) = true)
    (x0hg : PySem.W.findIn K (.ref c0a) "__getattribute__" = some (some (.builtin "BaseException.__getattribute__")))
    (x0hk : PySem.W.findIn K (.ref c0a) "__getattr__" = some none)
    (x0hd : PySem.W.hasDictIn K c0a = true)
    (x0ha : PySem.W.findIn K (.ref c0a) "__class__" = some (some (.builtin "object.__class__")))
    (x0hn : PySem.W.specialIn K (.builtin "object.__class__") "__get__" = some (some (.builtin "getset_descriptor.__get__")))
    (x0ht : PySem.W.takesIn K (.builtin "object.__class__") = some true)
    (x0hm : PySem.W.mroIn K c0a (.type "object") = some true)
    (x0nw : PySem.W.excIn K c0a [.type "ValueError", .type "Exception", .type "BaseException", .type "object"] "ValueError.__new__" = true)
    (y0_0 : PySem.W.subIn K (.ref c0a) (.ref c0a) = some true)
    (z0_0 : PySem.W.kitOne K (.ref c0a) (.ref c0a) = some true)
    (y0_1 : PySem.W.subIn K (.ref c0a) (.ref c1a) = some false)
    (z0_1 : PySem.W.kitOne K (.ref c0a) (.ref c1a) = some false)
    (x1ex : PySem.W.subIn K (.ref c1a) (.type "BaseException") = some true)
    (x1ty : PySem.W.typeIn K (.ref c1a) = some (.type "type"))
    (x1kp : PySem.W.keepIn K (.ref c1a) = true)
    (x1hg : PySem.W.findIn K (.ref c1a) "__getattribute__" = some (some (.builtin "BaseException.__getattribute__")))
    (x1hk : PySem.W.findIn K (.ref c1a) "__getattr__" = some none)
    (x1hd : PySem.W.hasDictIn K c1a = true)
    (x1ha : PySem.W.findIn K (.ref c1a) "__class__" = some (some (.builtin "object.__class__")))
    (x1hn : PySem.W.specialIn K (.builtin "object.__class__") "__get__" = some (some (.builtin "getset_descriptor.__get__")))
    (x1ht : PySem.W.takesIn K (.builtin "object.__class__") = some true)
    (x1hm : PySem.W.mroIn K c1a (.type "object") = some true)
    (x1xl : K.lookup c1a = some (excClassObj nm1 qn1 c1a nn1 bs1 bm1 true sn1 sb1 ab1 co1 dd1 u10 u11 u12 u13 u15 "ValueError.__new__"))
    (x1rb : PySem.HandSPX.refsVE bm1 = true)
    (x1sa : PySem.W.findIn K (.ref c1a) "__setattr__" = some (some (.builtin "object.__setattr__")))
    (x1no : PySem.W.findIn K (.ref c1a) "found" = some none)
    (x1ia : PySem.W.findIn K (.ref c1a) "__init__" = some (some (.ref i1a)))
    (x1it : PySem.W.typeIn K (.ref i1a) = some (.type "function"))
    (x1il : K.lookup i1a = some ⟨ioc1, iod1, .func (PySem.W.fnOf "__init__" "NoFraction.__init__" (defArgs (mtop 2 0)) (defBody (mtop 2 0)) (defScope (mtop 2 0)) .none ikV1 idc1 ipm1 ian1 icd1 ict1), isl1⟩)
    (x1ic : PySem.W.codeIn K icd1 "NoFraction.__init__" = true)
    (x1ik : PySem.W.keepIn K (.ref i1a) = true)
    (y1_0 : PySem.W.subIn K (.ref c1a) (.ref c0a) = some true)
    (z1_0 : PySem.W.kitOne K (.ref c1a) (.ref c0a) = some true)
    (y1_1 : PySem.W.subIn K (.ref c1a) (.ref c1a) = some true)
    (z1_1 : PySem.W.kitOne K (.ref c1a) (.ref c1a) = some true)
    (z0 : PySem.W.nsIn K mainGlobals "abs" = some none)
    (z1 : PySem.W.nsIn K mainGlobals "bool" = some none)
    (z2 : PySem.W.nsIn K mainGlobals "int" = some none)
    (z3 : PySem.W.nsIn K mainGlobals "isinstance" = some none)
    (z4 : PySem.W.nsIn K mainGlobals "len" = some none)
    (z5 : PySem.W.nsIn K mainGlobals "max" = some none)
    (z6 : PySem.W.nsIn K mainGlobals "min" = some none)
    (z7 : PySem.W.nsIn K mainGlobals "range" = some none)
    (z8 : PySem.W.nsIn K mainGlobals "repr" = some none)
    (z9 : PySem.W.nsIn K mainGlobals "str" = some none)
    (gw0 : PySem.W.nsIn K mainGlobals "FIGURES" = some (some (.str "0123456789" t0)))
    : Prg (gk K [c0a, c1a] [f0a, f1a, f2a, f3a, f4a, f5a, f6a, f7a, f8a, f9a, f10a, f11a, f12a, f13a, f14a, f15a, f16a, f17a, f18a, f19a]) mg P D fnN bn gl cn where
  len := rfl
  df := fun i d e => by
    match i, e with
    | 0, e => cases (show d0 = d from Option.some.inj e); obtain ⟨fd, z⟩ := defAt_mk (name := "is_whole") (N := ["thing"]) (ps := ["thing"]) sc0 (fun _ _ _ _ _ _ us hl => match us, hl with | [_], _ => rfl) l0 e0 k0; exact ⟨f0, fd, rfl, ok0, z⟩
    | 1, e => cases (show d1 = d from Option.some.inj e); obtain ⟨fd, z⟩ := defAt_mk (name := "whole_of") (N := ["text", "figures", "sign"]) (ps := ["text"]) sc1 (fun _ _ _ _ _ _ us hl => match us, hl with | [_], _ => rfl) l1 e1 k1; exact ⟨f1, fd, rfl, ok1, z⟩
    | 2, e => cases (show d2 = d from Option.some.inj e); obtain ⟨fd, z⟩ := defAt_mk (name := "common") (N := ["one", "other"]) (ps := ["one", "other"]) sc2 (fun _ _ _ _ _ _ us hl => match us, hl with | [_, _], _ => rfl) l2 e2 k2; exact ⟨f2, fd, rfl, ok2, z⟩
    | 3, e => cases (show d3 = d from Option.some.inj e); obtain ⟨fd, z⟩ := defAt_mk (name := "lowest") (N := ["top", "bottom", "many"]) (ps := ["top", "bottom"]) sc3 (fun _ _ _ _ _ _ us hl => match us, hl with | [_, _], _ => rfl) l3 e3 k3; exact ⟨f3, fd, rfl, ok3, z⟩
    | 4, e => cases (show d4 = d from Option.some.inj e); obtain ⟨fd, z⟩ := defAt_mk (name := "frac") (N := ["top", "bottom"]) (ps := ["top", "bottom"]) sc4 (fun _ _ _ _ _ _ us hl => match us, hl with | [_, _], _ => rfl) l4 e4 k4; exact ⟨f4, fd, rfl, ok4, z⟩
    | 5, e => cases (show d5 = d from Option.some.inj e); obtain ⟨fd, z⟩ := defAt_mk (name := "frac_text") (N := ["one"]) (ps := ["one"]) sc5 (fun _ _ _ _ _ _ us hl => match us, hl with | [_], _ => rfl) l5 e5 k5; exact ⟨f5, fd, rfl, ok5, z⟩
    | 6, e => cases (show d6 = d from Option.some.inj e); obtain ⟨fd, z⟩ := defAt_mk (name := "frac_of") (N := ["text", "parts", "top", "bottom", "many"]) (ps := ["text"]) sc6 (fun _ _ _ _ _ _ us hl => match us, hl with | [_], _ => rfl) l6 e6 k6; exact ⟨f6, fd, rfl, ok6, z⟩
    | 7, e => cases (show d7 = d from Option.some.inj e); obtain ⟨fd, z⟩ := defAt_mk (name := "_law_cell") (N := ["_law_script", "_law_k"]) (ps := ["_law_script", "_law_k"]) sc7 (fun _ _ _ _ _ _ us hl => match us, hl with | [_, _], _ => rfl) l7 e7 k7; exact ⟨f7, fd, rfl, ok7, z⟩
    | 8, e => cases (show d8 = d from Option.some.inj e); obtain ⟨fd, z⟩ := defAt_mk (name := "_law_box") (N := ["_law_cell_here"]) (ps := ["_law_cell_here"]) sc8 (fun _ _ _ _ _ _ us hl => match us, hl with | [_], _ => rfl) l8 e8 k8; exact ⟨f8, fd, rfl, ok8, z⟩
    | 9, e => cases (show d9 = d from Option.some.inj e); obtain ⟨fd, z⟩ := defAt_mk (name := "_law_take") (N := ["_law_box_here", "_law_many", "_law_number", "_law_digit"]) (ps := ["_law_box_here", "_law_many"]) sc9 (fun _ _ _ _ _ _ us hl => match us, hl with | [_, _], _ => rfl) l9 e9 k9; exact ⟨f9, fd, rfl, ok9, z⟩
    | 10, e => cases (show d10 = d from Option.some.inj e); obtain ⟨fd, z⟩ := defAt_mk (name := "_law_great") (N := ["_law_box_here", "_law_chunks", "_law_number", "_law_k"]) (ps := ["_law_box_here", "_law_chunks"]) sc10 (fun _ _ _ _ _ _ us hl => match us, hl with | [_, _], _ => rfl) l10 e10 k10; exact ⟨f10, fd, rfl, ok10, z⟩
    | 11, e => cases (show d11 = d from Option.some.inj e); obtain ⟨fd, z⟩ := defAt_mk (name := "_law_page") (N := ["_law_page_here"]) (ps := []) sc11 (fun _ _ _ _ _ _ us hl => match us, hl with | [], _ => rfl) l11 e11 k11; exact ⟨f11, fd, rfl, ok11, z⟩
    | 12, e => cases (show d12 = d from Option.some.inj e); obtain ⟨fd, z⟩ := defAt_mk (name := "_law_figures") (N := ["_law_box_here", "_law_many", "_law_text_here", "_law_k"]) (ps := ["_law_box_here"]) sc12 (fun _ _ _ _ _ _ us hl => match us, hl with | [_], _ => rfl) l12 e12 k12; exact ⟨f12, fd, rfl, ok12, z⟩
    | 13, e => cases (show d13 = d from Option.some.inj e); obtain ⟨fd, z⟩ := defAt_mk (name := "_law_text") (N := ["_law_box_here", "_law_spoil", "_law_sign", "_law_text_here", "_law_at"]) (ps := ["_law_box_here"]) sc13 (fun _ _ _ _ _ _ us hl => match us, hl with | [_], _ => rfl) l13 e13 k13; exact ⟨f13, fd, rfl, ok13, z⟩
    | 14, e => cases (show d14 = d from Option.some.inj e); obtain ⟨fd, z⟩ := defAt_mk (name := "_law_read") (N := ["_law_text_here", "_law_figures_here", "_law_number", "_law_sign"]) (ps := ["_law_text_here"]) sc14 (fun _ _ _ _ _ _ us hl => match us, hl with | [_], _ => rfl) l14 e14 k14; exact ⟨f14, fd, rfl, ok14, z⟩
    | 15, e => cases (show d15 = d from Option.some.inj e); obtain ⟨fd, z⟩ := defAt_mk (name := "_law_common") (N := ["_law_one", "_law_other"]) (ps := ["_law_one", "_law_other"]) sc15 (fun _ _ _ _ _ _ us hl => match us, hl with | [_, _], _ => rfl) l15 e15 k15; exact ⟨f15, fd, rfl, ok15, z⟩
    | 16, e => cases (show d16 = d from Option.some.inj e); obtain ⟨fd, z⟩ := defAt_mk (name := "_law_read_frac") (N := ["_law_text_here", "_law_at", "_law_top", "_law_bottom", "_law_whole"]) (ps := ["_law_text_here"]) sc16 (fun _ _ _ _ _ _ us hl => match us, hl with | [_], _ => rfl) l16 e16 k16; exact ⟨f16, fd, rfl, ok16, z⟩
    | 17, e => cases (show d17 = d from Option.some.inj e); obtain ⟨fd, z⟩ := defAt_mk (name := "_law_same") (N := ["_law_found", "_law_due"]) (ps := ["_law_found", "_law_due"]) sc17 (fun _ _ _ _ _ _ us hl => match us, hl with | [_, _], _ => rfl) l17 e17 k17; exact ⟨f17, fd, rfl, ok17, z⟩
    | 18, e => cases (show d18 = d from Option.some.inj e); obtain ⟨fd, z⟩ := defAt_mk (name := "_law_shown") (N := ["_law_box_here", "_law_top", "_law_bottom", "_law_shared", "_law_due", "_law_text_here"]) (ps := ["_law_box_here"]) sc18 (fun _ _ _ _ _ _ us hl => match us, hl with | [_], _ => rfl) l18 e18 k18; exact ⟨f18, fd, rfl, ok18, z⟩
    | 19, e => cases (show d19 = d from Option.some.inj e); obtain ⟨fd, z⟩ := defAt_mk (name := "law") (N := ["_law_script", "_law_k", "_law_box_here", "_law_text_here", "_law_turn", "_law_thing"]) (ps := ["_law_script"]) sc19 (fun _ _ _ _ _ _ us hl => match us, hl with | [_], _ => rfl) l19 e19 k19; exact ⟨f19, fd, rfl, ok19, z⟩
    | _ + 20, e => simp [D] at e
  fnm := fun i x e hx => by
    match i, e with
    | 0, e => cases (show ("is_whole" : Str) = x from Option.some.inj e); exact ⟨PySem.W.mg_of X G a0, k0⟩
    | 1, e => cases (show ("whole_of" : Str) = x from Option.some.inj e); exact ⟨PySem.W.mg_of X G a1, k1⟩
    | 2, e => cases (show ("common" : Str) = x from Option.some.inj e); exact ⟨PySem.W.mg_of X G a2, k2⟩
    | 3, e => cases (show ("lowest" : Str) = x from Option.some.inj e); exact ⟨PySem.W.mg_of X G a3, k3⟩
    | 4, e => cases (show ("frac" : Str) = x from Option.some.inj e); exact ⟨PySem.W.mg_of X G a4, k4⟩
    | 5, e => cases (show ("frac_text" : Str) = x from Option.some.inj e); exact ⟨PySem.W.mg_of X G a5, k5⟩
    | 6, e => cases (show ("frac_of" : Str) = x from Option.some.inj e); exact ⟨PySem.W.mg_of X G a6, k6⟩
    | 7, e => cases (show ("_law_cell" : Str) = x from Option.some.inj e); exact ⟨PySem.W.mg_of X G a7, k7⟩
    | 8, e => cases (show ("_law_box" : Str) = x from Option.some.inj e); exact ⟨PySem.W.mg_of X G a8, k8⟩
    | 9, e => cases (show ("_law_take" : Str) = x from Option.some.inj e); exact ⟨PySem.W.mg_of X G a9, k9⟩
    | 10, e => cases (show ("_law_great" : Str) = x from Option.some.inj e); exact ⟨PySem.W.mg_of X G a10, k10⟩
    | 11, e => cases (show ("_law_page" : Str) = x from Option.some.inj e); exact ⟨PySem.W.mg_of X G a11, k11⟩
    | 12, e => cases (show ("_law_figures" : Str) = x from Option.some.inj e); exact ⟨PySem.W.mg_of X G a12, k12⟩
    | 13, e => cases (show ("_law_text" : Str) = x from Option.some.inj e); exact ⟨PySem.W.mg_of X G a13, k13⟩
    | 14, e => cases (show ("_law_read" : Str) = x from Option.some.inj e); exact ⟨PySem.W.mg_of X G a14, k14⟩
    | 15, e => cases (show ("_law_common" : Str) = x from Option.some.inj e); exact ⟨PySem.W.mg_of X G a15, k15⟩
    | 16, e => cases (show ("_law_read_frac" : Str) = x from Option.some.inj e); exact ⟨PySem.W.mg_of X G a16, k16⟩
    | 17, e => cases (show ("_law_same" : Str) = x from Option.some.inj e); exact ⟨PySem.W.mg_of X G a17, k17⟩
    | 18, e => cases (show ("_law_shown" : Str) = x from Option.some.inj e); exact ⟨PySem.W.mg_of X G a18, k18⟩
    | 19, e => cases (show ("law" : Str) = x from Option.some.inj e); exact ⟨PySem.W.mg_of X G a19, k19⟩
    | _ + 20, e => simp [fnN] at e
  nob := by
    intro x hx
    simp only [bn, List.contains_cons, List.contains_nil, Bool.or_eq_true, beq_iff_eq, Bool.or_false] at hx
    rcases hx with rfl | rfl | rfl | rfl | rfl | rfl | rfl | rfl | rfl | rfl
    · exact PySem.W.mg_none_of X G z0
    · exact PySem.W.mg_none_of X G z1
    · exact PySem.W.mg_none_of X G z2
    · exact PySem.W.mg_none_of X G z3
    · exact PySem.W.mg_none_of X G z4
    · exact PySem.W.mg_none_of X G z5
    · exact PySem.W.mg_none_of X G z6
    · exact PySem.W.mg_none_of X G z7
    · exact PySem.W.mg_none_of X G z8
    · exact PySem.W.mg_none_of X G z9
  glo := by
    intro x v hx hv
    simp only [gl, List.contains_cons, List.contains_nil, Bool.or_eq_true, beq_iff_eq, Bool.or_false] at hx
    subst hx
    · cases (gv_0.symm.trans hv)
      exact ⟨(.str "0123456789"), _, PySem.W.mg_of X G gw0, ⟨_, rfl⟩, fun _ _ _ _ => rfl⟩
  cls := fun i x e => by
    match i, e with
    | 0, e => cases (show ("ShapeError" : Str) = x from Option.some.inj e); exact PySem.W.mg_of X G n0
    | 1, e => cases (show ("NoFraction" : Str) = x from Option.some.inj e); exact PySem.W.mg_of X G n1
    | _ + 2, e => simp [cn] at e
  mtl := fun i m f e => by
    cases e
  wd := {
    cls := fun i hi => by
      match i, hi with
      | 0, hi => cases hi
      | 1, hi => cases hi
      | _ + 2, hi => simp [gk, tb, isCT] at hi
    mt := fun i m f hi e => by
      cases e
    mks := fun i f e => by
      cases e
    ex := fun i hi => by
      match i, hi with
      | 0, _ => exact ⟨⟨x0ex, x0ty, x0kp, ⟨x0hg, x0hk, x0ex, x0hd, x0ha, x0hn, x0ht, x0hm⟩⟩, fun _ => ⟨x0nw⟩, fun f hf => by cases hf⟩
      | 1, _ => obtain ⟨p1, p2, p3, p4, eb⟩ := xb1; exact ⟨⟨x1ex, x1ty, x1kp, ⟨x1hg, x1hk, x1ex, x1hd, x1ha, x1hn, x1ht, x1hm⟩⟩, (fun z => by cases z), fun f hf => by
          cases hf
          exact ⟨⟨⟨nm1, qn1, nn1, bs1, bm1, sn1, sb1, ab1, co1, dd1, u10, u11, u12, u13, u15, x1xl, x1rb⟩, x1sa, x1ex, x1ty, x1kp⟩, x1no, ⟨x1hg, x1hk, x1ex, x1hd⟩, ⟨i1a, _, _, _, p1, p2, p3, p4, x1ia, x1it, fun_mk x1il x1ic x1ik, xs1, eb, (fun_mk x1il x1ic x1ik).binds fun _ _ _ _ _ _ us hl => match us, hl with | [_, _], _ => rfl, by decide, by decide⟩⟩⟩
      | _ + 2, hi => simp [gk, tb, isXT] at hi
    sub := fun i j hi hj => by
      match i, j, hi, hj with
      | 0, 0, _, _ => exact ⟨PySem.W.exm_ref x0ex x0hd x0ty y0_0, z0_0⟩
      | 0, 1, _, _ => exact ⟨PySem.W.exm_ref x1ex x1hd x1ty y0_1, z0_1⟩
      | 0, _ + 2, _, hj => simp [gk, tb, isXT] at hj
      | 1, 0, _, _ => exact ⟨PySem.W.exm_ref x0ex x0hd x0ty y1_0, z1_0⟩
      | 1, 1, _, _ => exact ⟨PySem.W.exm_ref x1ex x1hd x1ty y1_1, z1_1⟩
      | 1, _ + 2, _, hj => simp [gk, tb, isXT] at hj
      | _ + 2, _, hi, _ => simp [gk, tb, isXT] at hi
    clsT := fun i hi hI => by
      match i, hi, hI with
      | 0, _, hI => cases hI
      | 1, _, hI => cases hI
      | _ + 2, hi, _ => simp [gk, tb, isCT] at hi
    subC := fun i j hi hI hj hJ => by
      match i, j, hi, hI, hj, hJ with
      | 0, _, _, hI, _, _ => cases hI
      | 1, _, _, hI, _, _ => cases hI
      | _ + 2, _, hi, _, _, _ => simp [gk, tb, isCT] at hi
    subB := fun T j hj hJ hT => by
      simp only [List.contains_cons, List.contains_nil, Bool.or_eq_true, beq_iff_eq, Bool.or_false] at hT
      match j, hj, hJ with
      | 0, _, hJ => cases hJ
      | 1, _, hJ => cases hJ
      | _ + 2, hj, _ => simp [gk, tb, isCT] at hj
    subT := fun i T hi hT => by
      cases hT
  }
end
theorem walk {l : PySem.W.OpenLaw} {q : Program} {loose : List Str} {XP : (Str → Option Value) → PySem.Heap → Prop} {YP : World → PySem.Heap → Prop} {d : DefRec} {K : Params → PySem.W.Frag} (hn : l.most = some 63) (hdf : d.params.defaults = []) (hdn : d.name = "law")
    (hY : ∀ (w : World) (h : PySem.Heap), YP w h → (K w.params).In h)
    (F : ∀ (w : World) (mg : Str → Option Value) (h : PySem.Heap), (K w.params).In h → h.Ns mainGlobals mg → ∃ cs fs, Prg (gk (K w.params) cs fs) mg P D fnN bn gl cn) :
    PySem.W.WalkO q loose XP YP l.row.toRowW d [] (fun f vs => PySem.call f vs) := by
  refine walk_G (n := 63) (k := lev) (x := "_law_script") (K := K) hn (by decide) hdf ⟨rfl, by decide, by decide⟩ hY ?_
  intro w mg fa h KX G hmg
  obtain ⟨cs, fs, A⟩ := F w mg h KX G
  obtain ⟨f, fd, e1, e2, z⟩ := A.df 19 d19 rfl
  have e : (gk (K w.params) cs fs).fa 19 = fa := by
    have y1 := (A.fnm 19 "law" rfl (by decide)).1
    rw [hdn] at hmg
    have y2 := y1.symm.trans hmg
    exact Value.ref.inj (Option.some.inj y2)
  rw [← e]
  refine ⟨fd, fun s u => ?_, spW (gk (K w.params) cs fs) P lev 19 1, fun base KB GB => fnW rfl fun W => defs_ok A lev lev (Nat.le_refl _) 19 d19 f fd rfl e1 e2 z, fun H a ns hl hb hO hS => ?_⟩
  · obtain ⟨oc, od, kV, doc, pm, an, cdv, ct, osl, rfl, lk, hcd⟩ := z.fn.ex
    exact .of_eq rfl
  · obtain ⟨W, h', e⟩ := law_holds ns hl hb
    exact ⟨W, law_sp hS ⟨h', e⟩⟩
end MP.G
open PySem PySem.W PyProof.Rows in
set_option maxRecDepth 100000 in
set_option maxHeartbeats 0 in
theorem PySem.Challenge.cw_heldshapes_k04_texts_of_numbers_holds : PySem.Challenge.rw_heldshapes_k04_texts_of_numbers.Holds := by
  w_on; o_law; k_head; (case hw => w_witness2)
  k_fill
  refine MP.G.walk (l := PySem.Challenge.rw_heldshapes_k04_texts_of_numbers) rfl rfl rfl (fun w h Y => PySem.W.kIn_of Y) ?F
  case F =>
    intro w mg h KX G0
    refine' ⟨_, _, MP.G.all_mk KX G0 ?a0 ?a1 ?a2 ?a3 ?a4 ?a5 ?a6 ?a7 ?a8 ?a9 ?a10 ?a11 ?a12 ?a13 ?a14 ?a15 ?a16 ?a17 ?a18 ?a19 ?n0 ?n1 ?l0 ?e0 ?k0 ?l1 ?e1 ?k1 ?l2 ?e2 ?k2 ?l3 ?e3 ?k3 ?l4 ?e4 ?k4 ?l5 ?e5 ?k5 ?l6 ?e6 ?k6 ?l7 ?e7 ?k7 ?l8 ?e8 ?k8 ?l9 ?e9 ?k9 ?l10 ?e10 ?k10 ?l11 ?e11 ?k11 ?l12 ?e12 ?k12 ?l13 ?e13 ?k13 ?l14 ?e14 ?k14 ?l15 ?e15 ?k15 ?l16 ?e16 ?k16 ?l17 ?e17 ?k17 ?l18 ?e18 ?k18 ?l19 ?e19 ?k19 ?x0ex ?x0ty ?x0kp ?x0hg ?x0hk ?x0hd ?x0ha ?x0hn ?x0ht ?x0hm ?x0nw ?y0_0 ?z0_0 ?y0_1 ?z0_1 ?x1ex ?x1ty ?x1kp ?x1hg ?x1hk ?x1hd ?x1ha ?x1hn ?x1ht ?x1hm ?x1xl ?x1rb ?x1sa ?x1no ?x1ia ?x1it ?x1il ?x1ic ?x1ik ?y1_0 ?z1_0 ?y1_1 ?z1_1 ?z0 ?z1 ?z2 ?z3 ?z4 ?z5 ?z6 ?z7 ?z8 ?z9 ?gw0⟩
    (case a0 => k_is)
    (case a1 => k_is)
    (case a2 => k_is)
    (case a3 => k_is)
    (case a4 => k_is)
    (case a5 => k_is)
    (case a6 => k_is)
    (case a7 => k_is)
    (case a8 => k_is)
    (case a9 => k_is)
    (case a10 => k_is)
    (case a11 => k_is)
    (case a12 => k_is)
    (case a13 => k_is)
    (case a14 => k_is)
    (case a15 => k_is)
    (case a16 => k_is)
    (case a17 => k_is)
    (case a18 => k_is)
    (case a19 => k_is)
    (case n0 => k_is)
    (case n1 => k_is)
    (case l0 => k_is)
    (case e0 => k_is)
    (case k0 => k_is)
    (case l1 => k_is)
    (case e1 => k_is)
    (case k1 => k_is)
    (case l2 => k_is)
    (case e2 => k_is)
    (case k2 => k_is)
    (case l3 => k_is)
    (case e3 => k_is)
    (case k3 => k_is)
    (case l4 => k_is)
    (case e4 => k_is)
    (case k4 => k_is)
    (case l5 => k_is)
    (case e5 => k_is)
    (case k5 => k_is)
    (case l6 => k_is)
    (case e6 => k_is)
    (case k6 => k_is)
    (case l7 => k_is)
    (case e7 => k_is)
    (case k7 => k_is)
    (case l8 => k_is)
    (case e8 => k_is)
    (case k8 => k_is)
    (case l9 => k_is)
    (case e9 => k_is)
    (case k9 => k_is)
    (case l10 => k_is)
    (case e10 => k_is)
    (case k10 => k_is)
    (case l11 => k_is)
    (case e11 => k_is)
    (case k11 => k_is)
    (case l12 => k_is)
    (case e12 => k_is)
    (case k12 => k_is)
    (case l13 => k_is)
    (case e13 => k_is)
    (case k13 => k_is)
    (case l14 => k_is)
    (case e14 => k_is)
    (case k14 => k_is)
    (case l15 => k_is)
    (case e15 => k_is)
    (case k15 => k_is)
    (case l16 => k_is)
    (case e16 => k_is)
    (case k16 => k_is)
    (case l17 => k_is)
    (case e17 => k_is)
    (case k17 => k_is)
    (case l18 => k_is)
    (case e18 => k_is)
    (case k18 => k_is)
    (case l19 => k_is)
    (case e19 => k_is)
    (case k19 => k_is)
    (case x0ex => k_is)
    (case x0ty => k_is)
    (case x0kp => k_is)
    (case x0hg => k_is)
    (case x0hk => k_is)
    (case x0hd => k_is)
    (case x0ha => k_is)
    (case x0hn => k_is)
    (case x0ht => k_is)
    (case x0hm => k_is)
    (case x0nw => k_exc)
    (case y0_0 => first | k_is | rfl)
    (case z0_0 => first | kit_is | k_is | rfl)
    (case y0_1 => first | k_is | rfl)
    (case z0_1 => first | kit_is | k_is | rfl)
    (case x1ex => k_is)
    (case x1ty => k_is)
    (case x1kp => k_is)
    (case x1hg => k_is)
    (case x1hk => k_is)
    (case x1hd => k_is)
    (case x1ha => k_is)
    (case x1hn => k_is)
    (case x1ht => k_is)
    (case x1hm => k_is)
    (case x1xl => k_is)
    (case x1rb => decide +kernel)
    (case x1sa => k_is)
    (case x1no => k_is)
    (case x1ia => k_is)
    (case x1it => k_is)
    (case x1il => k_is)
    (case x1ic => k_is)
    (case x1ik => k_is)
    (case y1_0 => first | k_is | rfl)
    (case z1_0 => first | kit_is | k_is | rfl)
    (case y1_1 => first | k_is | rfl)
    (case z1_1 => first | kit_is | k_is | rfl)
    (case z0 => k_is)
    (case z1 => k_is)
    (case z2 => k_is)
    (case z3 => k_is)
    (case z4 => k_is)
    (case z5 => k_is)
    (case z6 => k_is)
    (case z7 => k_is)
    (case z8 => k_is)
    (case z9 => k_is)
    (case gw0 => k_is)
