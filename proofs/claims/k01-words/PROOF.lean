import PyProof.Rows.All
import Wide.All
import OpenK.AllK
import Wide.FinOn
import HandS.ForMost
import HandS.ForExc
import HandS.Wide
import HandS.WideBits
import HandS.IsInst
import HandS.CallSlots
import HandS.TupAny
import HandS.Style
import HandS.Deep
import HandS.Flow
import HandS.EndBits
import PySem.Challenge.RW_heldshapes_k01_words_of_anything
set_option Elab.async false
set_option linter.all false
set_option maxRecDepth 100000
set_option maxHeartbeats 4000000
/-! MP: a small deterministic language that the given program's defs are read as; its run is a plain total function. -/
namespace MP
open PySem

/-- values; lists (lst) are values that nobody changes any more, rol lists that are only read (the script, the module's), ref n is the n-th object of the small heap -/
inductive Val where
  | non | bl (b : Bool) | int (i : Int) | str (s : Str)
  | tup (xs : List Val) | lst (xs : List Val) | rol (xs : List Val) | dct (ks : List L2.Key) (vs : List Val) | ref (n : Nat) | ty (s : String)

/-- what may be changed: a list -/
inductive Obj where
  | lst (xs : List Val)

abbrev Heap := List Obj
abbrev Loc := List (Option Val)

theorem rr {A : Sort _} {a b : A} (h : a = b) : a = b := h
/-- a result: a value and the heap; an error of the class c with its field; or no word -/
inductive Res (T : Type) where
  | ok (a : T) (h : Heap)
  | exc (c : Nat) (v : Val) (h : Heap)
  | bad

def Res.bind {S T : Type} (r : Res S) (k : S → Heap → Res T) : Res T :=
  match r with
  | .ok a h => k a h
  | .exc c v h => .exc c v h
  | .bad => .bad
@[simp] theorem bind_ok {S T : Type} (a : S) (h : Heap) (k : S → Heap → Res T) : (Res.ok a h).bind k = k a h := rr rfl
@[simp] theorem bind_exc {S T : Type} (c : Nat) (v : Val) (h : Heap) (k : S → Heap → Res T) : (Res.exc c v h : Res S).bind k = .exc c v h := rr rfl
@[simp] theorem bind_bad {S T : Type} (k : S → Heap → Res T) : (Res.bad : Res S).bind k = .bad := rr rfl
def Res.opt {S T : Type} (o : Option S) (k : S → Res T) : Res T :=
  match o with
  | some a => k a
  | none => .bad
@[simp] theorem opt_some {S T : Type} (a : S) (k : S → Res T) : Res.opt (some a) k = k a := rr rfl
@[simp] theorem opt_none {S T : Type} (k : S → Res T) : Res.opt (none : Option S) k = .bad := rr rfl

mutual
/-- no object of the heap from b on is met -/
def refsLt (b : Nat) : Val → Bool
  | .ref n => decide (n < b)
  | .tup xs => refsLtL b xs
  | .lst xs => refsLtL b xs
  | .rol xs => refsLtL b xs
  | .dct _ vs => refsLtL b vs
  | _ => true
def refsLtL (b : Nat) : List Val → Bool
  | [] => true
  | x :: xs => refsLt b x && refsLtL b xs
end
/-- no object of the heap is met at all -/
abbrev pure0 (v : Val) : Bool := refsLt 0 v
abbrev pureL (vs : List Val) : Bool := refsLtL 0 vs

/-- the built-in functions -/
inductive Bi where
  | abs | max2 | min2 | len | int | isi

/-- the methods of built-in types -/
inductive Bm where
  | bits | reverse | append | join

inductive T where
  | nm (i : Nat)
  | nl | cs (t r : T)
  | tup (ts : T)

inductive E where
  | var (i : Nat)
  | con (v : Val)
  | bt (n : String)
  | glo (x : Str)
  | nl | cs (a r : E)
  | tup (es : E)
  | lst (k : Bool) (es : E)
  | bin (op : Operator) (a b : E)
  | neg (a : E)
  | cmp (op : CmpOp) (a b : E)
  | chn (op1 op2 : CmpOp) (a b c : E)
  | d0
  | d1 (k : L2.Key) (v : Val)
  | sl (a lo hi : E)
  | lc (k : Bool) (t : T) (own : List Nat) (it cd elt : E)
  | and (a b : E) | or (a b : E) | not (a : E)
  | tst (e : E)
  | ife (c a b : E)
  | cal (f : Nat) (es : E)
  | bi (f : Bi) (es : E)
  | bm (m : Bm) (o es : E)
  | ix (a b : E)
  | iSeq (e : E)
  | iRng (es : E)

inductive S where
  | nop
  | seq (s r : S)
  | asg (t : T) (e : E)
  | asgc (i : Nat) (e : E)
  | par (i j : Nat) (es : E)
  | setix (o i e : E)
  | ret (e : E)
  | exp (e : E)
  | ite (c : E) (a b : S)
  | whl (c : E) (b : S)
  | for_ (t : T) (it : E) (b : S)
  | scope (b : S)

abbrev bits (i : Int) : Nat := Builtin.Int.intBits i

/-- the list that a value reads as -/
def asL (h : Heap) : Val → Option (List Val)
  | .lst xs => some xs
  | .rol xs => some xs
  | .ref n => match h[n]? with
    | some (.lst xs) => some xs
    | none => none
  | _ => none
def asSeq (h : Heap) : Val → Option (List Val)
  | .tup xs => some xs
  | v => asL h v

def binI : Operator → Int → Int → Option Val
  | .Add, i, j => some (.int (i + j))
  | .Sub, i, j => some (.int (i - j))
  | .Mult, i, j => if bits i + bits j ≤ 134217728 then some (.int (i * j)) else none
  | .FloorDiv, i, j => if j ≠ 0 ∧ Builtin.divisionGoesByPylong i j = false then some (.int (i.fdiv j)) else none
  | .Mod, i, j => if j ≠ 0 then some (.int (i.fmod j)) else none
  | .Pow, i, j => if 0 ≤ j ∧ (bits i : Int) * j ≤ 2 ^ 27 then some (.int (i ^ j.toNat)) else none
  | .LShift, i, j => if 0 ≤ j ∧ (bits i : Int) + j ≤ 2 ^ 27 then some (.int (i * 2 ^ j.toNat)) else none
  | _, _, _ => none
/-- a list that is no read-only one -/
def asT (h : Heap) : Val → Option (List Val)
  | .lst xs => some xs
  | .ref n => match h[n]? with
    | some (.lst xs) => some xs
    | none => none
  | _ => none
def catO (h : Heap) (a b : Val) : Option Val :=
  match a, b with
  | .str x, .str y => if x.length + y.length ≤ 16777216 then some (.str (x ++ y)) else none
  | .tup xs, .tup ys => if xs.length + ys.length ≤ 100000 then some (.tup (xs ++ ys)) else none
  | a, b => match asT h a, asT h b with
    | some xs, some ys => if xs.length + ys.length ≤ 100000 then some (.lst (xs ++ ys)) else none
    | _, _ => none
def binop (h : Heap) (op : Operator) (a b : Val) : Option Val :=
  match a, b with
  | .int i, .int j => binI op i j
  | a, b => match op with
    | .Add => catO h a b
    | _ => none

mutual
/-- a value as data -/
def data0 : Val → Option PyData
  | .non => some .none
  | .bl b => some (.bool b)
  | .int i => some (.int i)
  | .str x => some (.str x)
  | .tup xs => (dataL xs).map .tuple
  | .lst xs => (dataL xs).map .list
  | .rol xs => (dataL xs).map .list
  | _ => none
def dataL : List Val → Option (List PyData)
  | [] => some []
  | x :: xs => (data0 x).bind fun d => (dataL xs).map fun ds => d :: ds
end
def dataV (h : Heap) (v : Val) : Option PyData := match v with
  | .ref n => match h[n]? with
    | some (.lst xs) => (dataL xs).map .list
    | none => none
  | v => data0 v

def cmpI : CmpOp → Int → Int → Option Bool
  | .Eq, i, j => some (decide (i = j))
  | .NotEq, i, j => some (!decide (i = j))
  | .Lt, i, j => some (decide (i < j))
  | .LtE, i, j => some (decide (i ≤ j))
  | .Gt, i, j => some (decide (j < i))
  | .GtE, i, j => some (decide (j ≤ i))
  | _, _, _ => none
/-- y in x, texts -/
def strIn (y x : Str) : Bool := !(Builtin.Str.occurrences x y 0 x.length 1).isEmpty
def cmpS : CmpOp → Str → Str → Option Bool
  | .Eq, i, j => some (decide (i = j))
  | .NotEq, i, j => some (!decide (i = j))
  | .Lt, i, j => some (decide (i.cps.toList < j.cps.toList))
  | .LtE, i, j => some (!decide (j.cps.toList < i.cps.toList))
  | .Gt, i, j => some (decide (j.cps.toList < i.cps.toList))
  | .GtE, i, j => some (!decide (i.cps.toList < j.cps.toList))
  | .In, i, j => some (strIn i j)
  | .NotIn, i, j => some (!strIn i j)
  | _, _, _ => none
def eqD (h : Heap) (a b : Val) : Option Bool :=
  match dataV h a, dataV h b with
  | some d, some e => if SeqAt.shaped d = true ∧ SeqAt.shaped e = true then some (PyData.eqv d e) else none
  | _, _ => none
def isO (a b : Val) : Option Bool :=
  match a, b with
  | a, .non => some (match a with | .non => true | _ => false)
  | .bl x, .bl y => some (decide (x = y))
  | a, .bl _ => (match a with | .ty _ => none | _ => some false)
  | _, _ => none
/-- x in a list -/
def inO (h : Heap) (a b : Val) : Option Bool :=
  match dataV h a, dataV h b with
  | some d, some (.list ds) => if SeqAt.shaped d = true ∧ SeqAt.shaped (.list ds) = true then some (ds.any fun z => PyData.eqv z d) else none
  | _, _ => none
def cmpV (h : Heap) (op : CmpOp) (a b : Val) : Option Bool :=
  match op with
  | .Eq => eqD h a b
  | .NotEq => (eqD h a b).map (!·)
  | .Is => isO a b
  | .IsNot => (isO a b).map (!·)
  | .In => inO h a b
  | .NotIn => (inO h a b).map (!·)
  | _ => none
def cmpop (h : Heap) (op : CmpOp) (a b : Val) : Option Bool :=
  match a, b with
  | .int i, .int j => cmpI op i j
  | .str x, .str y => cmpS op x y
  | a, b => cmpV h op a b
/-- a value's truth -/
def truO (h : Heap) : Val → Option Bool
  | .bl b => some b
  | .int i => some (decide (i ≠ 0))
  | .str x => if x.length ≤ 16777216 then some (decide (x.length ≠ 0)) else none
  | .non => some false
  | .tup xs => some (!xs.isEmpty)
  | .lst xs => some (!xs.isEmpty)
  | .rol xs => some (!xs.isEmpty)
  | .ref n => match h[n]? with
    | some (.lst xs) => some (!xs.isEmpty)
    | none => none
  | _ => none
/-- a part, from lo to hi -/
def cutL (xs : List Val) (lo hi : Option Int) : List Val := (xs.drop (HT.sIx xs.length 0 lo)).take (HT.sIx xs.length xs.length hi - HT.sIx xs.length 0 lo)
def slO (h : Heap) (a : Val) (lo hi : Option Int) : Option Val :=
  match a with
  | .str x => if x.length ≤ 16777216 then some (.str (L2.cutS x lo hi)) else none
  | .tup xs => some (.tup (cutL xs lo hi))
  | a => (asL h a).map fun xs => .lst (cutL xs lo hi)
def strsOf : List Val → Option (List Str)
  | [] => some []
  | .str x :: r => (strsOf r).map fun ys => x :: ys
  | _ => none

/-- the name of a value's type -/
def tyName (h : Heap) : Val → Option String
  | .non => some "NoneType"
  | .bl _ => some "bool"
  | .int _ => some "int"
  | .str _ => some "str"
  | .tup _ => some "tuple"
  | .lst _ => some "list"
  | .rol _ => some "list"
  | .dct _ _ => some "dict"
  | .ref n => match h[n]? with
    | some (.lst _) => some "list"
    | none => none
  | .ty _ => none

def biF (h : Heap) : Bi → List Val → Option Val
  | .abs, [.int i] => some (.int (if i < 0 then -i else i))
  | .max2, [.int i, .int j] => some (.int (if j > i then j else i))
  | .min2, [.int i, .int j] => some (.int (if j < i then j else i))
  | .len, [.str x] => if x.length ≤ 16777216 then some (.int x.length) else none
  | .len, [v] => match asSeq h v with
    | some xs => some (.int xs.length)
    | none => none
  | .int, [.int i] => some (.int i)
  | .int, [.bl b] => some (.int (if b then 1 else 0))
  | .isi, [v, .ty n] => match tyName h v with
    | some t => (L2.kitB t n).map .bl
    | none => none
  | _, _ => none

/-- a value behind the list n -/
def appO (h : Heap) (n : Nat) (v : Val) : Option Heap := match h[n]? with
  | some (.lst xs) => if pure0 v = true ∧ xs.length < 100000 then some (h.set n (.lst (xs ++ [v]))) else none
  | none => none
/-- what a method is asked of -/
def bmTy : Bm → Val → Bool
  | .bits, .int _ => true
  | .reverse, .ref _ => true
  | .append, .ref _ => true
  | .join, .str _ => true
  | _, _ => false
/-- a method of a built-in type: the value and the heap behind it -/
def bmF (h : Heap) : Bm → Val → List Val → Option (Val × Heap)
  | .bits, .int i, [] => some (.int (bits i : Nat), h)
  | .reverse, .ref n, [] => match h[n]? with
    | some (.lst xs) => some (.non, h.set n (.lst xs.reverse))
    | none => none
  | .append, .ref n, [v] => (appO h n v).map fun h2 => (.non, h2)
  | .join, .str a, [v] => match (asSeq h v).bind strsOf with
    | some ys => if (ys.map (·.length)).sum + ys.length * a.length ≤ 16777216 then some (.str (Txt.join a ys), h) else none
    | none => none
  | _, _, _ => none

/-- where one stands: the calls of defs, the measure of a while -/
structure Cf where
  call : Nat → List Val → Heap → Res Val
  W : Nat
  gv : Str → Option Val

/-- items of a range -/
def rangeL (lo : Int) : Nat → List Val
  | 0 => []
  | n + 1 => .int lo :: rangeL (lo + 1) n

mutual
/-- a value to a target -/
def store : T → Val → Loc → Option Loc
  | .nm i, v, l => some (l.set i (some v))
  | .tup ts, v, l => match v with
    | .tup xs => storeL ts xs l
    | _ => none
  | _, _, _ => none
def storeL : T → List Val → Loc → Option Loc
  | .nl, [], l => some l
  | .cs t r, x :: xs, l => (store t x l).bind fun l1 => storeL r xs l1
  | _, _, _ => none
end

/-- two values to two names -/
def store2 (i j : Nat) (vs : List Val) (l : Loc) : Option Loc := match vs with
  | [x, y] => some ((l.set i (some x)).set j (some y))
  | _ => none
/-- nothing raised is let by -/
def Res.noX {A : Type} (r : Res A) : Res A := match r with
  | .ok a h => .ok a h
  | _ => .bad
@[simp] theorem noX_ok {A : Type} (a : A) (h : Heap) : (Res.ok a h).noX = .ok a h := rr rfl
@[simp] theorem noX_bad {A : Type} : (Res.bad : Res A).noX = .bad := rr rfl
/-- the turns of a comprehension; its list is the object n -/
def compL (tst : Loc → Heap → Res Bool) (el : Loc → Heap → Res Val) (t : T) (l0 : Loc) (n : Nat) : List Val → Heap → Res Unit
  | [], h => .ok () h
  | x :: xs, h => Res.opt (store t x l0) fun l1 => (tst l1 h).noX.bind fun b h1 =>
      if b then (el l1 h1).noX.bind fun y h2 => Res.opt (appO h2 n y) fun h3 => compL tst el t l0 n xs h3 else compL tst el t l0 n xs h1
/-- behind a comprehension: its list as an object, or as a value -/
def compF (k : Bool) (n : Nat) (h : Heap) : Res Val := if k then .ok (.ref n) h else match h[n]? with
  | some (.lst ys) => .ok (.lst ys) (h.take n)
  | none => .bad
/-- the slots of a comprehension's own names forgotten -/
def wipeL (l : Loc) : List Nat → Loc
  | [] => l
  | v :: vs => (wipeL l vs).set v none
/-- the items of a value that is walked -/
def seqItems (x : Val) (h : Heap) : Res (List Val) := match x with
  | .lst xs => .ok xs h
  | .rol xs => .ok xs h
  | .tup xs => .ok xs h
  | .str x => .ok (x.cps.toList.map fun c => .str ⟨#[c]⟩) h
  | _ => .bad
def rngItems (vs : List Val) (h : Heap) : Res (List Val) := match vs with
  | [.int j] => if j < 2 ^ 62 ∧ -(2 ^ 62) ≤ j then .ok (rangeL 0 j.toNat) h else .bad
  | [.int i, .int j] => if (j < 2 ^ 62 ∧ -(2 ^ 62) ≤ j) ∧ i < 2 ^ 62 ∧ -(2 ^ 62) ≤ i then .ok (rangeL i (j - i).toNat) h else .bad
  | _ => .bad
mutual
def evalE (c : Cf) : E → Loc → Heap → Res Val
  | .var i, l, h => match l[i]? with
    | some (some v) => .ok v h
    | _ => .bad
  | .con v, _, h => .ok v h
  | .bt n, _, h => .ok (.ty n) h
  | .glo x, _, h => Res.opt (c.gv x) fun v => .ok v h
  | .tup es, l, h => (evalEs c es l h).bind fun vs h1 => if vs.length ≤ 1000 then .ok (.tup vs) h1 else .bad
  | .lst k es, l, h => (evalEs c es l h).bind fun vs h1 =>
      if vs.length ≤ 1000 then (if k then (if pureL vs then .ok (.ref h1.length) (h1 ++ [.lst vs]) else .bad) else .ok (.lst vs) h1) else .bad
  | .bin op a b, l, h => (evalE c a l h).bind fun x h1 => (evalE c b l h1).bind fun y h2 => Res.opt (binop h2 op x y) fun v => .ok v h2
  | .neg a, l, h => (evalE c a l h).bind fun x h1 => match x with
    | .int i => .ok (.int (-i)) h1
    | _ => .bad
  | .cmp op a b, l, h => (evalE c a l h).bind fun x h1 => (evalE c b l h1).bind fun y h2 => Res.opt (cmpop h2 op x y) fun v => .ok (.bl v) h2
  | .chn o1 o2 a b d, l, h => (evalE c a l h).bind fun x h1 => (evalE c b l h1).bind fun y h2 => Res.opt (cmpop h2 o1 x y) fun v =>
      if v then (evalE c d l h2).bind fun z h3 => Res.opt (cmpop h3 o2 y z) fun w => .ok (.bl w) h3 else .ok (.bl false) h2
  | .d0, _, h => .ok (.dct [] []) h
  | .d1 k v, _, h => .ok (.dct [k] [v]) h
  | .sl a lo hi, l, h => (evalE c a l h).bind fun x h1 => (evalO c lo l h1).bind fun i h2 => (evalO c hi l h2).bind fun j h3 => Res.opt (slO h3 x i j) fun v => .ok v h3
  | .lc k t own it cd elt, l, h => (evalI c it l h).bind fun xs h1 => (compL (evalT c cd) (evalE c elt) t (wipeL l own) h1.length xs (h1 ++ [.lst []])).bind fun _ h2 => compF k h1.length h2
  | .and a b, l, h => (evalE c a l h).bind fun x h1 => match x with
    | .bl true => evalE c b l h1
    | .bl false => .ok (.bl false) h1
    | _ => .bad
  | .or a b, l, h => (evalE c a l h).bind fun x h1 => match x with
    | .bl true => .ok (.bl true) h1
    | .bl false => evalE c b l h1
    | _ => .bad
  | .not a, l, h => (evalE c a l h).bind fun x h1 => match x with
    | .bl b => .ok (.bl (!b)) h1
    | _ => .bad
  | .ife t a b, l, h => (evalT c t l h).bind fun x h1 => if x then evalE c a l h1 else evalE c b l h1
  | .cal f es, l, h => (evalEs c es l h).bind fun vs h1 => c.call f vs h1
  | .bi f es, l, h => (evalEs c es l h).bind fun vs h1 => Res.opt (biF h1 f vs) fun v => .ok v h1
  | .bm m o es, l, h => (evalE c o l h).bind fun x h1 => if bmTy m x then (evalEs c es l h1).bind fun vs h2 => Res.opt (bmF h2 m x vs) fun p => .ok p.1 p.2 else .bad
  | .ix a b, l, h => (evalE c a l h).bind fun x h1 => (evalE c b l h1).bind fun y h2 => match y with
    | .int i => (match x with
      | .str z => if z.length ≤ 16777216 then Res.opt (L2.atI z.cps.toList i) fun d => .ok (.str ⟨#[d]⟩) h2 else .bad
      | x => Res.opt ((asSeq h2 x).bind fun xs => L2.atI xs i) fun v => .ok v h2)
    | _ => .bad
  | _, _, _ => .bad
termination_by structural e => e
def evalEs (c : Cf) : E → Loc → Heap → Res (List Val)
  | .nl, _, h => .ok [] h
  | .cs a r, l, h => (evalE c a l h).bind fun x h1 => (evalEs c r l h1).bind fun xs h2 => .ok (x :: xs) h2
  | _, _, _ => .bad
termination_by structural e => e
/-- a part of a slice -/
def evalO (c : Cf) : E → Loc → Heap → Res (Option Int)
  | .nl, _, h => .ok none h
  | .cs a .nl, l, h => (evalE c a l h).bind fun x h1 => match x with
    | .int i => .ok (some i) h1
    | _ => .bad
  | _, _, _ => .bad
termination_by structural e => e
/-- what a for walks -/
def evalI (c : Cf) : E → Loc → Heap → Res (List Val)
  | .iSeq e, l, h => (evalE c e l h).bind seqItems
  | .iRng es, l, h => (evalEs c es l h).bind rngItems
  | _, _, _ => .bad
termination_by structural e => e
/-- as a test -/
def evalT (c : Cf) : E → Loc → Heap → Res Bool
  | .nl, _, h => .ok true h
  | .and a b, l, h => (evalT c a l h).bind fun x h1 => if x then evalT c b l h1 else .ok false h1
  | .or a b, l, h => (evalT c a l h).bind fun x h1 => if x then .ok true h1 else evalT c b l h1
  | .not a, l, h => (evalT c a l h).bind fun x h1 => .ok (!x) h1
  | .cmp op a b, l, h => (evalE c a l h).bind fun x h1 => (evalE c b l h1).bind fun y h2 => Res.opt (cmpop h2 op x y) fun v => .ok v h2
  | .chn o1 o2 a b d, l, h => (evalE c a l h).bind fun x h1 => (evalE c b l h1).bind fun y h2 => Res.opt (cmpop h2 o1 x y) fun v =>
      if v then (evalE c d l h2).bind fun z h3 => Res.opt (cmpop h3 o2 y z) fun w => .ok w h3 else .ok false h2
  | .tst e, l, h => (evalE c e l h).bind fun x h1 => Res.opt (truO h1 x) fun b => .ok b h1
  | _, _, _ => .bad
termination_by structural e => e
end

/-- how a statement ends -/
inductive Out where
  | nx (l : Loc) (h : Heap)
  | rt (v : Val) (h : Heap)
  | bk (l : Loc) (h : Heap)
  | ct (l : Loc) (h : Heap)
  | exc (c : Nat) (v : Val) (l : Loc) (h : Heap)
  | bad

def Res.out {S : Type} (r : Res S) (l : Loc) (k : S → Heap → Out) : Out :=
  match r with
  | .ok a h => k a h
  | .exc c v h => .exc c v l h
  | .bad => .bad
@[simp] theorem out_ok {S : Type} (a : S) (h : Heap) (l : Loc) (k : S → Heap → Out) : (Res.ok a h).out l k = k a h := rr rfl
@[simp] theorem out_exc {S : Type} (c : Nat) (v : Val) (h : Heap) (l : Loc) (k : S → Heap → Out) : (Res.exc c v h : Res S).out l k = .exc c v l h := rr rfl
@[simp] theorem out_bad {S : Type} (l : Loc) (k : S → Heap → Out) : (Res.bad : Res S).out l k = .bad := rr rfl
def Out.opt {S : Type} (o : Option S) (k : S → Out) : Out :=
  match o with
  | some a => k a
  | none => .bad
@[simp] theorem oopt_some {S : Type} (a : S) (k : S → Out) : Out.opt (some a) k = k a := rr rfl
@[simp] theorem oopt_none {S : Type} (k : S → Out) : Out.opt (none : Option S) k = .bad := rr rfl
/-- what follows -/
def Out.thn (o : Out) (k : Loc → Heap → Out) : Out :=
  match o with
  | .nx l h => k l h
  | o => o
@[simp] theorem thn_nx (l : Loc) (h : Heap) (k : Loc → Heap → Out) : (Out.nx l h).thn k = k l h := rr rfl
@[simp] theorem thn_rt (v : Val) (h : Heap) (k : Loc → Heap → Out) : (Out.rt v h).thn k = .rt v h := rr rfl
@[simp] theorem thn_bk (l : Loc) (h : Heap) (k : Loc → Heap → Out) : (Out.bk l h).thn k = .bk l h := rr rfl
@[simp] theorem thn_ct (l : Loc) (h : Heap) (k : Loc → Heap → Out) : (Out.ct l h).thn k = .ct l h := rr rfl
@[simp] theorem thn_exc (c : Nat) (v : Val) (l : Loc) (h : Heap) (k : Loc → Heap → Out) : (Out.exc c v l h).thn k = .exc c v l h := rr rfl
@[simp] theorem thn_bad (k : Loc → Heap → Out) : (Out.bad).thn k = .bad := rr rfl
/-- behind a loop's turn -/
def Out.turn (o : Out) (k : Loc → Heap → Out) : Out :=
  match o with
  | .nx l h => k l h
  | .ct l h => k l h
  | .bk l h => .nx l h
  | o => o
@[simp] theorem turn_nx (l : Loc) (h : Heap) (k : Loc → Heap → Out) : (Out.nx l h).turn k = k l h := rr rfl
@[simp] theorem turn_ct (l : Loc) (h : Heap) (k : Loc → Heap → Out) : (Out.ct l h).turn k = k l h := rr rfl
@[simp] theorem turn_bk (l : Loc) (h : Heap) (k : Loc → Heap → Out) : (Out.bk l h).turn k = .nx l h := rr rfl
@[simp] theorem turn_rt (v : Val) (h : Heap) (k : Loc → Heap → Out) : (Out.rt v h).turn k = .rt v h := rr rfl
@[simp] theorem turn_exc (c : Nat) (v : Val) (l : Loc) (h : Heap) (k : Loc → Heap → Out) : (Out.exc c v l h).turn k = .exc c v l h := rr rfl
@[simp] theorem turn_bad (k : Loc → Heap → Out) : (Out.bad).turn k = .bad := rr rfl

def whileN (t : Loc → Heap → Res Bool) (b : Loc → Heap → Out) : Nat → Loc → Heap → Out
  | 0, _, _ => .bad
  | n + 1, l, h => (t l h).out l fun x h1 => if x then (b l h1).turn (whileN t b n) else .nx l h1
def forL (t : T) (b : Loc → Heap → Out) : List Val → Loc → Heap → Out
  | [], l, h => .nx l h
  | x :: xs, l, h => Out.opt (store t x l) fun l1 => (b l1 h).turn (forL t b xs)

/-- slots that hold objects from b on are forgotten -/
def trimL (b : Nat) (l : Loc) : Loc := l.map fun o => match o with
  | some v => if refsLt b v then some v else none
  | none => none

def setixO (h : Heap) (o i e : Val) : Option Heap :=
  match o, i with
  | .ref n, .int k => match h[n]? with
    | some (.lst xs) => match L2.ixN xs.length k with
      | some j => if pure0 e then some (h.set n (.lst (xs.set j e))) else none
      | none => none
    | none => none
  | _, _ => none

/-- behind a block of statements: what it made is forgotten -/
def Out.trim (b : Nat) (o : Out) : Out :=
  match o with
  | .nx l h => .nx (trimL b l) (h.take b)
  | .bk l h => .bk (trimL b l) (h.take b)
  | .ct l h => .ct (trimL b l) (h.take b)
  | o => o
@[simp] theorem trim_nx (b : Nat) (l : Loc) (h : Heap) : (Out.nx l h).trim b = .nx (trimL b l) (h.take b) := rr rfl
@[simp] theorem trim_bk (b : Nat) (l : Loc) (h : Heap) : (Out.bk l h).trim b = .bk (trimL b l) (h.take b) := rr rfl
@[simp] theorem trim_ct (b : Nat) (l : Loc) (h : Heap) : (Out.ct l h).trim b = .ct (trimL b l) (h.take b) := rr rfl
@[simp] theorem trim_rt (b : Nat) (v : Val) (h : Heap) : (Out.rt v h).trim b = .rt v h := rr rfl
@[simp] theorem trim_exc (b c : Nat) (v : Val) (l : Loc) (h : Heap) : (Out.exc c v l h).trim b = .exc c v l h := rr rfl
@[simp] theorem trim_bad (b : Nat) : (Out.bad).trim b = .bad := rr rfl

def run (c : Cf) : S → Loc → Heap → Out
  | .nop, l, h => .nx l h
  | .seq s r, l, h => (run c s l h).thn (run c r)
  | .asg t e, l, h => (evalE c e l h).out l fun v h1 => Out.opt (store t v l) fun l1 => .nx l1 h1
  | .asgc i e, l, h => (evalE c e l h).out l fun v h1 => .nx (l.set i (some v)) h1
  | .par i j es, l, h => (evalEs c es l h).out l fun vs h1 => Out.opt (store2 i j vs l) fun l1 => .nx l1 h1
  | .setix o i e, l, h => (evalE c e l h).out l fun v h1 => (evalE c o l h1).out l fun x h2 => (evalE c i l h2).out l fun y h3 => Out.opt (setixO h3 x y v) fun h4 => .nx l h4
  | .ret e, l, h => (evalE c e l h).out l fun v h1 => .rt v h1
  | .exp e, l, h => (evalE c e l h).out l fun _ h1 => .nx l h1
  | .ite t a b, l, h => (evalT c t l h).out l fun x h1 => if x then run c a l h1 else run c b l h1
  | .whl t b, l, h => whileN (evalT c t) (run c b) c.W l h
  | .for_ t it b, l, h => (evalI c it l h).out l fun xs h1 => forL t (run c b) xs l h1
  | .scope b, l, h => (run c b l h).trim h.length

mutual
/-- a value that leaves: objects from b on become values -/
def fz (h : Heap) (b : Nat) : Val → Option Val
  | .ref n => if n < b then some (.ref n) else match h[n]? with
    | some (.lst xs) => some (.lst xs)
    | none => none
  | .tup xs => match fzL h b xs with
    | some ys => some (.tup ys)
    | none => none
  | .lst xs => if refsLtL b xs then some (.lst xs) else none
  | .rol xs => if refsLtL b xs then some (.rol xs) else none
  | .dct ks vs => if refsLtL b vs then some (.dct ks vs) else none
  | v => some v
def fzL (h : Heap) (b : Nat) : List Val → Option (List Val)
  | [] => some []
  | x :: xs => match fz h b x, fzL h b xs with
    | some y, some ys => some (y :: ys)
    | _, _ => none
end

/-- a def: how many slots, how many parameters, whether its objects become values, its body -/
structure Fn where
  n : Nat
  np : Nat
  frz : Bool
  body : S

def finish (f : Fn) (b : Nat) (v : Val) (h : Heap) : Res Val :=
  if f.frz then Res.opt (fz h b v) fun w => .ok w (h.take b) else .ok v h
def callF (P : List Fn) (W : Nat) (gv : Str → Option Val) : Nat → Nat → List Val → Heap → Res Val
  | 0, _, _, _ => .bad
  | k + 1, i, vs, h => match P[i]? with
    | none => .bad
    | some f => if vs.length = f.np then
        match run ⟨callF P W gv k, W, gv⟩ f.body (vs.map some ++ List.replicate (f.n - f.np) none) h with
        | .nx _ h1 => finish f h.length .non h1
        | .rt v h1 => finish f h.length v h1
        | .exc c v _ h1 => Res.opt (fz h1 h.length v) fun w => .exc c w (h1.take h.length)
        | _ => .bad
      else .bad
end MP
/-! MP, how values and the small heap lie in the layer's heap. -/
namespace MP
open PySem L2

/-- the written part, and the classes of errors: where each stands, its field -/
structure Gc where
  K : PySem.W.Frag
  cl : Nat → Addr × Str

/-- a list, a tuple of the written part -/
def KL (K : PySem.W.Frag) (a : Addr) (xs : List V) : Prop := ∃ (o : PySem.Obj) (its : Array Value) (n : Nat), K.lookup a = some o ∧ o.cls = .type "list" ∧ o.dict = none ∧ o.data = .seq its n ∧ its.size ≤ sizeLine ∧ Vals xs its.toList
def KT (K : PySem.W.Frag) (a : Addr) (xs : List V) : Prop := ∃ (o : PySem.Obj) (its : Array Value) (n : Nat), K.lookup a = some o ∧ o.cls = .type "tuple" ∧ o.data = .seq its n ∧ its.size ≤ sizeLine ∧ Vals xs its.toList
/-- a list, a tuple that is read at a and is no object of the small heap -/
def LAt (C : Gc) (m : List Addr) (H : Hp) (a : Addr) (vs : List V) : Prop := (a ∉ m ∧ Rd H a (.lst vs)) ∨ KL C.K a vs
def TAt (C : Gc) (m : List Addr) (H : Hp) (a : Addr) (vs : List V) : Prop := (a ∉ m ∧ H a = some (.tup vs)) ∨ KT C.K a vs

mutual
def RepV (C : Gc) (m : List Addr) (H : Hp) : Val → V → Prop
  | .non, x => x = .non
  | .bl b, x => x = .bl b
  | .int i, x => x = .int i
  | .str s, x => x = .str s
  | .ty n, x => x = .ty n
  | .tup xs, x => ∃ a vs, x = .ref a ∧ TAt C m H a vs ∧ RepL C m H xs vs
  | .lst xs, x => ∃ a vs, x = .ref a ∧ (a ∉ m ∧ H a = some (.lst vs)) ∧ RepL C m H xs vs
  | .rol xs, x => ∃ a vs, x = .ref a ∧ LAt C m H a vs ∧ RepL C m H xs vs
  | .dct ks us, x => ∃ a kvs, x = .ref a ∧ (a ∉ m ∧ H a = some (.dK kvs)) ∧ kvs.map (·.1) = ks ∧ RepL C m H us (kvs.map (·.2))
  | .ref n, x => ∃ a, x = .ref a ∧ m[n]? = some a
def RepL (C : Gc) (m : List Addr) (H : Hp) : List Val → List V → Prop
  | [], vs => vs = []
  | x :: xs, vs => ∃ v r, vs = v :: r ∧ RepV C m H x v ∧ RepL C m H xs r
end

/-- what happens to the layer's heap: objects come behind; what is no object of the small heap stays -/
structure Evo (m : List Addr) (H : Hp) (m' : List Addr) (H' : Hp) : Prop where
  pre : ∃ n, m' = m ++ n
  new : ∀ a ∈ m', a ∉ m → H a = none
  keep : ∀ a o, a ∉ m → H a = some o → H' a = some o
theorem Evo.refl (m : List Addr) (H : Hp) : Evo m H m H := ⟨⟨[], by simp⟩, fun _ h n => absurd h n, fun _ _ _ h => h⟩
theorem Evo.trans {m m1 m2 : List Addr} {H H1 H2 : Hp} (a : Evo m H m1 H1) (b : Evo m1 H1 m2 H2) : Evo m H m2 H2 := by
  obtain ⟨n1, e1⟩ := a.pre
  obtain ⟨n2, e2⟩ := b.pre
  refine ⟨⟨n1 ++ n2, by rw [e2, e1, List.append_assoc]⟩, fun p hp np => ?_, fun p o np e => ?_⟩
  · by_cases h1 : p ∈ m1
    · exact a.new p h1 np
    · have z := b.new p hp h1
      cases q : H p with
      | none => rfl
      | some o =>
        rw [a.keep p o np q] at z
        cases z
  · have n1 : p ∉ m1 := fun h1 => by
      rw [a.new p h1 np] at e
      cases e
    exact b.keep p o n1 (a.keep p o np e)
theorem Evo.out {m m' : List Addr} {H H' : Hp} (a : Evo m H m' H') {p : Addr} {o : HO} (np : p ∉ m) (e : H p = some o) : p ∉ m' := fun h => by
  rw [a.new p h np] at e
  cases e
theorem Evo.ix {m m' : List Addr} {H H' : Hp} (a : Evo m H m' H') {n : Nat} {p : Addr} (e : m[n]? = some p) : m'[n]? = some p := by
  obtain ⟨r, rfl⟩ := a.pre
  rw [List.getElem?_append_left (List.getElem?_eq_some_iff.mp e).1]
  exact e
theorem rd_there {H : Hp} {a : Addr} {u : HO} (h : Rd H a u) : ∃ o, H a = some o := by
  rcases h with h | ⟨o, h⟩
  · exact ⟨_, h⟩
  · exact ⟨_, h⟩
theorem Evo.rd {m m' : List Addr} {H H' : Hp} (e : Evo m H m' H') {a : Addr} {u : HO} (na : a ∉ m) (h : Rd H a u) : Rd H' a u := by
  rcases h with h | ⟨o, h⟩
  · exact .inl (e.keep _ _ na h)
  · exact .inr ⟨o, e.keep _ _ na h⟩
variable {C : Gc}
theorem LAt.sq {m : List Addr} {H : Hp} {a : Addr} {vs : List V} (h : LAt C m H a vs) : SqL C.K H a vs := by
  rcases h with h | h
  · exact .inl h.2
  · exact .inr h
theorem TAt.sq {m : List Addr} {H : Hp} {a : Addr} {vs : List V} (h : TAt C m H a vs) : SqT C.K H a vs := by
  rcases h with h | h
  · exact .inl (.inl h.2)
  · exact .inr h
theorem Evo.lat {m m' : List Addr} {H H' : Hp} (e : Evo m H m' H') {a : Addr} {vs : List V} (h : LAt C m H a vs) : LAt C m' H' a vs := by
  rcases h with ⟨na, h⟩ | h
  · obtain ⟨o, ho⟩ := rd_there h
    exact .inl ⟨e.out na ho, e.rd na h⟩
  · exact .inr h
theorem Evo.tat {m m' : List Addr} {H H' : Hp} (e : Evo m H m' H') {a : Addr} {vs : List V} (h : TAt C m H a vs) : TAt C m' H' a vs := by
  rcases h with ⟨na, h⟩ | h
  · exact .inl ⟨e.out na h, e.keep _ _ na h⟩
  · exact .inr h

mutual
theorem RepV.mono {m m' : List Addr} {H H' : Hp} (e : Evo m H m' H') : ∀ {v : Val} {x : V}, RepV C m H v x → RepV C m' H' v x
  | .non, x, h => h
  | .bl b, x, h => h
  | .int i, x, h => h
  | .str s, x, h => h
  | .ty n, x, h => h
  | .tup xs, x, h => by
    obtain ⟨a, vs, rfl, ha, hr⟩ := h
    exact ⟨a, vs, rfl, e.tat ha, RepL.mono e hr⟩
  | .lst xs, x, h => by
    obtain ⟨a, vs, rfl, ⟨na, ha⟩, hr⟩ := h
    exact ⟨a, vs, rfl, ⟨e.out na ha, e.keep _ _ na ha⟩, RepL.mono e hr⟩
  | .rol xs, x, h => by
    obtain ⟨a, vs, rfl, ha, hr⟩ := h
    exact ⟨a, vs, rfl, e.lat ha, RepL.mono e hr⟩
  | .dct ks us, x, h => by
    obtain ⟨a, kvs, rfl, ⟨na, ha⟩, hk, hr⟩ := h
    exact ⟨a, kvs, rfl, ⟨e.out na ha, e.keep _ _ na ha⟩, hk, RepL.mono e hr⟩
  | .ref n, x, h => by
    obtain ⟨a, rfl, ha⟩ := h
    exact ⟨a, rfl, e.ix ha⟩
theorem RepL.mono {m m' : List Addr} {H H' : Hp} (e : Evo m H m' H') : ∀ {vs : List Val} {xs : List V}, RepL C m H vs xs → RepL C m' H' vs xs
  | [], xs, h => h
  | v :: vs, xs, h => by
    obtain ⟨y, r, rfl, h1, h2⟩ := h
    exact ⟨y, r, rfl, RepV.mono e h1, RepL.mono e h2⟩
end
theorem RepL.length {m : List Addr} {H : Hp} : ∀ {vs : List Val} {xs : List V}, RepL C m H vs xs → xs.length = vs.length
  | [], xs, h => by cases h; rfl
  | v :: vs, xs, h => by
    obtain ⟨y, r, rfl, _, h2⟩ := h
    show r.length + 1 = vs.length + 1
    rw [RepL.length h2]
theorem RepL.get {m : List Addr} {H : Hp} : ∀ {vs : List Val} {xs : List V} {i : Nat} {v : Val}, RepL C m H vs xs → vs[i]? = some v → ∃ x, xs[i]? = some x ∧ RepV C m H v x
  | [], xs, i, v, h, e => by simp at e
  | w :: vs, xs, 0, v, h, e => by
    obtain ⟨y, r, rfl, h1, _⟩ := h
    have q : w = v := by simpa using e
    subst q
    exact ⟨y, by simp, h1⟩
  | w :: vs, xs, i + 1, v, h, e => by
    obtain ⟨y, r, rfl, _, h2⟩ := h
    obtain ⟨x, h3, h4⟩ := RepL.get (i := i) (v := v) h2 (by simpa using e)
    exact ⟨x, by simpa using h3, h4⟩
theorem RepL.append {m : List Addr} {H : Hp} : ∀ {vs ws : List Val} {xs ys : List V}, RepL C m H vs xs → RepL C m H ws ys → RepL C m H (vs ++ ws) (xs ++ ys)
  | [], _, xs, _, h, h' => by cases h; exact h'
  | v :: vs, _, xs, _, h, h' => by
    obtain ⟨y, r, rfl, h1, h2⟩ := h
    exact ⟨y, _, rfl, h1, RepL.append h2 h'⟩
theorem RepL.reverse {m : List Addr} {H : Hp} : ∀ {vs : List Val} {xs : List V}, RepL C m H vs xs → RepL C m H vs.reverse xs.reverse
  | [], xs, h => by cases h; exact rfl
  | v :: vs, xs, h => by
    obtain ⟨y, r, rfl, h1, h2⟩ := h
    rw [List.reverse_cons, List.reverse_cons]
    exact RepL.append (RepL.reverse h2) ⟨y, [], rfl, h1, rfl⟩
theorem RepL.set {m : List Addr} {H : Hp} {v : Val} {x : V} (hv : RepV C m H v x) : ∀ {vs : List Val} {xs : List V} (i : Nat), RepL C m H vs xs → RepL C m H (vs.set i v) (xs.set i x)
  | [], xs, i, h => by cases h; exact rfl
  | w :: vs, xs, 0, h => by
    obtain ⟨y, r, rfl, _, h2⟩ := h
    exact ⟨x, r, rfl, hv, h2⟩
  | w :: vs, xs, i + 1, h => by
    obtain ⟨y, r, rfl, h1, h2⟩ := h
    exact ⟨y, r.set i x, rfl, h1, RepL.set hv i h2⟩

/-- an object of the small heap at a -/
def RepO (C : Gc) (m : List Addr) (H : Hp) (a : Addr) : Obj → Prop
  | .lst xs => ∃ vs, H a = some (.lst vs) ∧ RepL C m H xs vs ∧ pureL xs = true

structure HpOk (C : Gc) (m : List Addr) (h : Heap) (H : Hp) : Prop where
  len : m.length = h.length
  nd : m.Nodup
  obj : ∀ (n : Nat) (o : Obj) (a : Addr), h[n]? = some o → m[n]? = some a → RepO C m H a o
theorem RepO.out {m : List Addr} {H : Hp} {a : Addr} {o : Obj} (h : RepO C m H a o) : ∃ u, H a = some u := by
  cases o with
  | lst xs =>
    obtain ⟨vs, e, _⟩ := h
    exact ⟨_, e⟩
theorem HpOk.at {m : List Addr} {h : Heap} {H : Hp} (p : HpOk C m h H) {n : Nat} {o : Obj} (e : h[n]? = some o) : ∃ a, m[n]? = some a ∧ RepO C m H a o := by
  have l : n < m.length := by
    rw [p.len]
    exact (List.getElem?_eq_some_iff.mp e).1
  exact ⟨m[n], List.getElem?_eq_getElem l, p.obj n o _ e (List.getElem?_eq_getElem l)⟩
theorem HpOk.there {m : List Addr} {h : Heap} {H : Hp} (p : HpOk C m h H) {a : Addr} (ha : a ∈ m) : ∃ u, H a = some u := by
  obtain ⟨n, hn, rfl⟩ := List.mem_iff_getElem.mp ha
  have l : n < h.length := by
    rw [← p.len]
    exact hn
  exact (p.obj n h[n] m[n] (List.getElem?_eq_getElem l) (List.getElem?_eq_getElem hn)).out
theorem HpOk.notIn {m : List Addr} {h : Heap} {H : Hp} (p : HpOk C m h H) {a : Addr} (e : H a = none) : a ∉ m := fun ha => by
  obtain ⟨u, hu⟩ := p.there ha
  rw [e] at hu
  cases hu

theorem refsLtL_mem {b : Nat} : ∀ {xs : List Val}, refsLtL b xs = true ↔ ∀ x ∈ xs, refsLt b x = true
  | [] => by simp [refsLtL]
  | x :: xs => by simp [refsLtL, refsLtL_mem (xs := xs)]
mutual
/-- what meets no object of the heap does not hang on the heap's places -/
theorem RepV.place {m m' : List Addr} {H : Hp} {b : Nat} (hm : ∀ a o, H a = some o → a ∉ m → a ∉ m') (hb : ∀ n a, n < b → m[n]? = some a → m'[n]? = some a) : ∀ {v : Val} {x : V}, refsLt b v = true → RepV C m H v x → RepV C m' H v x
  | .non, x, _, h => h
  | .bl _, x, _, h => h
  | .int i, x, _, h => h
  | .str s, x, _, h => h
  | .ty n, x, _, h => h
  | .tup xs, x, p, h => by
    obtain ⟨a, vs, rfl, ha, hr⟩ := h
    refine ⟨a, vs, rfl, ?_, RepL.place hm hb p hr⟩
    rcases ha with ⟨na, ha⟩ | ha
    · exact .inl ⟨hm a _ ha na, ha⟩
    · exact .inr ha
  | .lst xs, x, p, h => by
    obtain ⟨a, vs, rfl, ⟨na, ha⟩, hr⟩ := h
    exact ⟨a, vs, rfl, ⟨hm a _ ha na, ha⟩, RepL.place hm hb p hr⟩
  | .dct ks us, x, p, h => by
    obtain ⟨a, kvs, rfl, ⟨na, ha⟩, hk, hr⟩ := h
    exact ⟨a, kvs, rfl, ⟨hm a _ ha na, ha⟩, hk, RepL.place hm hb p hr⟩
  | .rol xs, x, p, h => by
    obtain ⟨a, vs, rfl, ha, hr⟩ := h
    refine ⟨a, vs, rfl, ?_, RepL.place hm hb p hr⟩
    rcases ha with ⟨na, ha⟩ | ha
    · obtain ⟨o, ho⟩ := rd_there ha
      exact .inl ⟨hm a _ ho na, ha⟩
    · exact .inr ha
  | .ref n, x, p, h => by
    obtain ⟨a, rfl, ha⟩ := h
    exact ⟨a, rfl, hb n a (of_decide_eq_true p) ha⟩
theorem RepL.place {m m' : List Addr} {H : Hp} {b : Nat} (hm : ∀ a o, H a = some o → a ∉ m → a ∉ m') (hb : ∀ n a, n < b → m[n]? = some a → m'[n]? = some a) : ∀ {v : List Val} {x : List V}, refsLtL b v = true → RepL C m H v x → RepL C m' H v x
  | [], x, _, h => h
  | v :: vs, x, p, h => by
    obtain ⟨y, r, rfl, h1, h2⟩ := h
    have p2 : (refsLt b v && refsLtL b vs) = true := p
    rw [Bool.and_eq_true] at p2
    exact ⟨y, r, rfl, RepV.place hm hb p2.1 h1, RepL.place hm hb p2.2 h2⟩
end

/-- the slots -/
structure LocOk (C : Gc) (m : List Addr) (H : Hp) (l : Loc) (s : St) : Prop where
  len : l.length = s.length
  get : ∀ (i : Nat) v, l[i]? = some (some v) → ∃ x, s[i]? = some (some x) ∧ RepV C m H v x
theorem LocOk.mono {m m' : List Addr} {H H' : Hp} {l : Loc} {s : St} (e : Evo m H m' H') (h : LocOk C m H l s) : LocOk C m' H' l s :=
  ⟨h.len, fun i v q => let ⟨x, h1, h2⟩ := h.get i v q; ⟨x, h1, h2.mono e⟩⟩
theorem LocOk.set {m : List Addr} {H : Hp} {l : Loc} {s : St} {v : Val} {x : V} (h : LocOk C m H l s) (i : Nat) (r : RepV C m H v x) : LocOk C m H (l.set i (some v)) (s.set i (some x)) := by
  refine ⟨by simp [h.len], fun j w q => ?_⟩
  by_cases hj : i = j
  · subst hj
    by_cases hl : i < l.length
    · rw [List.getElem?_set_self hl] at q
      cases q
      refine ⟨x, ?_, r⟩
      rw [List.getElem?_set_self (by rw [← h.len]; exact hl)]
    · rw [List.getElem?_eq_none (by simpa using hl)] at q
      cases q
  · rw [List.getElem?_set_ne hj] at q ⊢
    exact h.get j w q

theorem Evo.put {m : List Addr} {H : Hp} {n : Nat} {a : Addr} {u : HO} (ha : m[n]? = some a) : Evo m H m (upd H a u) := ⟨⟨[], by simp⟩, fun _ h n => absurd h n, fun b w nb e => by
    have z : b ≠ a := fun q => nb (by rw [q]; exact List.mem_of_getElem? ha)
    rw [upd_ne z]
    exact e⟩
/-- a list of the small heap changed -/
theorem RepO.put {m : List Addr} {H : Hp} {n : Nat} {a : Addr} {xs : List Val} {vs : List V} (ha : m[n]? = some a) (r : RepL C m H xs vs) (p : pureL xs = true) : RepO C m (upd H a (.lst vs)) a (.lst xs) := ⟨vs, upd_same, r.mono (Evo.put ha), p⟩
/-- an object of the small heap changed -/
theorem HpOk.put {m : List Addr} {h : Heap} {H : Hp} (p : HpOk C m h H) {n : Nat} {a : Addr} {u : HO} {o : Obj} (ha : m[n]? = some a) (ho : RepO C m (upd H a u) a o) : HpOk C m (h.set n o) (upd H a u) ∧ Evo m H m (upd H a u) := by
  have ev : Evo m H m (upd H a u) := ⟨⟨[], by simp⟩, fun _ h n => absurd h n, fun b w nb e => by
    have z : b ≠ a := fun q => nb (by rw [q]; exact List.mem_of_getElem? ha)
    rw [upd_ne z]
    exact e⟩
  refine ⟨⟨by simp [p.len], p.nd, fun k w b hk hb => ?_⟩, ev⟩
  by_cases hn : n = k
  · subst hn
    have e : a = b := Option.some.inj (ha.symm.trans hb)
    subst e
    by_cases hl : n < h.length
    · rw [List.getElem?_set_self hl] at hk
      cases hk
      exact ho
    · rw [List.getElem?_eq_none (by simpa using hl)] at hk
      cases hk
  · rw [List.getElem?_set_ne hn] at hk
    have nb : b ≠ a := fun q => by
      subst q
      exact hn (nd_ix p.nd ha hb)
    have z := p.obj k w b hk hb
    cases w with
    | lst xs =>
      obtain ⟨vs, e, r, q⟩ := z
      exact ⟨vs, by rw [upd_ne nb]; exact e, r.mono ev, q⟩
/-- a new thing that is no object of the small heap -/
theorem HpOk.lay {m : List Addr} {h : Heap} {H : Hp} (p : HpOk C m h H) {a : Addr} {u : HO} (ha : H a = none) : HpOk C m h (upd H a u) ∧ Evo m H m (upd H a u) := by
  have ev : Evo m H m (upd H a u) := ⟨⟨[], by simp⟩, fun _ h n => absurd h n, fun b w nb e => by
    rw [upd_ne (ne_of_none e ha)]
    exact e⟩
  refine ⟨⟨p.len, p.nd, fun k w b hk hb => ?_⟩, ev⟩
  have z := p.obj k w b hk hb
  have nb : b ≠ a := by
    obtain ⟨o, ho⟩ := z.out
    exact ne_of_none ho ha
  cases w with
  | lst xs =>
    obtain ⟨vs, e, r, q⟩ := z
    exact ⟨vs, by rw [upd_ne nb]; exact e, r.mono ev, q⟩
/-- a new object of the small heap -/
theorem HpOk.grow {m : List Addr} {h : Heap} {H : Hp} (p : HpOk C m h H) {a : Addr} {vs : List Val} {xs : List V} (ha : H a = none) (hv : RepL C m H vs xs) (hp : pureL vs = true) :
    HpOk C (m ++ [a]) (h ++ [.lst vs]) (upd H a (.lst xs)) ∧ Evo m H (m ++ [a]) (upd H a (.lst xs)) := by
  have na : a ∉ m := p.notIn ha
  have ev : Evo m H (m ++ [a]) (upd H a (.lst xs)) := by
    refine ⟨⟨[a], rfl⟩, fun b hb nb => ?_, fun b w nb e => ?_⟩
    · rcases List.mem_append.mp hb with z | z
      · exact absurd z nb
      · have q : b = a := by simpa using z
        rw [q]
        exact ha
    · rw [upd_ne (ne_of_none e ha)]
      exact e
  refine ⟨⟨by simp [p.len], ?_, fun k w b hk hb => ?_⟩, ev⟩
  · rw [List.nodup_append]
    exact ⟨p.nd, by simp, fun x hx y hy => by
      have q : y = a := by simpa using hy
      rw [q]
      exact fun z => na (by rw [← z]; exact hx)⟩
  · by_cases hl : k < h.length
    · rw [List.getElem?_append_left hl] at hk
      rw [List.getElem?_append_left (by rw [p.len]; exact hl)] at hb
      have z := p.obj k w b hk hb
      have nb : b ≠ a := by
        obtain ⟨o, ho⟩ := z.out
        exact ne_of_none ho ha
      cases w with
      | lst ys =>
        obtain ⟨ws, e, r, q⟩ := z
        exact ⟨ws, by rw [upd_ne nb]; exact e, r.mono ev, q⟩
    · have el : k = h.length := by
        have z := (List.getElem?_eq_some_iff.mp hk).1
        simp at z
        omega
      subst el
      simp at hk
      subst hk
      have e : b = a := by
        rw [← p.len] at hb
        simpa using hb.symm
      subst e
      exact ⟨xs, upd_same, hv.mono ev, hp⟩

/-- how an exception of the class c with the field v is to be met -/
def ExcP (C : Gc) (Wx : WX) (m : List Addr) (H : Hp) (s : St) (c : Nat) (v : Val) (h : Heap) : Prop :=
  ∀ m' H' d x, Evo m H m' H' → HpOk C m' h H' → RepV C m' H' v x → H' d = some (.xd [((C.cl c).2, x)]) → d ∉ m' → Wx (.ref (C.cl c).1) (some d) s H'
/-- a result and what is wanted of it -/
def RP {A : Type} (C : Gc) (Wx : WX) (m : List Addr) (H : Hp) (s : St) (r : Res A) (Q : A → Heap → List Addr → Hp → Prop) : Prop :=
  match r with
  | .ok a h => ∀ m' H', Evo m H m' H' → HpOk C m' h H' → Q a h m' H'
  | .exc c v h => ExcP C Wx m H s c v h
  | .bad => False
section
variable {Wx : WX} {m m1 : List Addr} {H H1 : Hp} {s : St} {A B : Type}
theorem ExcP.weak {c : Nat} {v : Val} {h : Heap} (x : ExcP C Wx m H s c v h) (e : Evo m H m1 H1) : ExcP C Wx m1 H1 s c v h := fun m' H' d y ev => x m' H' d y (e.trans ev)
theorem RP.weak {r : Res A} {Q : A → Heap → List Addr → Hp → Prop} (x : RP C Wx m H s r Q) (e : Evo m H m1 H1) : RP C Wx m1 H1 s r Q := by
  cases r with
  | ok a h => exact fun m' H' ev => x m' H' (e.trans ev)
  | exc c v h => exact ExcP.weak x e
  | bad => exact x
theorem RP.imp {r : Res A} {Q Q' : A → Heap → List Addr → Hp → Prop} (x : RP C Wx m H s r Q) (f : ∀ a h m' H', Evo m H m' H' → HpOk C m' h H' → Q a h m' H' → Q' a h m' H') : RP C Wx m H s r Q' := by
  cases r with
  | ok a h => exact fun m' H' ev hp => f a h m' H' ev hp (x m' H' ev hp)
  | exc c v h => exact x
  | bad => exact x
theorem RP.bind {r : Res A} {k : A → Heap → Res B} {Q : B → Heap → List Addr → Hp → Prop} (x : RP C Wx m H s (r.bind k) Q) : RP C Wx m H s r fun a h m' H' => RP C Wx m' H' s (k a h) Q := by
  cases r with
  | ok a h => exact fun m' H' ev hp => RP.weak (show RP C Wx m H s (k a h) Q from x) ev
  | exc c v h => exact x
  | bad => exact x
theorem RP.go {a : A} {h : Heap} {Q : A → Heap → List Addr → Hp → Prop} (x : RP C Wx m H s (.ok a h) Q) (e : Evo m H m1 H1) (hp : HpOk C m1 h H1) : Q a h m1 H1 := x m1 H1 e hp
theorem fin1 {v : Val} {h : Heap} {x : V} {Q : VK} (q : RP C Wx m H s (.ok v h) fun v _ m' H' => ∀ x, RepV C m' H' v x → Q x H') (hp : HpOk C m h H) (r : RepV C m H v x) : Q x H := q m H (Evo.refl m H) hp x r
theorem fin2 {v : Val} {h : Heap} {x : V} {Q : VK} (q : RP C Wx m H s (.ok v h) fun v _ m' H' => ∀ x, RepV C m' H' v x → Q x H') (e : Evo m H m1 H1) (hp : HpOk C m1 h H1) (r : RepV C m1 H1 v x) : Q x H1 := q m1 H1 e hp x r
theorem RP.now {a : A} {h : Heap} {Q : A → Heap → List Addr → Hp → Prop} (x : RP C Wx m H s (.ok a h) Q) (hp : HpOk C m h H) : Q a h m H := x m H (Evo.refl m H) hp
end
end MP
/-! MP, the operations of the small language are those of the layer. -/
namespace MP
open PySem L2

section
variable {X : Cx} {e : Expr} {es : List Expr} {st : Stmt} {sts : List Stmt}
theorem PE.imp {t t' : TE} (h : PE X e t) (f : ∀ s H Q, t' s H Q → t s H Q) : PE X e t' := ⟨fun pins s σ H Q I q => h.run pins s σ H Q I (f _ _ _ q)⟩
theorem PT.imp {t t' : TT} (h : PT X e t) (f : ∀ s H Q, t' s H Q → t s H Q) : PT X e t' := ⟨fun pins s σ H Q I q => h.run pins s σ H Q I (f _ _ _ q)⟩
theorem PW.imp {t t' : TT} (h : PW X e t) (f : ∀ s H Q, t' s H Q → t s H Q) : PW X e t' := ⟨fun wh pins s σ H Q I q => h.run wh pins s σ H Q I (f _ _ _ q)⟩
theorem PA.imp {t t' : TA} (h : PA X es t) (f : ∀ s H Q, t' s H Q → t s H Q) : PA X es t' := ⟨fun pos pins s σ H Q I q => h.run pos pins s σ H Q I (f _ _ _ q)⟩
theorem PS.imp {t t' : TS} (h : PS X st t) (f : ∀ D s H, t' D s H → t D s H) : PS X st t' := ⟨fun pins s σ H D I q => h.run pins s σ H D I (f _ _ _ q)⟩
theorem PSs.imp {t t' : TS} (h : PSs X sts t) (f : ∀ D s H, t' D s H → t D s H) : PSs X sts t' := ⟨fun pins s σ H D I q => h.run pins s σ H D I (f _ _ _ q)⟩
theorem PI.imp {t t' : TI} {tg : Expr} (h : PI X tg e t) (f : ∀ s H Q, t' s H Q → t s H Q) : PI X tg e t' := ⟨fun pins s σ H Q I q => h.run pins s σ H Q I (f _ _ _ q)⟩
end

/-! ### operators -/
/-- what a pure operation is asked: the values that lie there, and that the answer, wherever it comes to lie, is good -/
def RO (C : Gc) (m : List Addr) (h : Heap) (H : Hp) (v : Val) (Q : VK) : Prop := ∀ x H', Evo m H m H' → HpOk C m h H' → RepV C m H' v x → Q x H'
theorem RO.now {C : Gc} {m : List Addr} {h : Heap} {H : Hp} {v : Val} {x : V} {Q : VK} (q : RO C m h H v Q) (hp : HpOk C m h H) (r : RepV C m H v x) : Q x H := q x H (Evo.refl m H) hp r
section
variable {X : Cx} {C : Gc}
def rBin (C : Gc) (op : Operator) : R2 := fun x y H Q => ∃ m h a b v, HpOk C m h H ∧ RepV C m H a x ∧ RepV C m H b y ∧ binop h op a b = some v ∧ RO C m h H v Q
/-- a list that stands by itself or as an object -/
theorem lst_at {m : List Addr} {h : Heap} {H : Hp} (hp : HpOk C m h H) {v : Val} {x : V} {xs : List Val} (r : RepV C m H v x) (e : asT h v = some xs) :
    ∃ a vs, x = .ref a ∧ H a = some (.lst vs) ∧ RepL C m H xs vs := by
  cases v with
  | lst ys =>
    obtain ⟨a, vs, rfl, ⟨_, ha⟩, hr⟩ := r
    cases e
    exact ⟨a, vs, rfl, ha, hr⟩
  | ref n =>
    obtain ⟨a, rfl, ha⟩ := r
    have e : (match h[n]? with | some (.lst xs) => some xs | none => none) = some xs := e
    cases q : h[n]? with
    | none =>
      rw [q] at e
      cases e
    | some o =>
      rw [q] at e
      cases o with
      | lst ys =>
        cases e
        obtain ⟨vs, e1, r1, _⟩ := hp.obj n _ a q ha
        exact ⟨a, vs, rfl, e1, r1⟩
  | _ => cases e
/-- a new thing that is a value -/
theorem RO.lay {m : List Addr} {h : Heap} {H : Hp} {v : Val} {Q : VK} {o : HO} (q : RO C m h H v Q) (hp : HpOk C m h H) (r : ∀ p, H p = none → p ∉ m → Evo m H m (upd H p o) → RepV C m (upd H p o) v (.ref p)) : ∀ p, H p = none → Q (.ref p) (upd H p o) := fun p hn => by
  obtain ⟨h1, h2⟩ := hp.lay (u := o) hn
  exact q _ _ h2 h1 (r p hn (hp.notIn hn) h2)
theorem line_of {n : Nat} (h : n ≤ 100000) : n ≤ sizeLine := Nat.le_trans h (by decide)
theorem cat_ok {pins : List (Addr × PySem.Obj)} {s : Shared} {σ : St} {H : Hp} {x y : V} {v u : Value} {Q : VK} (hK : X.K = C.K) (I : Inv X pins σ H s) (rx : RelV x v) (ry : RelV y u) {m : List Addr} {h : Heap} {a b w : Val} (hp : HpOk C m h H) (ra : RepV C m H a x) (rb : RepV C m H b y)
    (e : catO h a b = some w) (q : RO C m h H w Q) : wpAny (model X.prog X.w) X.A (binaryOp .Add v u) (EP X pins σ Q) X.xe s := by
  have lists : ∀ xs ys, asT h a = some xs → asT h b = some ys → (if xs.length + ys.length ≤ 100000 then some (Val.lst (xs ++ ys)) else none) = some w → wpAny (model X.prog X.w) X.A (binaryOp .Add v u) (EP X pins σ Q) X.xe s := fun xs ys e1 e2 e3 => by
    by_cases c : xs.length + ys.length ≤ 100000
    · rw [if_pos c] at e3
      cases e3
      obtain ⟨p1, vs, rfl, h1, r1⟩ := lst_at hp ra e1
      obtain ⟨p2, ws, rfl, h2, r2⟩ := lst_at hp rb e2
      exact op_cat pins s σ H _ _ v u Q I rx ry ⟨p1, p2, vs, ws, rfl, rfl, h1, h2, line_of (by rw [r1.length, r2.length]; exact c), q.lay hp fun p hn hm ev => ⟨p, _, rfl, ⟨hm, upd_same⟩, (r1.append r2).mono ev⟩⟩
    · rw [if_neg c] at e3
      cases e3
  unfold catO at e
  split at e
  · rename_i z z2
    cases (show x = V.str z from ra)
    cases (show y = V.str z2 from rb)
    by_cases c : z.length + z2.length ≤ 16777216
    · rw [if_pos c] at e
      cases e
      exact op_add_str pins s σ H _ _ v u Q I rx ry ⟨z, z2, rfl, rfl, c, q.now hp rfl⟩
    · rw [if_neg c] at e
      cases e
  · rename_i xs ys
    obtain ⟨p1, vs, rfl, h1, r1⟩ := ra
    obtain ⟨p2, ws, rfl, h2, r2⟩ := rb
    by_cases c : xs.length + ys.length ≤ 100000
    · rw [if_pos c] at e
      cases e
      refine op_catA pins s σ H _ _ v u Q I rx ry ⟨p1, p2, vs, ws, rfl, rfl, by rw [hK]; exact h1.sq, by rw [hK]; exact h2.sq, line_of (by rw [r1.length, r2.length]; exact c), fun e0 => ?_, fun _ e0 => ?_, fun _ _ => ?_⟩
      · subst e0
        cases xs with
        | nil => exact q.now hp ⟨p2, ws, rfl, h2, r2⟩
        | cons _ _ => obtain ⟨_, _, z, _⟩ := r1; cases z
      · subst e0
        cases ys with
        | nil => exact q.now hp ⟨p1, vs, rfl, h1, by rw [List.append_nil]; exact r1⟩
        | cons _ _ => obtain ⟨_, _, z, _⟩ := r2; cases z
      · exact q.lay hp fun p hn hm ev => ⟨p, _, rfl, .inl ⟨hm, upd_same⟩, (r1.append r2).mono ev⟩
    · rw [if_neg c] at e
      cases e
  · cases e1 : asT h a with
    | none =>
      rw [e1] at e
      cases e
    | some xs =>
      cases e2 : asT h b with
      | none =>
        rw [e1, e2] at e
        cases e
      | some ys =>
        rw [e1, e2] at e
        exact lists xs ys e1 e2 e
theorem op_bin (hK : X.K = C.K) (op : Operator) : OpR X (binaryOp op) (rBin C op) := by
  intro pins s σ H x y v u Q I rx ry q
  obtain ⟨m, h, a, b, w, hp, ra, rb, e, q⟩ := q
  have one : ∀ i j, a = .int i → b = .int j → ∃ k, w = .int k ∧ wpAny (model X.prog X.w) X.A (binaryOp op v u) (EP X pins σ Q) X.xe s := by
    intro i j ea eb
    subst ea eb
    cases (show x = V.int i from ra)
    cases (show y = V.int j from rb)
    obtain ⟨t, rfl⟩ := rx
    obtain ⟨t', rfl⟩ := ry
    have fin : ∀ k, w = .int k → EP X pins σ Q (.int k s.toks) { s with toks := s.toks + 1 } := fun k ek => by
      subst ek
      exact ⟨.int k, H, I.tok _, ⟨_, rfl⟩, q.now hp (show RepV C m H (.int k) (.int k) from rfl)⟩
    have e : binI op i j = some w := e
    cases op with
    | Add =>
      cases e
      exact ⟨_, rfl, PyProof.Rows.add_int (fin _ rfl)⟩
    | Sub =>
      cases e
      exact ⟨_, rfl, PyProof.Rows.sub_int (fin _ rfl)⟩
    | Mult =>
      have e2 : (if bits i + bits j ≤ 134217728 then some (Val.int (i * j)) else none) = some w := e
      by_cases c : bits i + bits j ≤ 134217728
      · rw [if_pos c] at e2
        cases e2
        refine ⟨_, rfl, PyProof.Rows.mul_int (fin _ rfl) (CMulX.ok ?_)⟩
        have c2 : Builtin.Int.intBits i + Builtin.Int.intBits j ≤ 134217728 := c
        show (Builtin.Int.intBits i : Int) + (Builtin.Int.intBits j : Int) ≤ 134217728
        omega
      · rw [if_neg c] at e2
        cases e2
    | FloorDiv =>
      have e2 : (if j ≠ 0 ∧ Builtin.divisionGoesByPylong i j = false then some (Val.int (i.fdiv j)) else none) = some w := e
      by_cases c : j ≠ 0 ∧ Builtin.divisionGoesByPylong i j = false
      · rw [if_pos c] at e2
        cases e2
        exact ⟨_, rfl, PyProof.Rows.floordiv_int c.1 (fin _ rfl) (.inl c.2)⟩
      · rw [if_neg c] at e2
        cases e2
    | Mod =>
      have e2 : (if j ≠ 0 then some (Val.int (i.fmod j)) else none) = some w := e
      by_cases c : j ≠ 0
      · rw [if_pos c] at e2
        cases e2
        exact ⟨_, rfl, PyProof.Rows.mod_int' c (fin _ rfl)⟩
      · rw [if_neg c] at e2
        cases e2
    | Pow =>
      have e2 : (if 0 ≤ j ∧ (bits i : Int) * j ≤ 2 ^ 27 then some (Val.int (i ^ j.toNat)) else none) = some w := e
      by_cases c : 0 ≤ j ∧ (bits i : Int) * j ≤ 2 ^ 27
      · rw [if_pos c] at e2
        cases e2
        exact ⟨_, rfl, PyProof.Rows.pow_int c.1 c.2 (fin _ rfl)⟩
      · rw [if_neg c] at e2
        cases e2
    | LShift =>
      have e2 : (if 0 ≤ j ∧ (bits i : Int) + j ≤ 2 ^ 27 then some (Val.int (i * 2 ^ j.toNat)) else none) = some w := e
      by_cases c : 0 ≤ j ∧ (bits i : Int) + j ≤ 2 ^ 27
      · rw [if_pos c] at e2
        cases e2
        exact ⟨_, rfl, PyProof.Rows.lshift_int c.1 c.2 (fin _ rfl)⟩
      · rw [if_neg c] at e2
        cases e2
    | MatMult => cases e
    | Div => cases e
    | RShift => cases e
    | BitOr => cases e
    | BitXor => cases e
    | BitAnd => cases e
  have ee := e
  unfold binop at ee
  split at ee
  · obtain ⟨k, _, z⟩ := one _ _ rfl rfl
    exact z
  · cases op with
    | Add => exact cat_ok hK I rx ry hp ra rb ee q
    | _ => cases ee

/-! ### data -/
mutual
theorem data_dp {m : List Addr} {H : Hp} : ∀ {v : Val} {x : V} {d : PyData}, RepV C m H v x → data0 v = some d → Dp C.K H x d
  | .non, x, d, r, e => by cases e; cases (show x = V.non from r); exact .non
  | .bl b, x, d, r, e => by cases e; cases (show x = V.bl b from r); exact .bl b
  | .int i, x, d, r, e => by cases e; cases (show x = V.int i from r); exact .int i
  | .str z, x, d, r, e => by cases e; cases (show x = V.str z from r); exact .str z
  | .tup xs, x, d, r, e => by
    obtain ⟨a, vs, rfl, ha, hr⟩ := r
    have e : (dataL xs).map PyData.tuple = some d := e
    cases q : dataL xs with
    | none => rw [q] at e; cases e
    | some ds =>
      rw [q] at e
      cases e
      exact .tup ha.sq (data_dpL hr q)
  | .lst xs, x, d, r, e => by
    obtain ⟨a, vs, rfl, ⟨_, ha⟩, hr⟩ := r
    have e : (dataL xs).map PyData.list = some d := e
    cases q : dataL xs with
    | none => rw [q] at e; cases e
    | some ds =>
      rw [q] at e
      cases e
      exact .lst (SqL.of ha) (data_dpL hr q)
  | .rol xs, x, d, r, e => by
    obtain ⟨a, vs, rfl, ha, hr⟩ := r
    have e : (dataL xs).map PyData.list = some d := e
    cases q : dataL xs with
    | none => rw [q] at e; cases e
    | some ds =>
      rw [q] at e
      cases e
      exact .lst ha.sq (data_dpL hr q)
  | .dct _ _, x, d, r, e => by cases e
  | .ref _, x, d, r, e => by cases e
  | .ty _, x, d, r, e => by cases e
theorem data_dpL {m : List Addr} {H : Hp} : ∀ {v : List Val} {x : List V} {d : List PyData}, RepL C m H v x → dataL v = some d → DpAll C.K H x d
  | [], x, d, r, e => by cases e; cases (show x = [] from r); exact .nil
  | v :: vs, x, d, r, e => by
    obtain ⟨y, ys, rfl, r1, r2⟩ := r
    have e : ((data0 v).bind fun d => (dataL vs).map fun ds => d :: ds) = some d := e
    cases q : data0 v with
    | none => rw [q] at e; cases e
    | some d1 =>
      rw [q] at e
      have e : ((dataL vs).map fun ds => d1 :: ds) = some d := e
      cases q2 : dataL vs with
      | none => rw [q2] at e; cases e
      | some ds =>
        rw [q2] at e
        cases e
        exact .cons (data_dp r1 q) (data_dpL r2 q2)
end
theorem dataV_dp {m : List Addr} {h : Heap} {H : Hp} (hp : HpOk C m h H) {v : Val} {x : V} {d : PyData} (r : RepV C m H v x) (e : dataV h v = some d) : Dp C.K H x d := by
  cases v with
  | ref n =>
    obtain ⟨a, rfl, ha⟩ := r
    have e : (match h[n]? with | some (.lst xs) => (dataL xs).map PyData.list | none => none) = some d := e
    cases q : h[n]? with
    | none => rw [q] at e; cases e
    | some o =>
      rw [q] at e
      cases o with
      | lst xs =>
        have e : (dataL xs).map PyData.list = some d := e
        obtain ⟨vs, e1, r1, _⟩ := hp.obj n _ a q ha
        cases q2 : dataL xs with
        | none => rw [q2] at e; cases e
        | some ds =>
          rw [q2] at e
          cases e
          exact .lst (SqL.of e1) (data_dpL r1 q2)
  | non => exact data_dp r e
  | bl b => exact data_dp r e
  | int i => exact data_dp r e
  | str z => exact data_dp r e
  | tup xs => exact data_dp r e
  | lst xs => exact data_dp r e
  | rol xs => exact data_dp r e
  | dct _ _ => cases e
  | ty _ => cases e
/-! ### comparisons -/
def rCmp (C : Gc) (op : CmpOp) : R2 := fun x y H Q => ∃ m h a b v, HpOk C m h H ∧ RepV C m H a x ∧ RepV C m H b y ∧ cmpop h op a b = some v ∧ Q (.bl v) H
theorem cmp_is {op : CmpOp} {m : List Addr} {H : Hp} {a b : Val} {w : Bool} {pins : List (Addr × PySem.Obj)} {s : Shared} {σ : St} {x y : V} {v u : Value} {Q : VK} (I : Inv X pins σ H s) (rx : RelV x v) (ry : RelV y u) (ra : RepV C m H a x) (rb : RepV C m H b y)
    (e : isO a b = some w) (hop : (op = .Is ∧ Q (.bl w) H) ∨ (op = .IsNot ∧ Q (.bl (!w)) H)) : wpAny (model X.prog X.w) X.A (compareOp op v u) (EP X pins σ Q) X.xe s := by
  unfold isO at e
  split at e
  · cases (show y = V.non from rb)
    have hd : decide (x = V.non) = w := by
      cases a with
      | non => cases e; cases (show x = V.non from ra); rfl
      | bl b => cases e; cases (show x = V.bl b from ra); rfl
      | int b => cases e; cases (show x = V.int b from ra); rfl
      | str b => cases e; cases (show x = V.str b from ra); rfl
      | ty b => cases e; cases (show x = V.ty b from ra); rfl
      | tup b => cases e; obtain ⟨_, _, rfl, _⟩ := ra; rfl
      | lst b => cases e; obtain ⟨_, _, rfl, _⟩ := ra; rfl
      | rol b => cases e; obtain ⟨_, _, rfl, _⟩ := ra; rfl
      | dct b _ => cases e; obtain ⟨_, _, rfl, _⟩ := ra; rfl
      | ref b => cases e; obtain ⟨_, rfl, _⟩ := ra; rfl
    rcases hop with ⟨rfl, q⟩ | ⟨rfl, q⟩
    · exact op_isN pins s σ H _ _ v u Q I rx ry ⟨rfl, by rw [hd]; exact q⟩
    · exact op_notN pins s σ H _ _ v u Q I rx ry ⟨rfl, by rw [hd]; exact q⟩
  · rename_i b1 b2
    cases e
    cases (show x = V.bl b1 from ra)
    cases (show y = V.bl b2 from rb)
    rcases hop with ⟨rfl, q⟩ | ⟨rfl, q⟩
    · exact op_isBl pins s σ H _ _ v u Q I rx ry ⟨b1, b2, rfl, rfl, q⟩
    · exact op_notBl pins s σ H _ _ v u Q I rx ry ⟨b1, b2, rfl, rfl, q⟩
  · rename_i b2 hn
    cases (show y = V.bl b2 from rb)
    cases (show u = Value.bool b2 from ry)
    have hv : plainIs v (.bool b2) = true ∧ v ≠ .bool b2 ∧ w = false := by
      cases a with
      | non => cases e; cases (show x = V.non from ra); cases (show v = Value.none from rx); exact ⟨rfl, (fun z => nomatch z), rfl⟩
      | bl b => exact absurd rfl (hn b)
      | int b => cases e; cases (show x = V.int b from ra); obtain ⟨t, rfl⟩ := rx; exact ⟨rfl, (fun z => nomatch z), rfl⟩
      | str b => cases e; cases (show x = V.str b from ra); obtain ⟨t, rfl⟩ := rx; exact ⟨rfl, (fun z => nomatch z), rfl⟩
      | ty b => cases e
      | tup b => cases e; obtain ⟨p, _, rfl, _⟩ := ra; cases (show v = Value.ref p from rx); exact ⟨rfl, (fun z => nomatch z), rfl⟩
      | lst b => cases e; obtain ⟨p, _, rfl, _⟩ := ra; cases (show v = Value.ref p from rx); exact ⟨rfl, (fun z => nomatch z), rfl⟩
      | rol b => cases e; obtain ⟨p, _, rfl, _⟩ := ra; cases (show v = Value.ref p from rx); exact ⟨rfl, (fun z => nomatch z), rfl⟩
      | dct b _ => cases e; obtain ⟨p, _, rfl, _⟩ := ra; cases (show v = Value.ref p from rx); exact ⟨rfl, (fun z => nomatch z), rfl⟩
      | ref b => cases e; obtain ⟨p, rfl, _⟩ := ra; cases (show v = Value.ref p from rx); exact ⟨rfl, (fun z => nomatch z), rfl⟩
    obtain ⟨p1, p2, rfl⟩ := hv
    rcases hop with ⟨rfl, q⟩ | ⟨rfl, q⟩
    · exact wpAny_is_other p1 p2 ⟨.bl false, H, I, rfl, q⟩
    · exact wpAny_isNot_other p1 p2 ⟨.bl true, H, I, rfl, q⟩
  · cases e
theorem op_cmp (hK : X.K = C.K) (hu : X.A.units + 65 < cLine) (op : CmpOp) : OpR X (compareOp op) (rCmp C op) := by
  intro pins s σ H x y v u Q I rx ry q
  obtain ⟨m, h, a, b, w, hp, ra, rb, e, q⟩ := q
  unfold cmpop at e
  split at e
  · rename_i i j
    cases (show x = V.int i from ra)
    cases (show y = V.int j from rb)
    have d : decide (V.int i = V.int j) = decide (i = j) := by
      by_cases c : i = j
      · subst c; simp
      · simp [c]
    cases op with
    | Eq =>
      cases e
      exact op_eq pins s σ H _ _ v u Q I rx ry ⟨rfl, by rw [d]; exact q⟩
    | NotEq =>
      cases e
      exact op_ne pins s σ H _ _ v u Q I rx ry ⟨rfl, by rw [d]; exact q⟩
    | Lt => cases e; exact op_lt pins s σ H _ _ v u Q I rx ry ⟨i, j, rfl, rfl, q⟩
    | LtE => cases e; exact op_le pins s σ H _ _ v u Q I rx ry ⟨i, j, rfl, rfl, q⟩
    | Gt => cases e; exact op_gt pins s σ H _ _ v u Q I rx ry ⟨i, j, rfl, rfl, q⟩
    | GtE => cases e; exact op_ge pins s σ H _ _ v u Q I rx ry ⟨i, j, rfl, rfl, q⟩
    | _ => cases e
  · rename_i i j
    cases (show x = V.str i from ra)
    cases (show y = V.str j from rb)
    have d : decide (V.str i = V.str j) = decide (i = j) := by
      by_cases c : i = j
      · subst c; simp
      · simp [c]
    cases op with
    | Eq =>
      cases e
      exact op_eq pins s σ H _ _ v u Q I rx ry ⟨rfl, by rw [d]; exact q⟩
    | NotEq =>
      cases e
      exact op_ne pins s σ H _ _ v u Q I rx ry ⟨rfl, by rw [d]; exact q⟩
    | Lt => cases e; exact op_lt_str pins s σ H _ _ v u Q I rx ry ⟨i, j, rfl, rfl, q⟩
    | LtE => cases e; exact op_le_str pins s σ H _ _ v u Q I rx ry ⟨i, j, rfl, rfl, q⟩
    | Gt => cases e; exact op_gt_str pins s σ H _ _ v u Q I rx ry ⟨i, j, rfl, rfl, q⟩
    | GtE => cases e; exact op_ge_str pins s σ H _ _ v u Q I rx ry ⟨i, j, rfl, rfl, q⟩
    | In => cases e; exact op_in_str pins s σ H _ _ v u Q I rx ry ⟨i, j, rfl, rfl, q⟩
    | NotIn => cases e; exact op_notin_str pins s σ H _ _ v u Q I rx ry ⟨i, j, rfl, rfl, q⟩
    | _ => cases e
  · have eqd : ∀ r, eqD h a b = some r → ∃ d e, Dp C.K H x d ∧ Dp C.K H y e ∧ SeqAt.shaped d = true ∧ SeqAt.shaped e = true ∧ r = PyData.eqv d e := fun r er => by
      unfold eqD at er
      split at er
      · rename_i d1 d2 q1 q2
        by_cases c : SeqAt.shaped d1 = true ∧ SeqAt.shaped d2 = true
        · rw [if_pos c] at er
          exact ⟨d1, d2, dataV_dp hp ra q1, dataV_dp hp rb q2, c.1, c.2, (Option.some.inj er).symm⟩
        · rw [if_neg c] at er
          cases er
      · cases er
    have ind : ∀ r, inO h a b = some r → ∃ d ds, Dp C.K H x d ∧ Dp C.K H y (.list ds) ∧ SeqAt.shaped d = true ∧ SeqAt.shaped (.list ds) = true ∧ r = ds.any fun z => PyData.eqv z d := fun r er => by
      unfold inO at er
      split at er
      · rename_i d1 d2 q1 q2
        by_cases c : SeqAt.shaped d1 = true ∧ SeqAt.shaped (.list d2) = true
        · rw [if_pos c] at er
          exact ⟨d1, d2, dataV_dp hp ra q1, dataV_dp hp rb q2, c.1, c.2, (Option.some.inj er).symm⟩
        · rw [if_neg c] at er
          cases er
      · cases er
    have neg : ∀ {o : Option Bool}, o.map (!·) = some w → ∃ r, o = some r ∧ w = !r := fun {o} ho => by
      cases o with
      | none => cases ho
      | some r => cases ho; exact ⟨r, rfl, rfl⟩
    have hu2 : X.A.units + 64 < cLine := by omega
    cases op with
    | Eq =>
      obtain ⟨d, f, h1, h2, h3, h4, rfl⟩ := eqd w e
      exact op_eqD hu2 pins s σ H _ _ v u Q I rx ry ⟨d, f, by rw [hK]; exact h1, by rw [hK]; exact h2, h3, h4, q⟩
    | NotEq =>
      obtain ⟨r, e9, rfl⟩ := neg e
      obtain ⟨d, f, h1, h2, h3, h4, rfl⟩ := eqd r e9
      exact op_neD hu2 pins s σ H _ _ v u Q I rx ry ⟨d, f, by rw [hK]; exact h1, by rw [hK]; exact h2, h3, h4, q⟩
    | Is => exact cmp_is I rx ry ra rb e (.inl ⟨rfl, q⟩)
    | IsNot =>
      obtain ⟨r, e9, rfl⟩ := neg e
      exact cmp_is I rx ry ra rb e9 (.inr ⟨rfl, q⟩)
    | In =>
      obtain ⟨d, f, h1, h2, h3, h4, rfl⟩ := ind w e
      exact op_inD hu pins s σ H _ _ v u Q I rx ry ⟨d, f, by rw [hK]; exact h1, by rw [hK]; exact h2, h3, h4, q⟩
    | NotIn =>
      obtain ⟨r, e9, rfl⟩ := neg e
      obtain ⟨d, f, h1, h2, h3, h4, rfl⟩ := ind r e9
      exact op_notInD hu pins s σ H _ _ v u Q I rx ry ⟨d, f, by rw [hK]; exact h1, by rw [hK]; exact h2, h3, h4, q⟩
    | _ => cases e

/-- a list or a tuple, read -/
theorem seq_at {m : List Addr} {h : Heap} {H : Hp} (hp : HpOk C m h H) {v : Val} {x : V} {xs : List Val} (r : RepV C m H v x) (e : asSeq h v = some xs) :
    ∃ a vs, x = .ref a ∧ (SqL C.K H a vs ∨ SqT C.K H a vs) ∧ RepL C m H xs vs := by
  cases v with
  | tup ys =>
    obtain ⟨a, vs, rfl, ha, hr⟩ := r
    cases e
    exact ⟨a, vs, rfl, .inr ha.sq, hr⟩
  | lst ys =>
    obtain ⟨a, vs, rfl, ⟨_, ha⟩, hr⟩ := r
    cases e
    exact ⟨a, vs, rfl, .inl (SqL.of ha), hr⟩
  | rol ys =>
    obtain ⟨a, vs, rfl, ha, hr⟩ := r
    cases e
    exact ⟨a, vs, rfl, .inl ha.sq, hr⟩
  | ref n =>
    obtain ⟨a, rfl, ha⟩ := r
    have e : (match h[n]? with | some (.lst xs) => some xs | none => none) = some xs := e
    cases q : h[n]? with
    | none =>
      rw [q] at e
      cases e
    | some o =>
      rw [q] at e
      cases o with
      | lst ys =>
        cases e
        obtain ⟨vs, e1, r1, _⟩ := hp.obj n _ a q ha
        exact ⟨a, vs, rfl, .inl (SqL.of e1), r1⟩
  | _ => cases e
theorem ty_at {m : List Addr} {h : Heap} {H : Hp} (hp : HpOk C m h H) {v : Val} {x : V} {t : String} (r : RepV C m H v x) (e : tyName h v = some t) : TyX C.K H x (.type t) := by
  cases v with
  | non => cases e; cases (show x = V.non from r); exact .base .non
  | bl b => cases e; cases (show x = V.bl b from r); exact .base (.bl b)
  | int i => cases e; cases (show x = V.int i from r); exact .base (.int i)
  | str z => cases e; cases (show x = V.str z from r); exact .base (.str z)
  | tup ys =>
    obtain ⟨a, vs, rfl, ha, hr⟩ := r
    cases e
    rcases ha with ⟨_, ha⟩ | ⟨o, its, n, h1, h2, _⟩
    · exact .base (.tup ha)
    · exact .kTuple h1 h2
  | lst ys =>
    obtain ⟨a, vs, rfl, ⟨_, ha⟩, hr⟩ := r
    cases e
    exact .base (.lst ha)
  | dct ks ys =>
    obtain ⟨a, kvs, rfl, ⟨_, ha⟩, _⟩ := r
    cases e
    exact .base (.dK ha)
  | rol ys =>
    obtain ⟨a, vs, rfl, ha, hr⟩ := r
    cases e
    rcases ha with ⟨_, ha | ⟨o, ha⟩⟩ | ⟨o, its, n, h1, h2, _⟩
    · exact .base (.lst ha)
    · exact .base (.frz ha)
    · exact .kList h1 h2
  | ref n =>
    obtain ⟨a, rfl, ha⟩ := r
    have e : (match h[n]? with | some (Obj.lst _) => some "list" | none => none) = some t := e
    cases q : h[n]? with
    | none =>
      rw [q] at e
      cases e
    | some o =>
      rw [q] at e
      cases o with
      | lst ys =>
        cases e
        obtain ⟨vs, e1, r1, _⟩ := hp.obj n _ a q ha
        exact .base (.lst e1)
  | ty _ => cases e

/-! ### built-in functions -/
def biName : Bi → Str
  | .abs => "abs" | .max2 => "max" | .min2 => "min" | .len => "len" | .int => "int" | .isi => "isinstance"
def biVal : Bi → Value
  | .abs => .builtin "abs" | .max2 => .builtin "max" | .min2 => .builtin "min" | .len => .builtin "len" | .int => .type "int" | .isi => .builtin "isinstance"
def rBi (C : Gc) (f : Bi) : List V → Hp → VK → Prop := fun xs H Q => ∃ m h vs v, HpOk C m h H ∧ RepL C m H vs xs ∧ biF h f vs = some v ∧ RO C m h H v Q
theorem call_bi (hK : X.K = C.K) (hc : X.calm = true) (f : Bi) : CallR X (biVal f) (rBi C f) := by
  intro pins s σ H xs us Q I r q
  obtain ⟨m, h, vs, w, hp, rv, e, q⟩ := q
  unfold biF at e
  split at e
  · obtain ⟨x1, r1, rfl, h1, rfl⟩ := rv
    cases e
    cases h1
    exact call_abs pins s σ H _ us Q I r ⟨_, rfl, q.now hp (by rfl)⟩
  · obtain ⟨x1, r1, rfl, h1, x2, r2, rfl, h2, rfl⟩ := rv
    cases e
    cases h1
    cases h2
    exact call_max2 hc pins s σ H _ us Q I r ⟨_, _, rfl, q.now hp (by rfl)⟩
  · obtain ⟨x1, r1, rfl, h1, x2, r2, rfl, h2, rfl⟩ := rv
    cases e
    cases h1
    cases h2
    exact call_min2 hc pins s σ H _ us Q I r ⟨_, _, rfl, q.now hp (by rfl)⟩
  · rename_i z
    obtain ⟨x1, r1, rfl, h1, rfl⟩ := rv
    cases (show x1 = V.str z from h1)
    by_cases c : z.length ≤ 16777216
    · rw [if_pos c] at e
      cases e
      exact call_len_str pins s σ H _ us Q I r ⟨z, rfl, c, q.now hp (by rfl)⟩
    · rw [if_neg c] at e
      cases e
  · obtain ⟨x1, r1, rfl, h1, rfl⟩ := rv
    split at e
    · rename_i ys ey
      cases e
      obtain ⟨a, vs, rfl, hs, hr⟩ := seq_at hp h1 ey
      rw [← hK] at hs
      refine call_len_seq pins s σ H _ us Q I r ⟨a, vs, rfl, hs, ?_⟩
      rw [hr.length]
      exact q.now hp (by rfl)
    · cases e
  · obtain ⟨x1, r1, rfl, h1, rfl⟩ := rv
    cases e
    cases h1
    exact call_int1 pins s σ H _ us Q I r (.inl ⟨_, rfl, q.now hp (by rfl)⟩)
  · obtain ⟨x1, r1, rfl, h1, rfl⟩ := rv
    cases e
    cases h1
    exact call_int1 pins s σ H _ us Q I r (.inr ⟨_, rfl, q.now hp (by rfl)⟩)
  · obtain ⟨x1, r1, rfl, h1, x2, r2, rfl, h2, rfl⟩ := rv
    split at e
    · rename_i n t et
      cases h2
      cases ek : kitB t _ with
      | none =>
        rw [ek] at e
        cases e
      | some b =>
        rw [ek] at e
        cases e
        exact call_isi pins s σ H _ us Q I r ⟨_, _, _, _, b, rfl, .ty _, by rw [hK]; exact ty_at hp h1 et, kit_ty ek, q.now hp (by rfl)⟩
    · cases e
  · cases e
end
end MP
/-! MP, expressions: the text that an expression of the small language is read from, and that the layer's reading of this text follows its run. -/
namespace MP
open PySem L2

/-- what stands in the text: the slots' names, the names of the block, the defs' names, built-in names that the module leaves alone -/
structure Stc where
  N : List Str
  ns : List (Str × NameKind)
  tn : List (Str × NameKind)
  fn : List Str
  bn : List Str
  gl : List Str

def visB (ns : List (Str × NameKind)) (x : Str) : Bool := match ns.lookup x with
  | some .local => true
  | some .cell => true
  | some .free => true
  | _ => false
def locB (ns : List (Str × NameKind)) (x : Str) : Bool := match ns.lookup x with
  | some .local => true
  | _ => false
def gloB (ns : List (Str × NameKind)) (x : Str) : Bool := match ns.lookup x with
  | some .globalImplicit => true
  | _ => false
def nameOk (x : Str) : Bool := !(x == ("__debug__" : Str)) && !(x == ("__classdict__" : Str)) && !(x == ("__name__" : Str))
def notStar : Expr → Bool
  | .Starred _ _ => false
  | _ => true
def noSuper : Expr → Bool
  | .Call (.Name id _) [] [] _ => id != "super"
  | _ => true
/-- a test that is asked as a value -/
def valTest : Expr → Bool
  | .Name _ _ => true
  | .Call _ _ _ _ => true
  | .Subscript _ _ _ => true
  | .Attribute _ _ _ => true
  | _ => false
def plainIx : Expr → Bool
  | .Slice _ _ _ _ => false
  | _ => true
def bmName : Bm → Str
  | .bits => "bit_length" | .reverse => "reverse" | .append => "append" | .join => "join"

/-- methods without an argument -/
def bm0 : Bm → Bool
  | .bits => true | .reverse => true | _ => false
/-- a written scalar -/
def chkC (v : Val) (x : Expr) : Bool := match v, x with
  | .int i, .Constant (.int j) _ _ => decide (i = j)
  | .str i, .Constant (.str j) _ _ => decide (i = j)
  | .bl i, .Constant (.bool j) _ _ => decide (i = j)
  | .non, .Constant .none _ _ => true
  | _, _ => false
def chkK (k : L2.Key) (x : Expr) : Bool := match k, x with
  | .inl i, .Constant (.int j) _ _ => decide (i = j)
  | .inr i, .Constant (.str j) _ _ => decide (i = j)
  | _, _ => false
def noMark : CmpOp → Expr → Bool
  | _, .Set _ _ _ => false
  | _, _ => true
def locCB (ns : List (Str × NameKind)) (x : Str) : Bool := match ns.lookup x with
  | some .local => true
  | some .cell => true
  | _ => false
/-- a comprehension's names, as they are read in its block -/
def relab (ns names : List (Str × NameKind)) : List (Str × NameKind) := names.map fun (n, k) => if (k == NameKind.free && ns.lookup n == some .cell) then (n, NameKind.cell) else (n, k)
mutual
def chkTg (g : Stc) : T → Expr → Bool
  | .nm i, x => match x with
    | .Name n _ => decide (g.N[i]? = some n) && locCB g.tn n
    | _ => false
  | .tup ts, x => match x with
    | .Tuple xs _ _ => chkTgs g ts xs
    | _ => false
  | _, _ => false
termination_by structural t => t
def chkTgs (g : Stc) : T → List Expr → Bool
  | .nl, [] => true
  | .cs t r, y :: ys => notStar y && chkTg g t y && chkTgs g r ys
  | _, _ => false
termination_by structural t => t
end
mutual
/-- the slots of a target -/
def tgSlots : T → List Nat
  | .nm i => [i]
  | .nl => []
  | .cs t r => tgSlots t ++ tgSlots r
  | .tup ts => tgSlots ts
end
def notSet : Expr → Bool
  | .Set _ _ _ => false
  | _ => true
mutual
def chkE (g : Stc) : E → Expr → Bool
  | .var i, x => match x with
    | .Name n _ => decide (g.N[i]? = some n) && visB g.ns n && nameOk n
    | _ => false
  | .con v, x => chkC v x
  | .glo y, x => match x with
    | .Name n _ => decide (y = n) && gloB g.ns n && nameOk n && g.gl.contains n
    | _ => false
  | .d0, x => match x with
    | .Dict [] [] _ => true
    | _ => false
  | .d1 k v, x => match x with
    | .Dict [some y] [z] _ => chkK k y && chkC v z
    | _ => false
  | .chn o1 o2 a b d, x => match x with
    | .Compare y [p1, p2] [z, w] _ => decide (o1 = p1) && decide (o2 = p2) && noMark p1 z && noMark p2 w && chkE g a y && chkE g b z && chkE g d w
    | _ => false
  | .sl a lo hi, x => match x with
    | .Subscript y (.Slice p q none _) _ => chkE g a y && chkO g lo p && chkO g hi q
    | _ => false
  | .lc _ t own it cd elt, x => match x with
    | .ListComp z [⟨tg, itx, ifs, 0⟩] sc _ => L2.blkC g.N ⟨.function, g.ns, false, false, []⟩ sc (own.map fun i => (g.N.getD i (Str.ofString ""), i)) && (own.all fun i => decide (i < g.N.length)) && ((tgSlots t).all fun i => own.contains i)
        && notSet itx && chkI g it itx && chkTg ⟨g.N, relab g.ns sc.names, sc.names, g.fn, g.bn, g.gl⟩ t tg && chkIfs ⟨g.N, relab g.ns sc.names, sc.names, g.fn, g.bn, g.gl⟩ cd ifs && chkE ⟨g.N, relab g.ns sc.names, sc.names, g.fn, g.bn, g.gl⟩ elt z
    | _ => false
  | .bt t, x => match x with
    | .Name n _ => gloB g.ns n && nameOk n && g.bn.contains n && decide (bootBuiltins n = some (.type t))
    | _ => false
  | .tup es, x => match x with
    | .Tuple xs _ _ => chkEs g es xs
    | _ => false
  | .lst _ es, x => match x with
    | .List xs _ => chkEs g es xs
    | _ => false
  | .bin op a b, x => match x with
    | .BinOp y o z _ => decide (op = o) && chkE g a y && chkE g b z
    | _ => false
  | .neg a, x => match x with
    | .UnaryOp .USub y _ => chkE g a y
    | _ => false
  | .cmp op a b, x => match x with
    | .Compare y [o] [z] _ => decide (op = o) && noMark o z && chkE g a y && chkE g b z
    | _ => false
  | .and a b, x => match x with
    | .BoolOp .And (y :: ys) p => chkE g a y && (match ys with
      | [] => false
      | [z] => chkE g b z
      | _ => chkE g b (.BoolOp .And ys p))
    | _ => false
  | .or a b, x => match x with
    | .BoolOp .Or (y :: ys) p => chkE g a y && (match ys with
      | [] => false
      | [z] => chkE g b z
      | _ => chkE g b (.BoolOp .Or ys p))
    | _ => false
  | .not a, x => match x with
    | .UnaryOp .Not y _ => chkE g a y
    | _ => false
  | .ife t a b, x => match x with
    | .IfExp c y z _ => chkT g t c && chkE g a y && chkE g b z
    | _ => false
  | .cal f es, x => match x with
    | .Call (.Name n _) ys [] _ => decide (g.fn[f]? = some n) && gloB g.ns n && nameOk n && chkEs g es ys
    | _ => false
  | .bi f es, x => match x with
    | .Call (.Name n _) (y :: ys) [] _ => decide (biName f = n) && gloB g.ns n && g.bn.contains n && chkEs g es (y :: ys)
    | _ => false
  | .bm m o es, x => match es, x with
    | .nl, .Call (.Attribute y n ap) [] [] cp => decide (bmName m = n) && noSuper y && (ap.endLine == cp.line) && bm0 m && chkE g o y
    | .cs a r, .Call (.Attribute y n ap) (z :: zs) [] cp => decide (bmName m = n) && noSuper y && (ap.endLine == cp.line) && !bm0 m && decide (zs.length < 28) && chkE g o y && (notStar z && chkE g a z && chkEs g r zs)
    | _, _ => false
  | .ix a b, x => match x with
    | .Subscript y z _ => plainIx z && chkE g a y && chkE g b z
    | _ => false
  | _, _ => false
termination_by structural e => e
def chkEs (g : Stc) : E → List Expr → Bool
  | .nl, [] => true
  | .cs a r, y :: ys => notStar y && chkE g a y && chkEs g r ys
  | _, _ => false
termination_by structural e => e
def chkO (g : Stc) : E → Option Expr → Bool
  | .nl, none => true
  | .cs a .nl, some y => chkE g a y
  | _, _ => false
termination_by structural e => e
def chkI (g : Stc) : E → Expr → Bool
  | .iSeq e, x => chkE g e x
  | .iRng es, x => match x with
    | .Call (.Name n _) ys [] _ => decide (n = ("range" : Str)) && gloB g.ns n && g.bn.contains n && (decide (ys.length = 1) || decide (ys.length = 2)) && chkEs g es ys
    | _ => false
  | _, _ => false
termination_by structural e => e
def chkIfs (g : Stc) : E → List Expr → Bool
  | .nl, [] => true
  | .tst e, [x] => valTest x && chkE g e x
  | .cmp op a b, [x] => match x with
    | .Compare y [o] [z] _ => decide (op = o) && noMark o z && chkE g a y && chkE g b z
    | _ => false
  | .not a, [x] => match x with
    | .UnaryOp .Not y _ => chkT g a y
    | _ => false
  | _, _ => false
termination_by structural e => e
def chkT (g : Stc) : E → Expr → Bool
  | .tst e, x => valTest x && chkE g e x
  | .chn o1 o2 a b d, x => match x with
    | .Compare y [p1, p2] [z, w] _ => decide (o1 = p1) && decide (o2 = p2) && noMark p1 z && noMark p2 w && chkE g a y && chkE g b z && chkE g d w
    | _ => false
  | .cmp op a b, x => match x with
    | .Compare y [o] [z] _ => decide (op = o) && noMark o z && chkE g a y && chkE g b z
    | _ => false
  | .and a b, x => match x with
    | .BoolOp .And (y :: ys) p => chkT g a y && (match ys with
      | [] => false
      | [z] => chkT g b z
      | _ => chkT g b (.BoolOp .And ys p))
    | _ => false
  | .or a b, x => match x with
    | .BoolOp .Or (y :: ys) p => chkT g a y && (match ys with
      | [] => false
      | [z] => chkT g b z
      | _ => chkT g b (.BoolOp .Or ys p))
    | _ => false
  | .not a, x => match x with
    | .UnaryOp .Not y _ => chkT g a y
    | _ => false
  | _, _ => false
termination_by structural e => e
end
end MP
/-! MP, expressions: the layer's reading of the text follows the run. -/
namespace MP
open PySem L2

/-- the promise of the i-th def by its run -/
def spI (C : Gc) (call : Nat → List Val → Heap → Res Val) (i n : Nat) : Sp := fun vs H Q E => vs.length = n ∧ ∃ m h args, HpOk C m h H ∧ RepL C m H args vs ∧
  RP C (fun cls d _ H' => E cls d H') m H [] (call i args h) fun v h' m' H' => ∀ x, RepV C m' H' v x → Q x H'

/-- where one stands in the text -/
structure Cok (g : Stc) (C : Gc) (Wx : WX) (k : Nat) (c : Cf) (X : Cx) : Prop where
  K : X.K = C.K
  N : X.N = g.N
  nd : g.N.Nodup
  ns : X.env.scope.names = g.ns
  kd : X.env.scope.kind = .function
  calm : X.calm = true
  un : X.A.units + 65 < cLine
  room : Room k X.A
  tk : Takes X Wx
  po : PassesOwn (model X.prog X.w) X.A X.env X.xe
  fnc : ∀ x, locCB g.tn x = true → L2.Loc X.env.scope x ∧ (X.fn x = true ∨ X.env.scope.names.lookup x = some .local)
  bn : ∀ x, g.bn.contains x = true → X.mg x = none
  gl : ∀ x v, g.gl.contains x = true → c.gv x = some v → ∃ y u, X.mg x = some u ∧ RelV y u ∧ ∀ m H h, HpOk C m h H → RepV C m H v y
  fn : ∀ (i : Nat) (x : Str), g.fn[i]? = some x → ∃ f fd ps, X.mg x = some (.ref f) ∧ PySem.W.keepIn X.K (.ref f) = true ∧ Binds X.K fd ps [] ∧
    (∀ args h, c.call i args h = .bad ∨ args.length = ps.length) ∧ FnOk X.prog X.w X.K X.mg X.base (L2.CX X.prog X.w) k f fd ps (spI C c.call i ps.length)

def tE (C : Gc) (Wx : WX) (c : Cf) (e : E) : TE := fun s H Q => ∃ m l h, HpOk C m h H ∧ LocOk C m H l s ∧ RP C Wx m H s (evalE c e l h) fun v h' m' H' => ∀ x, RepV C m' H' v x → Q x H'
def tEs (C : Gc) (Wx : WX) (c : Cf) (e : E) : TA := fun s H Q => ∃ m l h, HpOk C m h H ∧ LocOk C m H l s ∧ RP C Wx m H s (evalEs c e l h) fun v h' m' H' => ∀ x, RepL C m' H' v x → Q x H'
def tT (C : Gc) (Wx : WX) (c : Cf) (e : E) : TT := fun s H Q => ∃ m l h, HpOk C m h H ∧ LocOk C m H l s ∧ RP C Wx m H s (evalT c e l h) fun v h' m' H' => Q v H'

theorem star_of {y : Expr} {ys : List Expr} {env : Env} (h : notStar y = true) : starEach (y :: ys) env = (false, eval y env) :: starEach ys env := by
  cases y <;> first | rfl | cases h
theorem chkEs_star {g : Stc} {env : Env} : ∀ {es : E} {ys : List Expr}, chkEs g es ys = true → ∀ pos, (backTo pos (starEach ys env)).any (·.1) = false
  | .nl, [], _, pos => rfl
  | .cs a r, y :: ys, h, pos => by
    have h2 : (notStar y && chkE g a y && chkEs g r ys) = true := h
    simp only [Bool.and_eq_true] at h2
    rw [star_of h2.1.1]
    show (false || (backTo pos (starEach ys env)).any (·.1)) = false
    rw [chkEs_star h2.2 pos]
    rfl
theorem chkEs_cons {g : Stc} {env : Env} {es : E} {y : Expr} {ys : List Expr} (h : chkEs g es (y :: ys) = true) : starEach (y :: ys) env = (false, eval y env) :: starEach ys env ∧ ∀ pos, (backTo pos (starEach ys env)).any (·.1) = false := by
  cases es with
  | cs a r =>
    have h2 : (notStar y && chkE g a y && chkEs g r ys) = true := h
    simp only [Bool.and_eq_true] at h2
    exact ⟨star_of h2.1.1, chkEs_star h2.2⟩
  | _ => cases h
theorem nameOk_d {x : Str} (h : nameOk x = true) : (x == ("__debug__" : Str)) = false ∧ (x == ("__classdict__" : Str)) = false ∧ x ≠ "__name__" := by
  unfold nameOk at h
  simp only [Bool.and_eq_true, Bool.not_eq_true'] at h
  exact ⟨h.1.1, h.1.2, fun z => by rw [z] at h; simp at h⟩
theorem base_of {o : Expr} {n : Str} {env : Env} (h : noSuper o = true) : attributeBase o n env (eval o env) = eval o env := by
  unfold attributeBase
  split
  · rename_i id p pos
    have z : (id != "super") = true := h
    rw [z]
    rfl
  · rfl

section
variable {C : Gc} {m m1 : List Addr} {H H1 : Hp} {s : St}
/-- what was made is forgotten -/
theorem trim_ok {h h1 : Heap} {l1 : Loc} (e : Evo m H m1 H1) (hp : HpOk C m h H) (hp1 : HpOk C m1 h1 H1) (lo : LocOk C m1 H1 l1 s) : Evo m H m H1 ∧ HpOk C m (h1.take h.length) H1 ∧ LocOk C m H1 (trimL h.length l1) s := by
  obtain ⟨n, en⟩ := e.pre
  have sub : ∀ a o, H1 a = some o → a ∉ m1 → a ∉ m := fun a o _ na z => na (by rw [en]; exact List.mem_append_left _ z)
  have ix : ∀ (k : Nat) a, k < h.length → m1[k]? = some a → m[k]? = some a := fun k a hk q => by
    rw [en, List.getElem?_append_left (by rw [hp.len]; exact hk)] at q
    exact q
  refine ⟨⟨⟨[], by simp⟩, fun a ha na => absurd ha na, e.keep⟩, ⟨?_, hp.nd, fun k o a hk ha => ?_⟩, ⟨?_, fun i v q => ?_⟩⟩
  · have z := hp1.len
    rw [en, List.length_append] at z
    rw [List.length_take, hp.len]
    have := hp.len
    omega
  · have hl : k < h.length := by
      rw [← hp.len]
      exact (List.getElem?_eq_some_iff.mp ha).1
    rw [List.getElem?_take_of_lt hl] at hk
    have ha1 : m1[k]? = some a := by
      rw [en, List.getElem?_append_left (by rw [hp.len]; exact hl)]
      exact ha
    have z := hp1.obj k o a hk ha1
    cases o with
    | lst xs =>
      obtain ⟨vs, e1, r1, p1⟩ := z
      exact ⟨vs, e1, r1.place sub (fun n a hn => absurd hn (Nat.not_lt_zero n)) p1, p1⟩
  · unfold trimL
    rw [List.length_map]
    exact lo.len
  · unfold trimL at q
    rw [List.getElem?_map] at q
    cases q1 : l1[i]? with
    | none => rw [q1] at q; cases q
    | some w =>
      rw [q1] at q
      cases w with
      | none => cases q
      | some u =>
        have q : some (if refsLt h.length u = true then some u else none) = some (some v) := q
        by_cases hu : refsLt h.length u = true
        · rw [if_pos hu] at q
          cases q
          obtain ⟨x, h1, h2⟩ := lo.get i _ q1
          exact ⟨x, h1, h2.place sub ix hu⟩
        · rw [if_neg hu] at q
          cases q
end
/-- an iterator of the layer walks the items xs -/
def Walks (C : Gc) (m : List Addr) (H : Hp) (J : It) (xs : List Val) : Prop := ∀ m' H', Evo m H m' H' → ∀ i : Nat, (xs.length ≤ i → J.stop i H') ∧
  ∀ v, xs[i]? = some v → J.go i H' ∧ ∀ x H2, J.yld i H' x H2 → Evo m' H' m' H2 ∧ (∀ h, HpOk C m' h H' → HpOk C m' h H2) ∧ RepV C m' H2 v x
def tI (C : Gc) (Wx : WX) (c : Cf) (e : E) : TI := fun s H R => ∃ m l h, HpOk C m h H ∧ LocOk C m H l s ∧ RP C Wx m H s (evalI c e l h) fun xs _ m' H' => ∀ J, Walks C m' H' J xs → R J H'
theorem rangeL_len : ∀ (n : Nat) (lo : Int), (rangeL lo n).length = n
  | 0, _ => rfl
  | n + 1, lo => by show (rangeL (lo + 1) n).length + 1 = n + 1; rw [rangeL_len n]
theorem rangeL_get : ∀ (n : Nat) (lo : Int) (i : Nat), i < n → (rangeL lo n)[i]? = some (.int (lo + i))
  | n + 1, lo, 0, _ => by show some (Val.int lo) = _; simp
  | n + 1, lo, i + 1, h => by
    show (rangeL (lo + 1) n)[i]? = _
    rw [rangeL_get n (lo + 1) i (by omega)]
    have e : lo + 1 + (i : Int) = lo + ((i + 1 : Nat) : Int) := by omega
    rw [e]
section
variable {g : Stc} {C : Gc} {Wx : WX} {k : Nat} {c : Cf} {X : Cx}

theorem Cok.vis (ok : Cok g C Wx k c X) {x : Str} (h : visB g.ns x = true) : Vis X.env.scope x := by
  unfold visB at h
  rw [← ok.ns] at h
  unfold Vis
  split at h
  · exact .inl (by assumption)
  · exact .inr (.inl (by assumption))
  · exact .inr (.inr (by assumption))
  · cases h
theorem Cok.glo (ok : Cok g C Wx k c X) {x : Str} (h : gloB g.ns x = true) : Gl X x := by
  unfold gloB at h
  rw [← ok.ns] at h
  show X.env.scope.names.lookup x = some .globalImplicit
  split at h
  · assumption
  · cases h

/-! ### targets -/
theorem wipe_set {s : St} {i : Nat} {o : Option V} : ∀ {vs : List Nat}, i ∈ vs → wipe (s.set i o) vs = wipe s vs
  | [], h => by cases h
  | v :: vs, h => by
    show (wipe (s.set i o) vs).set v none = (wipe s vs).set v none
    by_cases hv : i ∈ vs
    · rw [wipe_set hv]
    · have e : i = v := by
        rcases List.mem_cons.mp h with z | z
        · exact z
        · exact absurd z hv
      subst e
      refine List.ext_getElem? fun j => ?_
      by_cases hj : i = j
      · subst hj
        by_cases hl : i < s.length
        · rw [List.getElem?_set_self (by rw [wipe_length, List.length_set]; exact hl), List.getElem?_set_self (by rw [wipe_length]; exact hl)]
        · rw [List.getElem?_eq_none (by rw [List.length_set, wipe_length, List.length_set]; omega), List.getElem?_eq_none (by rw [List.length_set, wipe_length]; omega)]
      · rw [List.getElem?_set_ne hj, List.getElem?_set_ne hj]
        by_cases hjv : j ∈ vs
        · have z1 : ∀ (t : St) (us : List Nat), j ∈ us → (wipe t us)[j]? = if j < t.length then some none else none := by
            intro t us hu
            induction us with
            | nil => cases hu
            | cons u us ih =>
              show ((wipe t us).set u none)[j]? = _
              by_cases hu2 : u = j
              · subst hu2
                by_cases hl : u < t.length
                · rw [List.getElem?_set_self (by rw [wipe_length]; exact hl), if_pos hl]
                · rw [List.getElem?_eq_none (by rw [List.length_set, wipe_length]; omega), if_neg hl]
              · rw [List.getElem?_set_ne hu2]
                rcases List.mem_cons.mp hu with z | z
                · exact absurd z.symm hu2
                · exact ih z
          rw [z1 _ vs hjv, z1 _ vs hjv, List.length_set]
        · rw [wipe_out hjv, wipe_out hjv, List.getElem?_set_ne hj]
/-- a store changes nothing but the target's slots -/
abbrev Only (t : T) (s s' : St) : Prop := ∀ vs : List Nat, (∀ i ∈ tgSlots t, i ∈ vs) → wipe s' vs = wipe s vs
def gT (C : Gc) (t : T) : TG := fun x s H Q => ∃ m l v l', LocOk C m H l s ∧ RepV C m H v x ∧ store t v l = some l' ∧ ∀ s', LocOk C m H l' s' → Only t s s' → Q s' H
def gTs (C : Gc) (t : T) : TGs := fun xs s H Q => ∃ m l vs l', LocOk C m H l s ∧ RepL C m H vs xs ∧ storeL t vs l = some l' ∧ ∀ s', LocOk C m H l' s' → Only t s s' → Q s' H
theorem PG.imp {tg : Expr} {t t' : TG} (h : PG X tg t) (f : ∀ v s H Q, t' v s H Q → t v s H Q) : PG X tg t' := ⟨fun pins s σ H v u Q I r q => h.run pins s σ H v u Q I r (f _ _ _ _ q)⟩
theorem PGs.imp {tg : List Expr} {t t' : TGs} (h : PGs X tg t) (f : ∀ v s H Q, t' v s H Q → t v s H Q) : PGs X tg t' := ⟨fun pins s σ H v u Q I r q => h.run pins s σ H v u Q I r (f _ _ _ _ q)⟩
theorem each_of {y : Expr} {ys : List Expr} {env : Env} (h : notStar y = true) : assignEach (y :: ys) env = (false, assign y env) :: assignEach ys env := by
  cases y <;> first | rfl | cases h
theorem chkTgs_each {env : Env} : ∀ {ts : T} {ys : List Expr}, chkTgs g ts ys = true → (assignEach ys env).findIdx? (·.1) = none ∧ (assignEach ys env).length = ys.length
  | .nl, [], _ => ⟨rfl, rfl⟩
  | .cs t r, y :: ys, h => by
    have h2 : (notStar y && chkTg g t y && chkTgs g r ys) = true := h
    simp only [Bool.and_eq_true] at h2
    obtain ⟨a, b⟩ := chkTgs_each (env := env) h2.2
    rw [each_of h2.1.1]
    exact ⟨by rw [List.findIdx?_cons]; simp [a], by simp [b]⟩
theorem storeL_len : ∀ {t : T} {vs : List Val} {l l' : Loc} {ys : List Expr}, storeL t vs l = some l' → chkTgs g t ys = true → vs.length = ys.length
  | .nl, vs, l, l', ys, e, h => by
    cases ys with
    | nil =>
      cases vs with
      | nil => rfl
      | cons _ _ => cases e
    | cons _ _ => cases h
  | .cs t r, vs, l, l', ys, e, h => by
    cases ys with
    | nil => cases h
    | cons y ys =>
      cases vs with
      | nil => cases e
      | cons v vs =>
        have h2 : (notStar y && chkTg g t y && chkTgs g r ys) = true := h
        simp only [Bool.and_eq_true] at h2
        have e : (store t v l).bind (fun l1 => storeL r vs l1) = some l' := e
        cases q : store t v l with
        | none => rw [q] at e; cases e
        | some l1 =>
          rw [q] at e
          show vs.length + 1 = ys.length + 1
          rw [storeL_len (t := r) e h2.2]
  | .nm _, vs, l, l', ys, e, h => by cases h
  | .tup _, vs, l, l', ys, e, h => by cases h
mutual
theorem sndTg (ok : Cok g C Wx k c X) : ∀ (t : T) (x : Expr), chkTg g t x = true → PG X x (gT C t)
  | .nm i, x, h => by
    unfold chkTg at h
    split at h
    · rename_i n p
      simp only [Bool.and_eq_true, decide_eq_true_eq] at h
      obtain ⟨h1, h2⟩ := h
      have hL := ok.fnc n h2
      refine PG.imp (pg_name (i := i) (by rw [ok.N]; exact ok.nd) (by rw [ok.N]; exact h1) hL.1 hL.2) fun v s H Q => ?_
      rintro ⟨m, l, w, l', lo, r, e, q⟩
      cases e
      exact q _ (lo.set i r) fun vs hv => wipe_set (hv i (by simp [tgSlots]))
    · cases h
  | .tup ts, x, h => by
    unfold chkTg at h
    split at h
    · rename_i xs n p
      obtain ⟨a, b⟩ := chkTgs_each (env := X.env) h
      refine PG.imp (pg_tup ok.calm (sndTgs ok ts xs h) b a) fun v s H Q => ?_
      rintro ⟨m, l, w, l', lo, r, e, q⟩
      cases w with
      | tup vs =>
        obtain ⟨ad, ys, rfl, ha, hr⟩ := r
        have e : storeL ts vs l = some l' := e
        exact ⟨ad, ys, rfl, by rw [ok.K]; exact ha.sq, by rw [hr.length, storeL_len e h], m, l, vs, l', lo, hr, e, fun s' lo' o => q s' lo' fun us hu => o us (by simpa [tgSlots] using hu)⟩
      | _ => cases e
    · cases h
  | .nl, x, h => by cases h
  | .cs _ _, x, h => by cases h
theorem sndTgs (ok : Cok g C Wx k c X) : ∀ (t : T) (x : List Expr), chkTgs g t x = true → PGs X x (gTs C t)
  | .nl, x, h => by
    cases x with
    | nil =>
      refine PGs.imp pgs_nil fun v s H Q => ?_
      rintro ⟨m, l, w, l', lo, r, e, q⟩
      cases w with
      | nil =>
        cases e
        exact ⟨r, q s lo fun _ _ => rfl⟩
      | cons _ _ => cases e
    | cons _ _ => cases h
  | .cs t r, x, h => by
    cases x with
    | nil => cases h
    | cons y ys =>
      have h2 : (notStar y && chkTg g t y && chkTgs g r ys) = true := h
      simp only [Bool.and_eq_true] at h2
      refine PGs.imp (pgs_cons (sndTg ok t y h2.1.2) (sndTgs ok r ys h2.2) (by rw [each_of h2.1.1]; rfl)) fun v s H Q => ?_
      rintro ⟨m, l, w, l', lo, rr, e, q⟩
      cases w with
      | nil => cases e
      | cons v0 vs =>
        obtain ⟨x0, xs, rfl, r1, r2⟩ := rr
        have e : (store t v0 l).bind (fun l1 => storeL r vs l1) = some l' := e
        cases q1 : store t v0 l with
        | none => rw [q1] at e; cases e
        | some l1 =>
          rw [q1] at e
          exact ⟨x0, xs, rfl, m, l, v0, l1, lo, r1, q1, fun s1 lo1 o1 => ⟨m, l1, vs, l', lo1, r2, e, fun s2 lo2 o2 => q s2 lo2 fun us hu => (o2 us fun i hi => hu i (by simp [tgSlots]; exact .inr hi)).trans (o1 us fun i hi => hu i (by simp [tgSlots]; exact .inl hi))⟩⟩
  | .nm _, x, h => by cases h
  | .tup _, x, h => by cases h
end
theorem fold_no {x : Expr} {env : Env} (h : notSet x = true) (y : Value) : foldedSetIterable x env y = pure y := by cases x <;> first | rfl | cases h
theorem walks_list {m : List Addr} {H : Hp} {a : Addr} {vs : List V} {xs : List Val} (ha : LAt C m H a vs) (r : RepL C m H xs vs) : Walks C m H (Itl C.K a) xs := by
  intro m' H' ev i
  have h1 := (ev.lat ha).sq
  have h2 := r.mono ev
  refine ⟨fun hi => ⟨vs, h1, by rw [h2.length]; exact hi⟩, fun v hv => ?_⟩
  obtain ⟨x, hx, rx⟩ := h2.get hv
  refine ⟨⟨vs, x, h1, hx⟩, fun y H2 ⟨e, f⟩ => ?_⟩
  subst e
  have e2 : x = y := Option.some.inj (hx.symm.trans (f vs h1))
  subst e2
  exact ⟨Evo.refl _ _, fun h q => q, rx⟩
theorem walks_tup {m : List Addr} {H : Hp} {a : Addr} {vs : List V} {xs : List Val} (ha : TAt C m H a vs) (r : RepL C m H xs vs) : Walks C m H (Itt C.K a) xs := by
  intro m' H' ev i
  have h1 := (ev.tat ha).sq
  have h2 := r.mono ev
  refine ⟨fun hi => ⟨vs, h1, by rw [h2.length]; exact hi⟩, fun v hv => ?_⟩
  obtain ⟨x, hx, rx⟩ := h2.get hv
  refine ⟨⟨vs, x, h1, hx⟩, fun y H2 ⟨e, f⟩ => ?_⟩
  subst e
  have e2 : x = y := Option.some.inj (hx.symm.trans (f vs h1))
  subst e2
  exact ⟨Evo.refl _ _, fun h q => q, rx⟩
theorem walks_range {m : List Addr} {H : Hp} {n : Nat} {lo : Int} : Walks C m H (Itr lo n) (rangeL lo n) := by
  intro m' H' ev i
  refine ⟨fun hi => by rw [rangeL_len] at hi; exact hi, fun v hv => ?_⟩
  have hl : i < n := by
    have z := (List.getElem?_eq_some_iff.mp hv).1
    rw [rangeL_len] at z
    exact z
  rw [rangeL_get n lo i hl] at hv
  cases hv
  refine ⟨hl, fun y H2 ⟨e, f⟩ => ?_⟩
  subst e f
  exact ⟨Evo.refl _ _, fun h q => q, rfl⟩
theorem walks_str {m : List Addr} {H : Hp} {x : Str} : Walks C m H (Its x) (x.cps.toList.map fun d => Val.str ⟨#[d]⟩) := by
  intro m' H' ev i
  refine ⟨fun hi => (show x.cps.size ≤ i by simpa using hi), fun v hv => ?_⟩
  rw [List.getElem?_map] at hv
  cases e : x.cps.toList[i]? with
  | none => rw [e] at hv; cases hv
  | some d =>
    rw [e] at hv
    cases hv
    have e2 : x.cps[i]? = some d := by simpa using e
    refine ⟨?_, fun y H2 hy => ?_⟩
    · show i < x.cps.size
      exact (Array.getElem?_eq_some_iff.mp e2).1
    · obtain ⟨e3, d2, e4, e5⟩ := hy
      subst e3 e5
      rw [e2] at e4
      cases e4
      exact ⟨Evo.refl _ _, fun h q => q, rfl⟩
theorem pi_or {tg it : Expr} {t t' : TI} (h : PI X tg it t) (h' : PI X tg it t') : PI X tg it (fun s H R => t s H R ∨ t' s H R) := ⟨fun pins s σ H R I q => by
  rcases q with q | q
  · exact h.run pins s σ H R I q
  · exact h'.run pins s σ H R I q⟩
theorem s_var (ok : Cok g C Wx k c X) {i : Nat} {x : Str} {pos : Pos} (h : (decide (g.N[i]? = some x) && visB g.ns x && nameOk x) = true) : PE X (.Name x pos) (tE C Wx c (.var i)) := by
  simp only [Bool.and_eq_true, decide_eq_true_eq] at h
  obtain ⟨⟨h1, h2⟩, h3⟩ := h
  obtain ⟨d1, d2, _⟩ := nameOk_d h3
  refine PE.imp (pe_var (i := i) (by rw [ok.N]; exact h1) (ok.vis h2) d1 d2) fun s H Q => ?_
  rintro ⟨m, l, h, hp, lo, r⟩
  unfold evalE at r
  split at r
  · rename_i v e
    obtain ⟨x, h1, h2⟩ := lo.get i v e
    exact ⟨x, h1, r.now hp x h2⟩
  · exact r.elim
theorem s_con (ok : Cok g C Wx k c X) {v : Val} {x : Expr} (h : chkC v x = true) : PE X x (tE C Wx c (.con v)) := by
  have fin : ∀ {y : V} (s : St) (H : Hp) (Q : VK), (∀ m, RepV C m H v y) → tE C Wx c (.con v) s H Q → tC y s H Q := by
    rintro y s H Q hr ⟨m, l, h, hp, lo, r⟩
    exact r.now hp y (hr m)
  unfold chkC at h
  split at h
  · have e := of_decide_eq_true h
    subst e
    exact PE.imp pe_int fun s H Q => fin s H Q fun m => rfl
  · have e := of_decide_eq_true h
    subst e
    exact PE.imp pe_str fun s H Q => fin s H Q fun m => rfl
  · have e := of_decide_eq_true h
    subst e
    exact PE.imp pe_bl fun s H Q => fin s H Q fun m => rfl
  · exact PE.imp pe_non fun s H Q => fin s H Q fun m => rfl
  · cases h
theorem s_bt (ok : Cok g C Wx k c X) {t : String} {n : Str} {p : Pos} (h : (gloB g.ns n && nameOk n && g.bn.contains n && decide (bootBuiltins n = some (.type t))) = true) : PE X (.Name n p) (tE C Wx c (.bt t)) := by
  simp only [Bool.and_eq_true, decide_eq_true_eq] at h
  obtain ⟨⟨⟨h1, h2⟩, h3⟩, h4⟩ := h
  obtain ⟨d1, d2, d3⟩ := nameOk_d h2
  refine PE.imp (pe_bltn (v := .ty t) (ok.glo h1) (ok.bn n h3) h4 rfl d3 d1) fun s H Q => ?_
  rintro ⟨m, l, h, hp, lo, r⟩
  exact r.now hp (.ty t) rfl
theorem s_nl : PA X [] (tEs C Wx c .nl) := PA.imp pa_nil fun s H Q => by
  rintro ⟨m, l, h, hp, lo, r⟩
  exact r.now hp [] rfl
theorem s_cs {a r : E} {y : Expr} {ys : List Expr} (h : notStar y = true) (ha : PE X y (tE C Wx c a)) (hr : PA X ys (tEs C Wx c r)) : PA X (y :: ys) (tEs C Wx c (.cs a r)) :=
  PA.imp (pa_cons ha hr (star_of h)) fun s H Q => by
    rintro ⟨m, l, h, hp, lo, r⟩
    unfold evalEs at r
    refine ⟨m, l, h, hp, lo, r.bind.imp fun v h1 m1 H1 ev hp1 q x rx => ?_⟩
    refine ⟨m1, l, h1, hp1, lo.mono ev, q.bind.imp fun vs h2 m2 H2 ev2 hp2 q2 xs rxs => ?_⟩
    exact q2.now hp2 (x :: xs) ⟨x, xs, rfl, rx.mono ev2, rxs⟩
theorem s_tup {es : E} {ys : List Expr} {n : Nat} {p : Pos} (ha : PA X ys (tEs C Wx c es)) : PE X (.Tuple ys n p) (tE C Wx c (.tup es)) :=
  PE.imp (pe_tup ha) fun s H Q => by
    rintro ⟨m, l, h, hp, lo, r⟩
    unfold evalE at r
    refine ⟨m, l, h, hp, lo, r.bind.imp fun vs h1 m1 H1 ev hp1 q xs rx => ?_⟩
    by_cases hl : vs.length ≤ 1000
    · rw [if_pos hl] at q
      refine ⟨Nat.le_trans (by rw [rx.length]; exact hl) (by decide), fun a ha => ?_⟩
      obtain ⟨hp2, ev2⟩ := hp1.lay (u := .tup xs) ha
      exact q _ _ ev2 hp2 _ ⟨a, xs, rfl, .inl ⟨hp1.notIn ha, upd_same⟩, rx.mono ev2⟩
    · rw [if_neg hl] at q
      exact q.elim
theorem s_lst {b : Bool} {es : E} {ys : List Expr} {p : Pos} (ha : PA X ys (tEs C Wx c es)) : PE X (.List ys p) (tE C Wx c (.lst b es)) :=
  PE.imp (pe_lst ha) fun s H Q => by
    rintro ⟨m, l, h, hp, lo, r⟩
    unfold evalE at r
    refine ⟨m, l, h, hp, lo, r.bind.imp fun vs h1 m1 H1 ev hp1 q xs rx => ?_⟩
    by_cases hl : vs.length ≤ 1000
    · rw [if_pos hl] at q
      refine ⟨Nat.le_trans (by rw [rx.length]; exact hl) (by decide), fun a ha => ?_⟩
      cases b with
      | false =>
        obtain ⟨hp2, ev2⟩ := hp1.lay (u := .lst xs) ha
        rw [if_neg Bool.false_ne_true] at q
        exact q _ _ ev2 hp2 _ ⟨a, xs, rfl, ⟨hp1.notIn ha, upd_same⟩, rx.mono ev2⟩
      | true =>
        rw [if_pos rfl] at q
        by_cases hpu : pureL vs = true
        · rw [if_pos hpu] at q
          obtain ⟨hp2, ev2⟩ := hp1.grow ha rx hpu
          refine q _ _ ev2 hp2 _ ⟨a, rfl, ?_⟩
          rw [← hp1.len]
          simp
        · rw [if_neg hpu] at q
          exact q.elim
    · rw [if_neg hl] at q
      exact q.elim
theorem s_bin (ok : Cok g C Wx k c X) {op : Operator} {a b : E} {y z : Expr} {p : Pos} (ha : PE X y (tE C Wx c a)) (hb : PE X z (tE C Wx c b)) : PE X (.BinOp y op z p) (tE C Wx c (.bin op a b)) :=
  PE.imp (pe_op (op_bin ok.K op) ha hb) fun s H Q => by
    rintro ⟨m, l, h, hp, lo, r⟩
    unfold evalE at r
    refine ⟨m, l, h, hp, lo, r.bind.imp fun v h1 m1 H1 ev hp1 q x rx => ?_⟩
    refine ⟨m1, l, h1, hp1, lo.mono ev, q.bind.imp fun w h2 m2 H2 ev2 hp2 q2 y ry => ?_⟩
    cases e : binop h2 op v w with
    | none =>
      rw [e] at q2
      exact q2.elim
    | some u =>
      rw [e] at q2
      exact ⟨m2, h2, v, w, u, hp2, rx.mono ev2, ry, e, fun z H3 ev3 hp3 rz => (show RP C Wx m2 H2 s (.ok u h2) _ from q2) _ _ ev3 hp3 z rz⟩
theorem s_neg {a : E} {y : Expr} {p : Pos} (ha : PE X y (tE C Wx c a)) : PE X (.UnaryOp .USub y p) (tE C Wx c (.neg a)) :=
  PE.imp (pe_un un_neg ha) fun s H Q => by
    rintro ⟨m, l, h, hp, lo, r⟩
    unfold evalE at r
    refine ⟨m, l, h, hp, lo, r.bind.imp fun v h1 m1 H1 ev hp1 q x rx => ?_⟩
    cases v with
    | int i =>
      cases (show x = V.int i from rx)
      exact ⟨i, rfl, fin1 q hp1 rfl⟩
    | _ => exact (show False from q).elim
theorem mark_no {op : CmpOp} {z : Expr} (h : noMark op z = true) : behindInMarks op z = false := by cases z <;> first | rfl | cases h
theorem s_cmp (ok : Cok g C Wx k c X) {op : CmpOp} {a b : E} {y z : Expr} {p : Pos} (n1 : noMark op z = true) (ha : PE X y (tE C Wx c a)) (hb : PE X z (tE C Wx c b)) : PE X (.Compare y [op] [z] p) (tE C Wx c (.cmp op a b)) :=
  PE.imp (pe_cmpR (op_cmp ok.K ok.un op) ha hb (mark_no n1)) fun s H Q => by
    rintro ⟨m, l, h, hp, lo, r⟩
    unfold evalE at r
    refine ⟨m, l, h, hp, lo, r.bind.imp fun v h1 m1 H1 ev hp1 q x rx => ?_⟩
    refine ⟨m1, l, h1, hp1, lo.mono ev, q.bind.imp fun w h2 m2 H2 ev2 hp2 q2 y ry => ?_⟩
    cases e : cmpop h2 op v w with
    | none =>
      rw [e] at q2
      exact q2.elim
    | some u =>
      rw [e] at q2
      exact ⟨m2, h2, v, w, u, hp2, rx.mono ev2, ry, e, fin1 q2 hp2 rfl⟩
theorem s_cmpT (ok : Cok g C Wx k c X) {op : CmpOp} {a b : E} {y z : Expr} {p : Pos} (n1 : noMark op z = true) (ha : PE X y (tE C Wx c a)) (hb : PE X z (tE C Wx c b)) : PT X (.Compare y [op] [z] p) (tT C Wx c (.cmp op a b)) :=
  PT.imp (pt_cmpR (op_cmp ok.K ok.un op) ha hb (mark_no n1)) fun s H Q => by
    rintro ⟨m, l, h, hp, lo, r⟩
    unfold evalT at r
    refine ⟨m, l, h, hp, lo, r.bind.imp fun v h1 m1 H1 ev hp1 q x rx => ?_⟩
    refine ⟨m1, l, h1, hp1, lo.mono ev, q.bind.imp fun w h2 m2 H2 ev2 hp2 q2 y ry => ?_⟩
    cases e : cmpop h2 op v w with
    | none =>
      rw [e] at q2
      exact q2.elim
    | some u =>
      rw [e] at q2
      exact ⟨m2, h2, v, w, u, hp2, rx.mono ev2, ry, e, u, rfl, (show RP C Wx m2 H2 s (.ok u h2) _ from q2).now hp2⟩
theorem last_no {o1 o2 : CmpOp} {z w : Expr} (h : noMark o2 w = true) : lastMarks [o1, o2] [z, w] = false := mark_no h
theorem chn_sub {o1 o2 : CmpOp} {a b d : E} (s : St) (H : Hp) (Q : VK) (z : tE C Wx c (.chn o1 o2 a b d) s H Q) : tChain (rCmp C o1) (rCmp C o2) (tE C Wx c a) (tE C Wx c b) (tE C Wx c d) s H Q := by
  obtain ⟨m, l, h, hp, lo, r⟩ := z
  unfold evalE at r
  refine ⟨m, l, h, hp, lo, r.bind.imp fun v h1 m1 H1 ev hp1 q x rx => ?_⟩
  refine ⟨m1, l, h1, hp1, lo.mono ev, q.bind.imp fun w h2 m2 H2 ev2 hp2 q2 y ry => ?_⟩
  cases e : cmpop h2 o1 v w with
  | none =>
    rw [e] at q2
    exact q2.elim
  | some u =>
    rw [e] at q2
    refine ⟨m2, h2, v, w, u, hp2, rx.mono ev2, ry, e, u, rfl, ?_⟩
    cases u with
    | false => exact fin1 (show RP C Wx m2 H2 s (.ok (.bl false) h2) _ from q2) hp2 rfl
    | true =>
      have q2 : RP C Wx m2 H2 s ((evalE c d l h2).bind fun z h3 => Res.opt (cmpop h3 o2 w z) fun w => .ok (Val.bl w) h3) _ := q2
      refine ⟨m2, l, h2, hp2, (lo.mono ev).mono ev2, q2.bind.imp fun w2 h3 m3 H3 ev3 hp3 q3 y3 ry3 => ?_⟩
      cases e3 : cmpop h3 o2 w w2 with
      | none =>
        rw [e3] at q3
        exact q3.elim
      | some u3 =>
        rw [e3] at q3
        exact ⟨m3, h3, w, w2, u3, hp3, ry.mono ev3, ry3, e3, fin1 q3 hp3 rfl⟩
theorem s_chn (ok : Cok g C Wx k c X) {o1 o2 : CmpOp} {a b d : E} {y z w : Expr} {p : Pos} (n1 : noMark o2 w = true) (ha : PE X y (tE C Wx c a)) (hb : PE X z (tE C Wx c b)) (hd : PE X w (tE C Wx c d)) : PE X (.Compare y [o1, o2] [z, w] p) (tE C Wx c (.chn o1 o2 a b d)) :=
  PE.imp (pe_chain (op_cmp ok.K ok.un o1) (op_cmp ok.K ok.un o2) ha hb hd (last_no n1)) chn_sub
theorem s_chnT (ok : Cok g C Wx k c X) {o1 o2 : CmpOp} {a b d : E} {y z w : Expr} {p : Pos} (n1 : noMark o2 w = true) (ha : PE X y (tE C Wx c a)) (hb : PE X z (tE C Wx c b)) (hd : PE X w (tE C Wx c d)) : PT X (.Compare y [o1, o2] [z, w] p) (tT C Wx c (.chn o1 o2 a b d)) :=
  PT.imp (pt_chain (op_cmp ok.K ok.un o1) (op_cmp ok.K ok.un o2) ha hb hd (last_no n1)) fun s H Q => by
    rintro ⟨m, l, h, hp, lo, r⟩
    unfold evalT at r
    refine ⟨m, l, h, hp, lo, r.bind.imp fun v h1 m1 H1 ev hp1 q x rx => ?_⟩
    refine ⟨m1, l, h1, hp1, lo.mono ev, q.bind.imp fun w h2 m2 H2 ev2 hp2 q2 y ry => ?_⟩
    cases e : cmpop h2 o1 v w with
    | none =>
      rw [e] at q2
      exact q2.elim
    | some u =>
      rw [e] at q2
      refine ⟨m2, h2, v, w, u, hp2, rx.mono ev2, ry, e, u, rfl, ?_⟩
      cases u with
      | false => exact ⟨false, rfl, (show RP C Wx m2 H2 s (.ok false h2) _ from q2).now hp2⟩
      | true =>
        have q2 : RP C Wx m2 H2 s ((evalE c d l h2).bind fun z h3 => Res.opt (cmpop h3 o2 w z) fun w => .ok w h3) _ := q2
        refine ⟨m2, l, h2, hp2, (lo.mono ev).mono ev2, q2.bind.imp fun w2 h3 m3 H3 ev3 hp3 q3 y3 ry3 => ?_⟩
        cases e3 : cmpop h3 o2 w w2 with
        | none =>
          rw [e3] at q3
          exact q3.elim
        | some u3 =>
          rw [e3] at q3
          exact ⟨m3, h3, w, w2, u3, hp3, ry.mono ev3, ry3, e3, u3, rfl, (show RP C Wx m3 H3 s (.ok u3 h3) _ from q3).now hp3⟩
theorem s_glo (ok : Cok g C Wx k c X) {y n : Str} {p : Pos} (h : (decide (y = n) && gloB g.ns n && nameOk n && g.gl.contains n) = true) : PE X (.Name n p) (tE C Wx c (.glo y)) := by
  simp only [Bool.and_eq_true, decide_eq_true_eq] at h
  obtain ⟨⟨⟨h1, h2⟩, h3⟩, h4⟩ := h
  subst h1
  obtain ⟨d1, d2, d3⟩ := nameOk_d h3
  cases e : c.gv y with
  | none =>
    refine ⟨fun pins s σ H Q I q => ?_⟩
    obtain ⟨m, l, h, hp, lo, r⟩ := q
    unfold evalE at r
    rw [e] at r
    exact r.elim
  | some v =>
    obtain ⟨x, u, hm, rx, hr⟩ := ok.gl y v h4 e
    refine PE.imp (pe_glob (ok.glo h2) hm rx d1) fun s H Q => ?_
    rintro ⟨m, l, h, hp, lo, r⟩
    unfold evalE at r
    rw [e] at r
    exact fin1 r hp (hr m H h hp)
theorem s_d0 {p : Pos} : PE X (.Dict [] [] p) (tE C Wx c .d0) :=
  PE.imp pe_dnewK fun s H Q => by
    rintro ⟨m, l, h, hp, lo, r⟩
    intro a ha
    obtain ⟨hp2, ev2⟩ := hp.lay (u := .dK []) ha
    exact fin2 r ev2 hp2 ⟨a, [], rfl, ⟨hp.notIn ha, upd_same⟩, rfl, rfl⟩
theorem k_con {k : L2.Key} {x : Expr} (h : chkK k x = true) : PE X x (tC (kV k)) := by
  unfold chkK at h
  split at h
  · have e := of_decide_eq_true h
    subst e
    exact pe_int
  · have e := of_decide_eq_true h
    subst e
    exact pe_str
  · cases h
theorem v_con {v : Val} {x : Expr} (h : chkC v x = true) : ∃ y, PE X x (tC y) ∧ ∀ m H, RepV C m H v y := by
  unfold chkC at h
  split at h
  · have e := of_decide_eq_true h
    subst e
    exact ⟨_, pe_int, fun m H => rfl⟩
  · have e := of_decide_eq_true h
    subst e
    exact ⟨_, pe_str, fun m H => rfl⟩
  · have e := of_decide_eq_true h
    subst e
    exact ⟨_, pe_bl, fun m H => rfl⟩
  · exact ⟨_, pe_non, fun m H => rfl⟩
  · cases h
theorem s_d1 {kk : L2.Key} {v : Val} {y z : Expr} {p : Pos} (h1 : chkK kk y = true) (h2 : chkC v z = true) : PE X (.Dict [some y] [z] p) (tE C Wx c (.d1 kk v)) := by
  obtain ⟨w, hw, rw'⟩ := v_con (C := C) (X := X) h2
  refine PE.imp (pe_disp (pps_cons (k_con h1) hw pps_nil) rfl rfl (by simp) (by simp)) fun s H Q => ?_
  rintro ⟨m, l, h, hp, lo, r⟩
  intro a ha
  obtain ⟨hp2, ev2⟩ := hp.lay (u := .dK [(kk, w)]) ha
  refine ⟨upd_same, [(kk, w)], rfl, by simp, ?_⟩
  have e : upd (upd H a (.dK [])) a (.dK (mergeK [] [(kk, w)])) = upd H a (.dK [(kk, w)]) := by
    funext b
    by_cases hb : b = a
    · subst hb
      rw [upd_same, upd_same]
      rfl
    · rw [upd_ne hb, upd_ne hb, upd_ne hb]
  rw [e]
  exact fin2 r ev2 hp2 ⟨a, _, rfl, ⟨hp.notIn ha, upd_same⟩, rfl, ⟨w, [], rfl, rw' _ _, rfl⟩⟩
theorem s_and {a b : E} {y z : Expr} {r : List Expr} {p : Pos} (ha : PE X y (tE C Wx c a)) (hb : PE X (.BoolOp .And (z :: r) p) (tE C Wx c b)) : PE X (.BoolOp .And (y :: z :: r) p) (tE C Wx c (.and a b)) :=
  PE.imp (pe_and ha hb) fun s H Q => by
    rintro ⟨m, l, h, hp, lo, r⟩
    unfold evalE at r
    refine ⟨m, l, h, hp, lo, r.bind.imp fun v h1 m1 H1 ev hp1 q x rx => ?_⟩
    cases v with
    | bl t =>
      cases (show x = V.bl t from rx)
      cases t with
      | true => exact ⟨true, rfl, by rw [if_pos rfl]; exact ⟨m1, l, h1, hp1, lo.mono ev, q⟩⟩
      | false => exact ⟨false, rfl, by rw [if_neg Bool.false_ne_true]; exact fin1 q hp1 rfl⟩
    | _ => exact (show False from q).elim
theorem s_or {a b : E} {y z : Expr} {r : List Expr} {p : Pos} (ha : PE X y (tE C Wx c a)) (hb : PE X (.BoolOp .Or (z :: r) p) (tE C Wx c b)) : PE X (.BoolOp .Or (y :: z :: r) p) (tE C Wx c (.or a b)) :=
  PE.imp (pe_or ha hb) fun s H Q => by
    rintro ⟨m, l, h, hp, lo, r⟩
    unfold evalE at r
    refine ⟨m, l, h, hp, lo, r.bind.imp fun v h1 m1 H1 ev hp1 q x rx => ?_⟩
    cases v with
    | bl t =>
      cases (show x = V.bl t from rx)
      cases t with
      | false => exact ⟨false, rfl, by rw [if_neg Bool.false_ne_true]; exact ⟨m1, l, h1, hp1, lo.mono ev, q⟩⟩
      | true => exact ⟨true, rfl, by rw [if_pos rfl]; exact fin1 q hp1 rfl⟩
    | _ => exact (show False from q).elim
theorem s_not {a : E} {y : Expr} {p : Pos} (ha : PE X y (tE C Wx c a)) : PE X (.UnaryOp .Not y p) (tE C Wx c (.not a)) :=
  PE.imp (pe_not ha) fun s H Q => by
    rintro ⟨m, l, h, hp, lo, r⟩
    unfold evalE at r
    refine ⟨m, l, h, hp, lo, r.bind.imp fun v h1 m1 H1 ev hp1 q x rx => ?_⟩
    cases v with
    | bl t =>
      cases (show x = V.bl t from rx)
      exact ⟨t, rfl, fin1 q hp1 rfl⟩
    | _ => exact (show False from q).elim
theorem s_ife {t a b : E} {x y z : Expr} {p : Pos} (ht : PT X x (tT C Wx c t)) (ha : PE X y (tE C Wx c a)) (hb : PE X z (tE C Wx c b)) : PE X (.IfExp x y z p) (tE C Wx c (.ife t a b)) :=
  PE.imp (pe_ifExp ht ha hb) fun s H Q => by
    rintro ⟨m, l, h, hp, lo, r⟩
    unfold evalE at r
    refine ⟨m, l, h, hp, lo, r.bind.imp fun v h1 m1 H1 ev hp1 q => ?_⟩
    cases v with
    | true => rw [if_pos rfl]; exact ⟨m1, l, h1, hp1, lo.mono ev, q⟩
    | false => rw [if_neg Bool.false_ne_true]; exact ⟨m1, l, h1, hp1, lo.mono ev, q⟩
theorem pe_callS0 {CX : CXT} {j : Nat} {f : Addr} {fd : FuncData} {ps : List Str} {sp : Sp} {E : St → XK} {x : Str} {p pos : Pos} (F : FnOk X.prog X.w X.K X.mg X.base CX j f fd ps sp) (hr : Room j X.A) (hg : Gl X x) (hm : X.mg x = some (.ref f)) (hk : PySem.W.keepIn X.K (.ref f) = true) (hb : Binds X.K fd ps []) (hx : ∀ σ, PassesAt CX X σ (E σ))
    (hdb : (x == ("__debug__" : Str)) = false) : PE X (.Call (.Name x p) [] [] pos) (tCallS sp E tNil) := by
  refine ⟨fun pins s σ H Q I h => ?_⟩
  refine PySem.wpAny_Call_Name_kw (ld_glob I hg hm ?_ hdb)
  exact PySem.W.callWith_K0 I.kIn hk (run_fnS (us := []) F hr hb (hx σ) I .nil h)
theorem s_cal (ok : Cok g C Wx k c X) {f : Nat} {es : E} {n : Str} {ys : List Expr} {p p2 : Pos} (h : (decide (g.fn[f]? = some n) && gloB g.ns n && nameOk n) = true) (he : chkEs g es ys = true) (ha : PA X ys (tEs C Wx c es)) :
    PE X (.Call (.Name n p) ys [] p2) (tE C Wx c (.cal f es)) := by
  simp only [Bool.and_eq_true, decide_eq_true_eq] at h
  obtain ⟨⟨h1, h2⟩, h3⟩ := h
  obtain ⟨d1, d2, d3⟩ := nameOk_d h3
  obtain ⟨fa, fd, ps, hm, hk, hb, ar, F⟩ := ok.fn f n h1
  have fin : ∀ m h s H (Q : VK) vs xs, HpOk C m h H → RepL C m H vs xs → RP C Wx m H s (c.call f vs h) (fun v _ m' H' => ∀ x, RepV C m' H' v x → Q x H') → spI C c.call f ps.length xs H Q (WE Wx s) := by
    intro m h s H Q vs xs hp rx q
    refine ⟨?_, m, h, vs, hp, rx, ?_⟩
    · rcases ar vs h with z | z
      · rw [z] at q
        exact q.elim
      · rw [rx.length]
        exact z
    · cases e : c.call f vs h with
      | ok a h2 =>
        rw [e] at q
        exact q
      | exc c2 v h2 =>
        rw [e] at q
        exact q
      | bad =>
        rw [e] at q
        exact q.elim
  cases ys with
  | nil =>
    cases es with
    | nl =>
      refine PE.imp (pe_callS0 F ok.room (ok.glo h2) hm hk hb (fun σ => passAt ok.tk σ) d1) fun s H Q => ?_
      rintro ⟨m, l, h, hp, lo, r⟩
      have r : RP C Wx m H s (c.call f [] h) _ := r
      exact fin m h s H Q [] [] hp rfl r
    | _ => cases he
  | cons y ys =>
    obtain ⟨st, sr⟩ := chkEs_cons (env := X.env) he
    refine PE.imp (pe_callS F ok.room (ok.glo h2) hm hk hb (fun σ => passAt ok.tk σ) ha d1 st (sr _)) fun s H Q => ?_
    rintro ⟨m, l, h, hp, lo, r⟩
    unfold evalE at r
    exact ⟨m, l, h, hp, lo, r.bind.imp fun vs h1 m1 H1 ev hp1 q xs rx => fin m1 h1 s H1 Q vs xs hp1 rx q⟩
theorem s_bi (ok : Cok g C Wx k c X) {f : Bi} {es : E} {n : Str} {y : Expr} {ys : List Expr} {p p2 : Pos} (h : (decide (biName f = n) && gloB g.ns n && g.bn.contains n) = true) (he : chkEs g es (y :: ys) = true) (ha : PA X (y :: ys) (tEs C Wx c es)) :
    PE X (.Call (.Name n p) (y :: ys) [] p2) (tE C Wx c (.bi f es)) := by
  simp only [Bool.and_eq_true, decide_eq_true_eq] at h
  obtain ⟨⟨h1, h2⟩, h3⟩ := h
  subst h1
  obtain ⟨st, sr⟩ := chkEs_cons (env := X.env) he
  have fin : ∀ s H Q, tE C Wx c (.bi f es) s H Q → tCB (rBi C f) (tEs C Wx c es) s H Q := by
    rintro s H Q ⟨m, l, h, hp, lo, r⟩
    unfold evalE at r
    refine ⟨m, l, h, hp, lo, r.bind.imp fun vs h1 m1 H1 ev hp1 q xs rx => ?_⟩
    cases e : biF h1 f vs with
    | none =>
      rw [e] at q
      exact q.elim
    | some u =>
      rw [e] at q
      exact ⟨m1, h1, vs, u, hp1, rx, e, fun z H3 ev3 hp3 rz => (show RP C Wx m1 H1 s (.ok u h1) _ from q) _ _ ev3 hp3 z rz⟩
  have hm := ok.bn _ h3
  have hg := ok.glo h2
  cases f with
  | abs => exact PE.imp (pe_callB (call_bi ok.K ok.calm .abs) hg hm PyProof.Rows.boot_abs ha (by decide) (by decide) st (sr _)) fin
  | max2 => exact PE.imp (pe_callB (call_bi ok.K ok.calm .max2) hg hm PyProof.Rows.boot_max ha (by decide) (by decide) st (sr _)) fin
  | min2 => exact PE.imp (pe_callB (call_bi ok.K ok.calm .min2) hg hm PyProof.Rows.boot_min ha (by decide) (by decide) st (sr _)) fin
  | len => exact PE.imp (pe_callB (call_bi ok.K ok.calm .len) hg hm PySem.boot_len ha (by decide) (by decide) st (sr _)) fin
  | int => exact PE.imp (pe_callTy (call_bi ok.K ok.calm .int) hg hm PyProof.Rows.boot_int ha (by decide) (by decide) st (sr _)) fin
  | isi => exact PE.imp (pe_callB (call_bi ok.K ok.calm .isi) hg hm PyProof.Rows.boot_isinstance ha (by decide) (by decide) st (sr _)) fin
theorem ref_obj {m : List Addr} {h : Heap} {H : Hp} {n : Nat} {x : V} (hp : HpOk C m h H) (r : RepV C m H (.ref n) x) : ∃ a vs, x = .ref a ∧ m[n]? = some a ∧ H a = some (.lst vs) := by
  obtain ⟨a, rfl, ha⟩ := r
  have hl : n < h.length := by
    rw [← hp.len]
    exact (List.getElem?_eq_some_iff.mp ha).1
  have z := hp.obj n h[n] a (List.getElem?_eq_getElem hl) ha
  generalize h[n] = o at z
  cases o with
  | lst xs =>
    obtain ⟨vs, e, _⟩ := z
    exact ⟨a, vs, rfl, ha, e⟩
theorem app_in {m : List Addr} {h h2 : Heap} {H : Hp} {n : Nat} {a : Addr} {v : Val} {y : V} (hp : HpOk C m h H) (ha : m[n]? = some a) (rv : RepV C m H v y) (e : appO h n v = some h2) :
    ∃ vs, H a = some (.lst vs) ∧ vs.length < 100000 ∧ HpOk C m h2 (upd H a (.lst (vs ++ [y]))) := by
  unfold appO at e
  split at e
  · rename_i xs hx
    by_cases hc : pure0 v = true ∧ xs.length < 100000
    · rw [if_pos hc] at e
      cases e
      obtain ⟨vs, e1, r1, p1⟩ := hp.obj n _ a hx ha
      refine ⟨vs, e1, by rw [r1.length]; exact hc.2, (hp.put (o := .lst (xs ++ [v])) ha (RepO.put ha (r1.append ⟨y, [], rfl, rv, rfl⟩) (refsLtL_mem.mpr fun x hx => ?_))).1⟩
      rcases List.mem_append.mp hx with z | z
      · exact refsLtL_mem.mp p1 x z
      · have z : x = v := by simpa using z
        rw [z]
        exact hc.1
    · rw [if_neg hc] at e
      cases e
  · cases e
theorem strs_rep {m : List Addr} {H : Hp} : ∀ {vs : List Val} {xs : List V} {ys : List Str}, RepL C m H vs xs → strsOf vs = some ys → xs = ys.map V.str
  | [], xs, ys, r, e => by cases e; exact r
  | v :: vs, xs, ys, r, e => by
    obtain ⟨x0, r0, rfl, r1, r2⟩ := r
    cases v with
    | str z =>
      have e : ((strsOf vs).map fun ys => z :: ys) = some ys := e
      cases q : strsOf vs with
      | none => rw [q] at e; cases e
      | some zs =>
        rw [q] at e
        cases e
        cases (show x0 = V.str z from r1)
        rw [strs_rep r2 q]
        rfl
    | _ => cases e
theorem s_bm (ok : Cok g C Wx k c X) {b : Bm} {o : E} {n : Str} {y : Expr} {ap cp : Pos} (h : (decide (bmName b = n) && noSuper y && (ap.endLine == cp.line)) = true) (h0 : bm0 b = true) (ha : PE X y (tE C Wx c o)) :
    PE X (.Call (.Attribute y n ap) [] [] cp) (tE C Wx c (.bm b o .nl)) := by
  simp only [Bool.and_eq_true, decide_eq_true_eq] at h
  obtain ⟨⟨h1, h2⟩, h3⟩ := h
  subst h1
  have nil : ∀ {T id : String} {r : V → List V → Hp → VK → Prop}, PlainAttrs T → Slot T (bmName b) id → typeOf (.builtin id) = pure (.type "method_descriptor") → MtR X id r → (∀ m h H x v, bmTy b v = true → HpOk C m h H → RepV C m H v x → tyV X.K T x H) →
      (∀ m h H x v p Q, HpOk C m h H → RepV C m H v x → bmF h b v [] = some p → (∀ z H', Evo m H m H' → HpOk C m p.2 H' → RepV C m H' p.1 z → Q z H') → r x [] H Q) → PE X (.Call (.Attribute y (bmName b) ap) [] [] cp) (tE C Wx c (.bm b o .nl)) := by
    intro T id r pa sl ht hm hty hr
    refine PE.imp (pe_bm0 pa sl ht hm ha (base_of h2) h3) fun s H Q => ?_
    rintro ⟨m, l, h, hp, lo, q⟩
    unfold evalE at q
    refine ⟨m, l, h, hp, lo, q.bind.imp fun v h1 m1 H1 ev hp1 q x rx => ?_⟩
    by_cases hv : bmTy b v = true
    · rw [if_pos hv] at q
      refine ⟨hty m1 h1 H1 x v hv hp1 rx, ?_⟩
      have q : RP C Wx m1 H1 s (Res.opt (bmF h1 b v []) fun p => .ok p.1 p.2) _ := q
      cases e : bmF h1 b v [] with
      | none => rw [e] at q; exact q.elim
      | some p =>
        rw [e] at q
        exact hr m1 h1 H1 x v p Q hp1 rx e fun z H' ev' hp' rz => fin2 q ev' hp' rz
    · rw [if_neg hv] at q
      exact q.elim
  cases b with
  | bits =>
    refine PE.imp (pe_bits ha (base_of h2) h3) fun s H Q => ?_
    rintro ⟨m, l, h, hp, lo, r⟩
    unfold evalE at r
    refine ⟨m, l, h, hp, lo, r.bind.imp fun v h1 m1 H1 ev hp1 q x rx => ?_⟩
    cases v with
    | int i =>
      cases (show x = V.int i from rx)
      exact ⟨i, rfl, fin1 q hp1 rfl⟩
    | _ => exact (show False from q).elim
  | reverse =>
    refine nil PySem.F.plainAttrs_list PySem.F.slot_list_reverse PySem.F.type_list_reverse mt_reverse (fun m h H x v hv hp rx => ?_) (fun m h H x v p Q hp rx e q => ?_)
    · cases v with
      | ref n =>
        obtain ⟨a, vs, rfl, _, e⟩ := ref_obj hp rx
        exact .inl ⟨rfl, vs, SqL.of e⟩
      | _ => cases hv
    · cases v with
      | ref n =>
        obtain ⟨a, rfl, ha⟩ := rx
        have e : (match h[n]? with | some (.lst xs) => some (Val.non, h.set n (.lst xs.reverse)) | none => none) = some p := e
        cases e9 : h[n]? with
        | none => rw [e9] at e; cases e
        | some ob =>
          cases ob with
          | lst xs =>
            rw [e9] at e
            cases e
            obtain ⟨vs, e1, r1, p1⟩ := hp.obj n _ a e9 ha
            refine ⟨a, vs, rfl, rfl, e1, ?_⟩
            exact q _ _ (Evo.put ha) (hp.put (o := .lst xs.reverse) (u := .lst vs.reverse) ha (RepO.put ha r1.reverse (refsLtL_mem.mpr fun x hx => refsLtL_mem.mp p1 x (List.mem_reverse.mp hx)))).1 rfl
      | _ => cases e
  | append => cases h0
  | join => cases h0
theorem few_of {es : E} {z : Expr} {zs : List Expr} {cp : Pos} {env : Env} (h : chkEs g es (z :: zs) = true) (hl : zs.length < 28) :
    ((backTo cp (starEach (z :: zs) env)).all (fun x => !x.1) && (backToKw cp (keywordEach [] env)).all (fun x => x.1.isSome)
      && decide ((z :: zs).length + ([] : List Keyword).length + (if ([] : List Keyword).isEmpty then 0 else 1) < 30)) = true := by
  have h1 := chkEs_star (env := env) h cp
  have h2 : (backTo cp (starEach (z :: zs) env)).all (fun x => !x.1) = true := by
    rw [List.all_eq_true]
    intro x hx
    rw [List.any_eq_false] at h1
    simpa using h1 x hx
  rw [h2]
  have h3 : (backToKw cp (keywordEach [] env)).all (fun x => x.1.isSome) = true := rfl
  rw [h3]
  simp
  omega
theorem s_bm1 (ok : Cok g C Wx k c X) {b : Bm} {o es : E} {n : Str} {y z : Expr} {zs : List Expr} {ap cp : Pos} (h : (decide (bmName b = n) && noSuper y && (ap.endLine == cp.line)) = true) (h0 : bm0 b = false) (hl : zs.length < 28) (ha : PE X y (tE C Wx c o)) (he : chkEs g es (z :: zs) = true)
    (hb : PA X (z :: zs) (tEs C Wx c es)) : PE X (.Call (.Attribute y n ap) (z :: zs) [] cp) (tE C Wx c (.bm b o es)) := by
  simp only [Bool.and_eq_true, decide_eq_true_eq] at h
  obtain ⟨⟨h1, h2⟩, h3⟩ := h
  subst h1
  obtain ⟨st, sr⟩ := chkEs_cons (env := X.env) he
  have any : ∀ {T id : String} {r : V → List V → Hp → VK → Prop}, PlainAttrs T → Slot T (bmName b) id → typeOf (.builtin id) = pure (.type "method_descriptor") → MtR X id r → (∀ m h H x v, bmTy b v = true → HpOk C m h H → RepV C m H v x → tyV X.K T x H) →
      (∀ m h H x v vs xs p Q, HpOk C m h H → RepV C m H v x → RepL C m H vs xs → bmF h b v vs = some p → (∀ z H', Evo m H m H' → HpOk C m p.2 H' → RepV C m H' p.1 z → Q z H') → r x xs H Q) → PE X (.Call (.Attribute y (bmName b) ap) (z :: zs) [] cp) (tE C Wx c (.bm b o es)) := by
    intro T id r pa sl ht hm hty hr
    refine PE.imp (pe_bm pa sl ht hm ha hb (base_of h2) (few_of he hl) h3 st (sr _)) fun s H Q => ?_
    rintro ⟨m, l, h, hp, lo, q⟩
    unfold evalE at q
    refine ⟨m, l, h, hp, lo, q.bind.imp fun v h1 m1 H1 ev hp1 q x rx => ?_⟩
    by_cases hv : bmTy b v = true
    · rw [if_pos hv] at q
      refine ⟨hty m1 h1 H1 x v hv hp1 rx, m1, l, h1, hp1, lo.mono ev, q.bind.imp fun vs h2 m2 H2 ev2 hp2 q xs rxs => ?_⟩
      cases e : bmF h2 b v vs with
      | none => rw [e] at q; exact q.elim
      | some p =>
        rw [e] at q
        exact hr m2 h2 H2 x v vs xs p Q hp2 (rx.mono ev2) rxs e fun z H' ev' hp' rz => fin2 q ev' hp' rz
    · rw [if_neg hv] at q
      exact q.elim
  cases b with
  | bits => cases h0
  | reverse => cases h0
  | append =>
    refine any PySem.F.plainAttrs_list PySem.F.slot_list_append PySem.F.type_list_append mt_append (fun m h H x v hv hp rx => ?_) (fun m h H x v vs xs p Q hp rx rxs e q => ?_)
    · cases v with
      | ref n =>
        obtain ⟨a, vs, rfl, _, e⟩ := ref_obj hp rx
        exact .inl ⟨rfl, vs, SqL.of e⟩
      | _ => cases hv
    · unfold bmF at e
      split at e
      · rename_i e8; cases e8
      · rename_i e8; cases e8
      · rename_i n w _
        cases e9 : appO h n w with
        | none => rw [e9] at e; cases e
        | some h5 =>
          rw [e9] at e
          cases e
          obtain ⟨a, rfl, ha⟩ := rx
          obtain ⟨x1, r1, rfl, rw1, rfl⟩ := rxs
          obtain ⟨us, u1, u2, u3⟩ := app_in hp ha rw1 e9
          exact ⟨a, us, x1, rfl, rfl, u1, Nat.lt_of_lt_of_le u2 (by decide), q _ _ (Evo.put ha) u3 rfl⟩
      · rename_i e8; cases e8
      · cases e
  | join =>
    refine any PySem.F.plainAttrs_str PySem.F.slot_str_join PySem.F.type_str_join mt_join (fun m h H x v hv hp rx => ?_) (fun m h H x v vs xs p Q hp rx rxs e q => ?_)
    · cases v with
      | str n =>
        cases (show x = V.str n from rx)
        rfl
      | _ => cases hv
    · unfold bmF at e
      split at e
      · rename_i e8; cases e8
      · rename_i e8; cases e8
      · rename_i e8; cases e8
      · rename_i a w _
        cases (show x = V.str a from rx)
        split at e
        · rename_i ys hy
          by_cases hc : (ys.map (·.length)).sum + ys.length * a.length ≤ 16777216
          · rw [if_pos hc] at e
            cases e
            obtain ⟨x1, r1, rfl, rw1, rfl⟩ := rxs
            cases q1 : asSeq h w with
            | none => rw [q1] at hy; cases hy
            | some ws =>
              rw [q1] at hy
              obtain ⟨ad, us, rfl, hs, hr⟩ := seq_at hp rw1 q1
              rw [strs_rep hr hy] at hs
              refine ⟨a, ad, ys, rfl, rfl, by rw [ok.K]; exact hs, hc, q _ _ (Evo.refl _ _) hp rfl⟩
          · rw [if_neg hc] at e
            cases e
        · cases e
      · cases e
theorem ix_at {xs : List Val} {vs : List V} {m : List Addr} {H : Hp} {i : Int} {v : Val} (r : RepL C m H xs vs) (e : atI xs i = some v) : ∃ x, atI vs i = some x ∧ RepV C m H v x := by
  unfold atI at e ⊢
  rw [r.length]
  cases q : ixN xs.length i with
  | none =>
    rw [q] at e
    cases e
  | some j =>
    rw [q] at e
    obtain ⟨x, h1, h2⟩ := r.get (i := j) (v := v) e
    exact ⟨x, h1, h2⟩
theorem s_ix (ok : Cok g C Wx k c X) {a b : E} {y z : Expr} {p : Pos} (hz : plainIx z = true) (ha : PE X y (tE C Wx c a)) (hb : PE X z (tE C Wx c b)) : PE X (.Subscript y z p) (tE C Wx c (.ix a b)) :=
  PE.imp (pe_ix ix_seq ha hb (fun o i => by cases z <;> first | rfl | cases hz)) fun s H Q => by
    rintro ⟨m, l, h, hp, lo, r⟩
    unfold evalE at r
    refine ⟨m, l, h, hp, lo, r.bind.imp fun v h1 m1 H1 ev hp1 q x rx => ?_⟩
    refine ⟨m1, l, h1, hp1, lo.mono ev, q.bind.imp fun w h2 m2 H2 ev2 hp2 q2 y ry => ?_⟩
    cases w with
    | int i =>
      cases (show y = V.int i from ry)
      have seqs : RP C Wx m2 H2 s (Res.opt ((asSeq h2 v).bind fun xs => atI xs i) fun v => .ok v h2) (fun v _ m' H' => ∀ x, RepV C m' H' v x → Q x H') → rIx X.K x (.int i) H2 Q := fun q2 => by
        cases e : asSeq h2 v with
        | none =>
          rw [e] at q2
          exact q2.elim
        | some xs =>
          rw [e] at q2
          have q2 : RP C Wx m2 H2 s (Res.opt (atI xs i) fun v => .ok v h2) _ := q2
          cases e2 : atI xs i with
          | none =>
            rw [e2] at q2
            exact q2.elim
          | some u =>
            rw [e2] at q2
            obtain ⟨ad, vs, rfl, hs, hr⟩ := seq_at hp2 (rx.mono ev2) e
            rw [← ok.K] at hs
            obtain ⟨t, t1, t2⟩ := ix_at hr e2
            have q3 := fin1 q2 hp2 t2
            rcases hs with hs | hs
            · exact .inl ⟨ad, vs, i, t, rfl, rfl, hs, t1, q3⟩
            · exact .inr (.inl ⟨ad, vs, i, t, rfl, rfl, hs, t1, q3⟩)
      cases v with
      | str z =>
        cases (show x = V.str z from rx)
        have q2 : RP C Wx m2 H2 s (if z.length ≤ 16777216 then Res.opt (atI z.cps.toList i) fun d => .ok (Val.str ⟨#[d]⟩) h2 else .bad) _ := q2
        by_cases hz : z.length ≤ 16777216
        · rw [if_pos hz] at q2
          cases e2 : atI z.cps.toList i with
          | none =>
            rw [e2] at q2
            exact q2.elim
          | some d =>
            rw [e2] at q2
            exact .inr (.inr ⟨z, i, d, rfl, rfl, hz, e2, fin1 q2 hp2 rfl⟩)
        · rw [if_neg hz] at q2
          exact q2.elim
      | non => exact seqs q2
      | bl _ => exact seqs q2
      | int _ => exact seqs q2
      | tup _ => exact seqs q2
      | lst _ => exact seqs q2
      | rol _ => exact seqs q2
      | dct _ _ => exact seqs q2
      | ref _ => exact seqs q2
      | ty _ => exact seqs q2
    | _ => exact (show False from q2).elim

/-! ### tests -/
theorem tru_at {m : List Addr} {h : Heap} {H : Hp} {v : Val} {x : V} {b : Bool} (hK : X.K = C.K) (hp : HpOk C m h H) (r : RepV C m H v x) (e : truO h v = some b) : TruV X.K x H b := by
  have em : ∀ {xs : List Val} {vs : List V}, RepL C m H xs vs → (!vs.isEmpty) = !xs.isEmpty := fun {xs vs} r => by
    cases xs with
    | nil => cases (show vs = [] from r); rfl
    | cons _ _ => obtain ⟨_, _, rfl, _⟩ := r; rfl
  rw [hK]
  cases v with
  | non => cases e; cases (show x = V.non from r); rfl
  | bl t => cases (show x = V.bl t from r); cases e; rfl
  | int i =>
    cases (show x = V.int i from r)
    cases e
    show decide (i ≠ 0) = (i != 0)
    by_cases hi : i = 0 <;> simp [hi]
  | str z =>
    cases (show x = V.str z from r)
    have e : (if z.length ≤ 16777216 then some (decide (z.length ≠ 0)) else none) = some b := e
    by_cases hz : z.length ≤ 16777216
    · rw [if_pos hz] at e
      cases e
      refine ⟨hz, ?_⟩
      by_cases hi : z.length = 0 <;> simp [hi]
    · rw [if_neg hz] at e
      cases e
  | tup xs =>
    cases e
    obtain ⟨a, vs, rfl, ha, hr⟩ := r
    exact .inr (.inl ⟨vs, ha.sq, (em hr).symm⟩)
  | lst xs =>
    cases e
    obtain ⟨a, vs, rfl, ⟨_, ha⟩, hr⟩ := r
    exact .inl ⟨vs, SqL.of ha, (em hr).symm⟩
  | rol xs =>
    cases e
    obtain ⟨a, vs, rfl, ha, hr⟩ := r
    exact .inl ⟨vs, ha.sq, (em hr).symm⟩
  | dct _ _ => cases e
  | ty _ => cases e
  | ref n =>
    obtain ⟨a, rfl, ha⟩ := r
    have e : (match h[n]? with | some (.lst xs) => some (!xs.isEmpty) | none => none) = some b := e
    cases q : h[n]? with
    | none => rw [q] at e; cases e
    | some o =>
      rw [q] at e
      cases o with
      | lst xs =>
        cases e
        obtain ⟨vs, e1, r1, _⟩ := hp.obj n _ a q ha
        exact .inl ⟨vs, SqL.of e1, (em r1).symm⟩
theorem s_tst (ok : Cok g C Wx k c X) {e : E} {y : Expr} (h : valTest y = true) (ha : PE X y (tE C Wx c e)) : PT X y (tT C Wx c (.tst e)) := by
  refine PT.imp (pt_truth ha (fun w => by cases y <;> first | rfl | cases h)) fun s H Q => ?_
  rintro ⟨m, l, h, hp, lo, r⟩
  unfold evalT at r
  refine ⟨m, l, h, hp, lo, r.bind.imp fun v h1 m1 H1 ev hp1 q x rx => ?_⟩
  cases e : truO h1 v with
  | none => rw [e] at q; exact q.elim
  | some b =>
    rw [e] at q
    exact ⟨b, tru_at ok.K hp1 rx e, (show RP C Wx m1 H1 s (.ok b h1) _ from q).now hp1⟩
theorem s_notT {e : E} {y : Expr} {p : Pos} (ha : PT X y (tT C Wx c e)) : PT X (.UnaryOp .Not y p) (tT C Wx c (.not e)) :=
  PT.imp (pt_not ha) fun s H Q => by
    rintro ⟨m, l, h, hp, lo, r⟩
    unfold evalT at r
    refine ⟨m, l, h, hp, lo, r.bind.imp fun v h1 m1 H1 ev hp1 q => ?_⟩
    exact (show RP C Wx m1 H1 s (.ok (!v) h1) _ from q).now hp1
theorem and_sub {a b : E} (s : St) (H : Hp) (Q : Bool → Hp → Prop) (z : tT C Wx c (.and a b) s H Q) : tAnd (tT C Wx c a) (tT C Wx c b) s H Q := by
  obtain ⟨m, l, h, hp, lo, r⟩ := z
  unfold evalT at r
  refine ⟨m, l, h, hp, lo, r.bind.imp fun v h1 m1 H1 ev hp1 q => ?_⟩
  cases v with
  | true => rw [if_pos rfl]; exact ⟨m1, l, h1, hp1, lo.mono ev, q⟩
  | false => rw [if_neg Bool.false_ne_true]; exact (show RP C Wx m1 H1 s (.ok false h1) _ from q).now hp1
theorem or_sub {a b : E} (s : St) (H : Hp) (Q : Bool → Hp → Prop) (z : tT C Wx c (.or a b) s H Q) : tOr (tT C Wx c a) (tT C Wx c b) s H Q := by
  obtain ⟨m, l, h, hp, lo, r⟩ := z
  unfold evalT at r
  refine ⟨m, l, h, hp, lo, r.bind.imp fun v h1 m1 H1 ev hp1 q => ?_⟩
  cases v with
  | false => rw [if_neg Bool.false_ne_true]; exact ⟨m1, l, h1, hp1, lo.mono ev, q⟩
  | true => rw [if_pos rfl]; exact (show RP C Wx m1 H1 s (.ok true h1) _ from q).now hp1

end
end MP
/-! MP, expressions: parts, comprehensions, and the whole. -/
namespace MP
open PySem L2
section
variable {g : Stc} {C : Gc} {Wx : WX} {k : Nat} {c : Cf} {X : Cx}
/-! ### slices -/
def tO (C : Gc) (Wx : WX) (c : Cf) (e : E) : TO := fun s H Q => ∃ m l h, HpOk C m h H ∧ LocOk C m H l s ∧ RP C Wx m H s (evalO c e l h) fun v h' m' H' => Q v H'
theorem PO.imp {x : Option Expr} {t t' : TO} (h : PO X x t) (f : ∀ s H Q, t' s H Q → t s H Q) : PO X x t' := ⟨fun pins s σ H Q I q => h.run pins s σ H Q I (f _ _ _ q)⟩
theorem s_on : PO X none (tO C Wx c .nl) := PO.imp po_none fun s H Q => by
  rintro ⟨m, l, h, hp, lo, r⟩
  exact r.now hp
theorem s_os {a : E} {y : Expr} (ha : PE X y (tE C Wx c a)) : PO X (some y) (tO C Wx c (.cs a .nl)) := PO.imp (po_some ha) fun s H Q => by
  rintro ⟨m, l, h, hp, lo, r⟩
  unfold evalO at r
  refine ⟨m, l, h, hp, lo, r.bind.imp fun v h1 m1 H1 ev hp1 q x rx => ?_⟩
  cases v with
  | int i =>
    cases (show x = V.int i from rx)
    exact ⟨i, rfl, (show RP C Wx m1 H1 s (.ok (some i) h1) _ from q).now hp1⟩
  | _ => exact (show False from q).elim
theorem RepL.take {m : List Addr} {H : Hp} : ∀ {vs : List Val} {xs : List V} (n : Nat), RepL C m H vs xs → RepL C m H (vs.take n) (xs.take n)
  | [], xs, n, h => by
    cases (show xs = [] from h)
    rw [List.take_nil, List.take_nil]
    exact rfl
  | v :: vs, xs, 0, h => rfl
  | v :: vs, xs, n + 1, h => by
    obtain ⟨y, r, rfl, h1, h2⟩ := h
    exact ⟨y, r.take n, rfl, h1, RepL.take n h2⟩
theorem RepL.drop {m : List Addr} {H : Hp} : ∀ {vs : List Val} {xs : List V} (n : Nat), RepL C m H vs xs → RepL C m H (vs.drop n) (xs.drop n)
  | [], xs, n, h => by
    cases (show xs = [] from h)
    rw [List.drop_nil, List.drop_nil]
    exact rfl
  | v :: vs, xs, 0, h => h
  | v :: vs, xs, n + 1, h => by
    obtain ⟨y, r, rfl, h1, h2⟩ := h
    exact RepL.drop n h2
theorem cut_rep {m : List Addr} {H : Hp} {vs : List Val} {xs : List V} {lo hi : Option Int} (r : RepL C m H vs xs) : RepL C m H (cutL vs lo hi) (cutV xs lo hi) := by
  unfold cutL cutV
  rw [r.length]
  exact (r.drop _).take _
theorem lst_sq {m : List Addr} {h : Heap} {H : Hp} (hp : HpOk C m h H) {v : Val} {x : V} {xs : List Val} (r : RepV C m H v x) (e : asL h v = some xs) : ∃ a vs, x = .ref a ∧ SqL C.K H a vs ∧ RepL C m H xs vs := by
  cases v with
  | lst ys =>
    obtain ⟨a, vs, rfl, ⟨_, ha⟩, hr⟩ := r
    cases e
    exact ⟨a, vs, rfl, SqL.of ha, hr⟩
  | rol ys =>
    obtain ⟨a, vs, rfl, ha, hr⟩ := r
    cases e
    exact ⟨a, vs, rfl, ha.sq, hr⟩
  | ref n =>
    obtain ⟨a, rfl, ha⟩ := r
    have e : (match h[n]? with | some (.lst xs) => some xs | none => none) = some xs := e
    cases q : h[n]? with
    | none =>
      rw [q] at e
      cases e
    | some o =>
      rw [q] at e
      cases o with
      | lst ys =>
        cases e
        obtain ⟨vs, e1, r1, _⟩ := hp.obj n _ a q ha
        exact ⟨a, vs, rfl, SqL.of e1, r1⟩
  | _ => cases e
theorem s_sl (ok : Cok g C Wx k c X) {a lo hi : E} {y : Expr} {x1 x2 : Option Expr} {p p2 : Pos} (ha : PE X y (tE C Wx c a)) (h1 : PO X x1 (tO C Wx c lo)) (h2 : PO X x2 (tO C Wx c hi)) : PE X (.Subscript y (.Slice x1 x2 none p2) p) (tE C Wx c (.sl a lo hi)) :=
  PE.imp (pe_slice (sl_str.or (sl_tupA.or sl_list)) ha h1 h2) fun s H Q => by
    rintro ⟨m, l, h, hp, lo, r⟩
    unfold evalE at r
    refine ⟨m, l, h, hp, lo, r.bind.imp fun v h1 m1 H1 ev hp1 q x rx => ?_⟩
    refine ⟨m1, l, h1, hp1, lo.mono ev, q.bind.imp fun i h2 m2 H2 ev2 hp2 q2 => ?_⟩
    refine ⟨m2, l, h2, hp2, (lo.mono ev).mono ev2, q2.bind.imp fun j h3 m3 H3 ev3 hp3 q3 => ?_⟩
    have rx := (rx.mono ev2).mono ev3
    cases e : slO h3 v i j with
    | none => rw [e] at q3; exact q3.elim
    | some u =>
      rw [e] at q3
      have q3 : RO C m3 h3 H3 u Q := fun z H' ev' hp' rz => fin2 q3 ev' hp' rz
      rw [ok.K]
      have lsts : (asL h3 v).map (fun xs => Val.lst (cutL xs i j)) = some u → rSlL C.K x i j H3 Q := fun e => by
        cases e2 : asL h3 v with
        | none => rw [e2] at e; cases e
        | some xs =>
          rw [e2] at e
          cases e
          obtain ⟨ad, vs, rfl, hs, hr⟩ := lst_sq hp3 rx e2
          exact ⟨ad, vs, rfl, hs, q3.lay hp3 fun p hn hm ev => ⟨p, _, rfl, ⟨hm, upd_same⟩, (cut_rep hr).mono ev⟩⟩
      cases v with
      | str z =>
        have e : (if z.length ≤ 16777216 then some (Val.str (cutS z i j)) else none) = some u := e
        by_cases hz : z.length ≤ 16777216
        · rw [if_pos hz] at e
          cases e
          cases (show x = V.str z from rx)
          exact .inl ⟨z, rfl, hz, q3.now hp3 rfl⟩
        · rw [if_neg hz] at e
          cases e
      | tup xs =>
        cases e
        obtain ⟨ad, vs, rfl, ht, hr⟩ := rx
        refine .inr (.inl ⟨ad, vs, rfl, ht.sq, fun hw => ?_, fun _ => q3.lay hp3 fun p hn hm ev => ⟨p, _, rfl, .inl ⟨hm, upd_same⟩, (cut_rep hr).mono ev⟩⟩)
        refine q3.now hp3 ⟨ad, vs, rfl, ht, ?_⟩
        have e9 : cutV vs i j = vs := by
          unfold cutV
          rw [hw.1, hw.2]
          simp
        have z := cut_rep (lo := i) (hi := j) hr
        rw [e9] at z
        exact z
      | non => exact .inr (.inr (lsts e))
      | bl _ => exact .inr (.inr (lsts e))
      | int _ => exact .inr (.inr (lsts e))
      | lst _ => exact .inr (.inr (lsts e))
      | rol _ => exact .inr (.inr (lsts e))
      | dct _ _ => exact .inr (.inr (lsts e))
      | ref _ => exact .inr (.inr (lsts e))
      | ty _ => exact .inr (.inr (lsts e))
/-! ### what a for walks -/
theorem s_iSeq (ok : Cok g C Wx k c X) {tg x : Expr} {e : E} (P : PE X x (tE C Wx c e)) : PI X tg x (tI C Wx c (.iSeq e)) := by
  refine PI.imp (pi_or (pi_list P) (pi_or (pi_tup P) (pi_str P))) fun s H R => ?_
  rintro ⟨m, l, h, hp, lo, r⟩
  have r : RP C Wx m H s ((evalE c e l h).bind seqItems) _ := r
  cases q : evalE c e l h with
  | ok v h1 =>
    rw [q] at r
    cases v with
    | lst xs =>
      refine .inl ⟨m, l, h, hp, lo, ?_⟩
      rw [q]
      intro m' H' ev hp' x rx
      obtain ⟨a, vs, rfl, ⟨na, ha⟩, hr⟩ := rx
      rw [ok.K]
      exact ⟨a, rfl, ⟨vs, SqL.of ha⟩, (show RP C Wx m H s (.ok xs h1) _ from r) m' H' ev hp' _ (walks_list (.inl ⟨na, .inl ha⟩) hr)⟩
    | rol xs =>
      refine .inl ⟨m, l, h, hp, lo, ?_⟩
      rw [q]
      intro m' H' ev hp' x rx
      obtain ⟨a, vs, rfl, ha, hr⟩ := rx
      rw [ok.K]
      exact ⟨a, rfl, ⟨vs, ha.sq⟩, (show RP C Wx m H s (.ok xs h1) _ from r) m' H' ev hp' _ (walks_list ha hr)⟩
    | tup xs =>
      refine .inr (.inl ⟨m, l, h, hp, lo, ?_⟩)
      rw [q]
      intro m' H' ev hp' x rx
      obtain ⟨a, vs, rfl, ha, hr⟩ := rx
      rw [ok.K]
      exact ⟨a, rfl, ⟨vs, ha.sq⟩, (show RP C Wx m H s (.ok xs h1) _ from r) m' H' ev hp' _ (walks_tup ha hr)⟩
    | str z =>
      refine .inr (.inr ⟨m, l, h, hp, lo, ?_⟩)
      rw [q]
      intro m' H' ev hp' x rx
      exact ⟨z, rx, (show RP C Wx m H s (.ok (z.cps.toList.map fun d => Val.str ⟨#[d]⟩) h1) _ from r) m' H' ev hp' _ walks_str⟩
    | _ => exact (show False from r).elim
  | exc c2 v h1 =>
    rw [q] at r
    refine .inl ⟨m, l, h, hp, lo, ?_⟩
    rw [q]
    exact r
  | bad =>
    rw [q] at r
    exact r.elim
theorem evalEs_len : ∀ {es : E} {ys : List Expr} {l : Loc} {h h1 : Heap} {vs : List Val}, chkEs g es ys = true → evalEs c es l h = .ok vs h1 → vs.length = ys.length
  | .nl, [], l, h, h1, vs, _, e => by
    cases e
    rfl
  | .cs a r, y :: ys, l, h, h1, vs, hk, e => by
    have h2 : (notStar y && chkE g a y && chkEs g r ys) = true := hk
    simp only [Bool.and_eq_true] at h2
    unfold evalEs at e
    cases q : evalE c a l h with
    | ok v h3 =>
      rw [q, bind_ok] at e
      cases q2 : evalEs c r l h3 with
      | ok vs2 h4 =>
        rw [q2, bind_ok] at e
        cases e
        show vs2.length + 1 = ys.length + 1
        rw [evalEs_len h2.2 q2]
      | exc _ _ _ => rw [q2] at e; cases e
      | bad => rw [q2] at e; cases e
    | exc _ _ _ => rw [q] at e; cases e
    | bad => rw [q] at e; cases e
theorem s_iRng (ok : Cok g C Wx k c X) {tg : Expr} {es : E} {n : Str} {p p2 : Pos} {ys : List Expr} (h : (decide (n = ("range" : Str)) && gloB g.ns n && g.bn.contains n && (decide (ys.length = 1) || decide (ys.length = 2))) = true) (he : chkEs g es ys = true) (P : PA X ys (tEs C Wx c es)) :
    PI X tg (.Call (.Name n p) ys [] p2) (tI C Wx c (.iRng es)) := by
  simp only [Bool.and_eq_true, Bool.or_eq_true, decide_eq_true_eq] at h
  obtain ⟨⟨⟨h1, h2⟩, h3⟩, h4⟩ := h
  subst h1
  have fin : ∀ s H R, tI C Wx c (.iRng es) s H R → tEs C Wx c es s H fun xs H' => (ys.length = 1 ∧ ∃ j : Int, xs = [.int j] ∧ -(2 ^ 62) ≤ j ∧ j < 2 ^ 62 ∧ R (Itr 0 j.toNat) H') ∨ (ys.length = 2 ∧ ∃ i j : Int, xs = [.int i, .int j] ∧ (-(2 ^ 62) ≤ i ∧ i < 2 ^ 62 ∧ -(2 ^ 62) ≤ j ∧ j < 2 ^ 62) ∧ R (Itr i (j - i).toNat) H') := by
    rintro s H R ⟨m, l, h, hp, lo, r⟩
    have r : RP C Wx m H s ((evalEs c es l h).bind rngItems) _ := r
    refine ⟨m, l, h, hp, lo, ?_⟩
    cases q : evalEs c es l h with
    | bad => rw [q] at r; exact r
    | exc _ _ _ => rw [q] at r; exact r
    | ok vs h1 =>
      rw [q] at r
      have hl := evalEs_len he q
      intro m' H' ev hp' xs rx
      have z := (show RP C Wx m H s (rngItems vs h1) _ from r).weak ev
      unfold rngItems at z
      split at z
      · rename_i j
        obtain ⟨x0, r0, rfl, rx, rfl⟩ := rx
        cases (show x0 = V.int j from rx)
        by_cases cj : j < 2 ^ 62 ∧ -(2 ^ 62) ≤ j
        · rw [if_pos cj] at z
          exact .inl ⟨hl.symm, j, rfl, cj.2, cj.1, z.now hp' _ walks_range⟩
        · rw [if_neg cj] at z
          exact z.elim
      · rename_i i j
        obtain ⟨x0, r0, rfl, rx, x1, r1, rfl, rx1, rfl⟩ := rx
        cases (show x0 = V.int i from rx)
        cases (show x1 = V.int j from rx1)
        by_cases cj : (j < 2 ^ 62 ∧ -(2 ^ 62) ≤ j) ∧ i < 2 ^ 62 ∧ -(2 ^ 62) ≤ i
        · rw [if_pos cj] at z
          exact .inr ⟨hl.symm, i, j, rfl, ⟨cj.2.2, cj.2.1, cj.1.2, cj.1.1⟩, z.now hp' _ walks_range⟩
        · rw [if_neg cj] at z
          exact z.elim
      · exact z.elim
  have mono : ∀ s H (Q Q' : List V → Hp → Prop), (∀ xs H', Q xs H' → Q' xs H') → tEs C Wx c es s H Q → tEs C Wx c es s H Q' := by
    rintro s H Q Q' f ⟨m, l, h, hp, lo, r⟩
    exact ⟨m, l, h, hp, lo, r.imp fun v h1 m1 H1 ev hp1 q x rx => f _ _ (q x rx)⟩
  rcases h4 with h4 | h4
  · match ys, h4, he, P, fin with
    | [y], _, he, P, fin =>
      have st := (chkEs_cons (env := X.env) he).1
      refine PI.imp (pi_range1 (ok.glo h2) (ok.bn _ h3) P st) fun s H R z => mono _ _ _ _ (fun xs H' q => ?_) (fin s H R z)
      rcases q with q | q
      · exact q.2
      · cases q.1
  · match ys, h4, he, P, fin with
    | [y, y2], _, he, P, fin =>
      cases es with
      | cs a r =>
        have he2 : (notStar y && chkE g a y && chkEs g r [y2]) = true := he
        simp only [Bool.and_eq_true] at he2
        have st2 : starEach [y2] X.env = [(false, eval y2 X.env)] := (chkEs_cons (env := X.env) he2.2).1
        have st : starEach [y, y2] X.env = [(false, eval y X.env), (false, eval y2 X.env)] := by
          rw [(chkEs_cons (env := X.env) he).1, st2]
        refine PI.imp (pi_range2 (ok.glo h2) (ok.bn _ h3) P st st2) fun s H R z => mono _ _ _ _ (fun xs H' q => ?_) (fin s H R z)
        rcases q with q | q
        · cases q.1
        · exact q.2
      | _ => cases he
/-! ### comprehensions -/
abbrev W0 : WX := fun _ _ _ _ => False
theorem RP.noX {A : Type} {m : List Addr} {H : Hp} {s' : St} {r : Res A} {Q : A → Heap → List Addr → Hp → Prop} {a : A} {h : Heap} (e : r.noX = .ok a h) (f : ∀ m' H', Evo m H m' H' → HpOk C m' h H' → Q a h m' H') : RP C Wx m H s' r Q := by
  cases r with
  | ok a2 h2 => cases e; exact f
  | exc _ _ _ => cases e
  | bad => cases e
theorem wipe_loc {m : List Addr} {H : Hp} {l : Loc} {s : St} (lo : LocOk C m H l s) : ∀ vs : List Nat, LocOk C m H (wipeL l vs) (wipe s vs)
  | [] => lo
  | v :: vs => by
    have ih := wipe_loc lo vs
    refine ⟨by show ((wipeL l vs).set v none).length = ((wipe s vs).set v none).length; simp [ih.len], fun i w q => ?_⟩
    have q : ((wipeL l vs).set v none)[i]? = some (some w) := q
    show ∃ x, ((wipe s vs).set v none)[i]? = some (some x) ∧ _
    by_cases hi : v = i
    · subst hi
      by_cases hl : v < (wipeL l vs).length
      · rw [List.getElem?_set_self hl] at q
        cases q
      · rw [List.getElem?_eq_none (by simpa using hl)] at q
        cases q
    · rw [List.getElem?_set_ne hi] at q ⊢
      exact ih.get i w q
theorem wipe_none {s : St} {j : Nat} : ∀ {vs : List Nat}, j ∈ vs → j < s.length → (wipe s vs)[j]? = some none
  | [], h, _ => by cases h
  | v :: vs, h, hl => by
    show ((wipe s vs).set v none)[j]? = _
    by_cases hv : v = j
    · subst hv
      rw [List.getElem?_set_self (by rw [wipe_length]; exact hl)]
    · rw [List.getElem?_set_ne hv]
      rcases List.mem_cons.mp h with z | z
      · exact absurd z.symm hv
      · exact wipe_none z hl
theorem wipe_wipe {s : St} {vs : List Nat} : wipe (wipe s vs) vs = wipe s vs := by
  refine List.ext_getElem? fun j => ?_
  by_cases hl : j < s.length
  · by_cases hj : j ∈ vs
    · rw [wipe_none hj (by rw [wipe_length]; exact hl), wipe_none hj hl]
    · rw [wipe_out hj]
  · rw [List.getElem?_eq_none (by rw [wipe_length, wipe_length]; omega), List.getElem?_eq_none (by rw [wipe_length]; omega)]
/-- the tests of a comprehension -/
def tIfs (C : Gc) (c : Cf) (e : E) : TT := tT C W0 c e
theorem lc_sub {b : Bool} {t : T} {own : List Nat} {it cd elt : E} (ho : ∀ i ∈ tgSlots t, i ∈ own) (s : St) (H : Hp) (Q : VK) (z : tE C Wx c (.lc b t own it cd elt) s H Q) : tLc (tI C Wx c it) (gT C t) (tT C W0 c cd) (tE C W0 c elt) own s H Q := by
  obtain ⟨m, l, h, hp, lo, r⟩ := z
  unfold evalE at r
  refine ⟨m, l, h, hp, lo, r.bind.imp fun xs h1 m1 H1 ev1 hp1 q1 J wk D hD => ?_⟩
  have lo1 := lo.mono ev1
  cases hc : compL (evalT c cd) (evalE c elt) t (wipeL l own) h1.length xs (h1 ++ [.lst []]) with
  | exc c9 v9 h9 =>
    exfalso
    have nox : ∀ (ys : List Val) (hh : Heap), compL (evalT c cd) (evalE c elt) t (wipeL l own) h1.length ys hh ≠ .exc c9 v9 h9 := by
      intro ys
      induction ys with
      | nil => exact fun hh e => by cases e
      | cons y ys ih =>
        intro hh e
        unfold compL at e
        cases e1 : store t y (wipeL l own) with
        | none => rw [e1] at e; cases e
        | some l1 =>
          rw [e1, opt_some] at e
          cases e2 : (evalT c cd l1 hh) with
          | exc _ _ _ => rw [e2] at e; cases e
          | bad => rw [e2] at e; cases e
          | ok bb hh2 =>
            rw [e2, noX_ok, bind_ok] at e
            cases bb with
            | false =>
              rw [if_neg Bool.false_ne_true] at e
              exact ih _ e
            | true =>
              rw [if_pos rfl] at e
              cases e3 : evalE c elt l1 hh2 with
              | exc _ _ _ => rw [e3] at e; cases e
              | bad => rw [e3] at e; cases e
              | ok vv hh3 =>
                rw [e3, noX_ok, bind_ok] at e
                cases e4 : appO hh3 h1.length vv with
                | none => rw [e4] at e; cases e
                | some hh4 =>
                  rw [e4, opt_some] at e
                  exact ih _ e
    exact nox _ _ hc
  | bad =>
    rw [hc] at q1
    exact q1.elim
  | ok uu h2 =>
    rw [hc, bind_ok] at q1
    obtain ⟨hp2, ev2⟩ := hp1.grow (xs := []) (vs := []) hD rfl rfl
    have nD : D ∉ m1 := hp1.notIn hD
    refine ⟨fun i n H => n = xs.length - i ∧ i ≤ xs.length ∧ ∃ m h, Evo (m1 ++ [D]) (upd H1 D (.lst [])) m H ∧ HpOk C m h H ∧ compL (evalT c cd) (evalE c elt) t (wipeL l own) h1.length (xs.drop i) h = .ok uu h2, ⟨xs.length, rfl, Nat.zero_le _, m1 ++ [D], h1 ++ [.lst []], Evo.refl _ _, hp2, by rw [List.drop_zero]; exact hc⟩, ?_⟩
    rintro i n H2 ⟨rfl, hi, m2, hh, ev3, hp3, hcc⟩
    have evA : Evo m1 H1 m2 H2 := ev2.trans ev3
    have hD2 : m2[h1.length]? = some D := ev3.ix (by rw [← hp1.len]; simp)
    obtain ⟨w1, w2⟩ := wk m2 H2 evA i
    by_cases hl : i < xs.length
    · obtain ⟨g1, g2⟩ := w2 xs[i] (List.getElem?_eq_getElem hl)
      rw [List.drop_eq_getElem_cons hl] at hcc
      unfold compL at hcc
      cases e1 : store t xs[i] (wipeL l own) with
      | none => rw [e1] at hcc; cases hcc
      | some l1 =>
        rw [e1, opt_some] at hcc
        refine .inr ⟨g1, fun H' => ∃ m h, Evo (m1 ++ [D]) (upd H1 D (.lst [])) m H' ∧ HpOk C m h H' ∧ compL (evalT c cd) (evalE c elt) t (wipeL l own) h1.length (xs.drop (i + 1)) h = .ok uu h2, ?_, ?_⟩
        · rintro H' ⟨m', h', z⟩
          exact ⟨xs.length - (i + 1), by omega, rfl, hl, m', h', z⟩
        · intro y H3 hy
          obtain ⟨ev4, hh4, rv⟩ := g2 y H3 hy
          have lo3 := wipe_loc ((lo1.mono evA).mono ev4) own
          refine ⟨m2, wipeL l own, xs[i], l1, lo3, rv, e1, fun s' lo' on => ⟨?_, ?_⟩⟩
          · rw [on own ho, wipe_wipe]
          cases e2 : (evalT c cd l1 hh).noX with
          | exc _ _ _ => rw [e2] at hcc; cases hcc
          | bad => rw [e2] at hcc; cases hcc
          | ok bb hh2 =>
            rw [e2, bind_ok] at hcc
            refine ⟨m2, l1, hh, hh4 _ hp3, lo', RP.noX e2 fun m5 H5 ev5 hp5 => ?_⟩
            have lo5 := lo'.mono ev5
            cases bb with
            | false =>
              rw [if_neg Bool.false_ne_true] at hcc
              dsimp only
              rw [if_neg Bool.false_ne_true]
              exact ⟨m5, hh2, (ev3.trans ev4).trans ev5, hp5, hcc⟩
            | true =>
              rw [if_pos rfl] at hcc
              dsimp only
              rw [if_pos rfl]
              cases e3 : (evalE c elt l1 hh2).noX with
              | exc _ _ _ => rw [e3] at hcc; cases hcc
              | bad => rw [e3] at hcc; cases hcc
              | ok vv hh3 =>
                rw [e3, bind_ok] at hcc
                refine ⟨m5, l1, hh2, hp5, lo5, RP.noX e3 fun m6 H6 ev6 hp6 x rx => ?_⟩
                cases e4 : appO hh3 h1.length vv with
                | none => rw [e4] at hcc; cases hcc
                | some hh4 =>
                  rw [e4, opt_some] at hcc
                  have hD6 : m6[h1.length]? = some D := ev6.ix (ev5.ix (ev4.ix hD2))
                  obtain ⟨us, u1, u2, u3⟩ := app_in hp6 hD6 rx e4
                  refine ⟨us, u1, Nat.lt_of_lt_of_le u2 (by decide), m6, hh4, ?_, u3, hcc⟩
                  exact (((ev3.trans ev4).trans ev5).trans ev6).trans (Evo.put hD6)
    · have e : i = xs.length := by omega
      subst e
      rw [List.drop_length] at hcc
      cases hcc
      refine .inl ⟨w1 (Nat.le_refl _), ?_⟩
      unfold compF at q1
      cases b with
      | true =>
        rw [if_pos rfl] at q1
        exact q1 m2 H2 evA hp3 _ ⟨D, rfl, hD2⟩
      | false =>
        rw [if_neg Bool.false_ne_true] at q1
        split at q1
        · rename_i ys hy
          obtain ⟨vs, e1, r1, p1⟩ := hp3.obj _ _ D hy hD2
          obtain ⟨n9, en⟩ := evA.pre
          have t := trim_ok (s := []) (l1 := []) evA hp1 hp3 ⟨rfl, fun i v z => by simp at z⟩
          refine q1 m1 H2 t.1 t.2.1 _ ⟨D, vs, rfl, ⟨nD, e1⟩, ?_⟩
          exact r1.place (fun b o _ nb z => nb (by rw [en]; exact List.mem_append_left _ z)) (fun n a hn => absurd hn (Nat.not_lt_zero n)) p1
        · exact q1.elim
theorem relab_eq {sc : Scope} {env : Env} {ns : List (Str × NameKind)} (hk : env.scope.kind = .function) (hn : env.scope.names = ns) : (relabel sc env).names = relab ns sc.names := by
  unfold relabel relab Env.kindOf
  rw [hk, hn]
  show sc.names.map _ = sc.names.map _
  congr 1
  funext ⟨n, k⟩
  have e : (ScopeKind.function == ScopeKind.function) = true := rfl
  simp [e]
theorem relab_loc {ns : List (Str × NameKind)} {q : NameKind} (hq : q = .local ∨ q = .cell) : ∀ {names : List (Str × NameKind)} {x : Str}, names.lookup x = some q → (relab ns names).lookup x = some q
  | [], _, h => by simp at h
  | (n, k) :: r, x, h => by
    have ih := @relab_loc ns q hq r x
    show List.lookup x ((if (k == NameKind.free && ns.lookup n == some .cell) = true then (n, NameKind.cell) else (n, k)) :: relab ns r) = _
    cases hx : x == n with
    | true =>
      simp only [List.lookup_cons, hx] at h
      cases h
      have e : (q == NameKind.free) = false := by rcases hq with rfl | rfl <;> rfl
      simp [List.lookup_cons, hx, e]
    | false =>
      simp only [List.lookup_cons, hx] at h
      by_cases hc : (k == NameKind.free && ns.lookup n == some .cell) = true
      · rw [if_pos hc]
        simp only [List.lookup_cons, hx]
        exact ih h
      · rw [if_neg hc]
        simp only [List.lookup_cons, hx]
        exact ih h
theorem Cok.blk (ok : Cok g C Wx k c X) {sc : Scope} (hk : sc.kind = .function) (s : Shared) (H : Hp) (a : Addr) (cl : List (Str × Addr)) (fp : List Addr) : Cok ⟨g.N, relab g.ns sc.names, sc.names, g.fn, g.bn, g.gl⟩ C W0 k c (X.blk s H sc (compEnvC sc cl a X.env) fp) := by
  have e : (relabel sc X.env).names = relab g.ns sc.names := relab_eq ok.kd ok.ns
  refine { K := ok.K, N := ok.N, nd := ok.nd, ns := e, kd := hk, calm := ok.calm, un := ok.un, room := ok.room, tk := takes0, po := PassesOwn.never, fnc := fun x hx => ?_, bn := ok.bn, gl := ok.gl, fn := ok.fn }
  have hx : locCB sc.names x = true := hx
  show ((relabel sc X.env).names.lookup x = some .local ∨ (relabel sc X.env).names.lookup x = some .cell) ∧ ((sc.names.lookup x == some .cell) = true ∨ (relabel sc X.env).names.lookup x = some .local)
  rw [e]
  unfold locCB at hx
  split at hx
  · rename_i q
    exact ⟨.inl (relab_loc (.inl rfl) q), .inr (relab_loc (.inl rfl) q)⟩
  · rename_i q
    exact ⟨.inr (relab_loc (.inr rfl) q), .inl (by rw [q]; rfl)⟩
  · cases hx
theorem own_map {f : Nat → Str} : ∀ {own : List Nat}, (own.map fun i => (f i, i)).map (·.2) = own
  | [] => rfl
  | i :: own => by
    show i :: _ = i :: _
    rw [own_map]
theorem blk_ok (ok : Cok g C Wx k c X) {sc : Scope} {own : List (Str × Nat)} (h : blkC g.N ⟨.function, g.ns, false, false, []⟩ sc own = true) : BlkOk X.N X.env.scope sc own := by
  have z := blkOk_by h
  refine ⟨z.kind, z.uniq, by rw [ok.N]; exact z.ix, fun y hy e => ?_, fun y hy e => by rw [ok.N]; exact z.own y hy e⟩
  rw [ok.ns]
  exact z.free y hy e
def isBool : Expr → Bool
  | .BoolOp _ _ _ => true
  | _ => false
mutual
theorem sndE_ : ∀ (e : E) (g : Stc) (Wx : WX) (X : Cx) (ok : Cok g C Wx k c X) (x : Expr), chkE g e x = true → PE X x (tE C Wx c e)
  | .var i, g, Wx, X, ok, x, h => by
    unfold chkE at h
    split at h
    · exact s_var ok h
    · cases h
  | .con v, g, Wx, X, ok, x, h => s_con ok h
  | .glo y, g, Wx, X, ok, x, h => by
    unfold chkE at h
    split at h
    · exact s_glo ok h
    · cases h
  | .d0, g, Wx, X, ok, x, h => by
    unfold chkE at h
    split at h
    · exact s_d0
    · cases h
  | .d1 kk v, g, Wx, X, ok, x, h => by
    unfold chkE at h
    split at h
    · rw [Bool.and_eq_true] at h
      exact s_d1 h.1 h.2
    · cases h
  | .chn o1 o2 a b d, g, Wx, X, ok, x, h => by
    unfold chkE at h
    split at h
    · simp only [Bool.and_eq_true, decide_eq_true_eq] at h
      obtain ⟨⟨⟨⟨⟨⟨h1, h2⟩, h3⟩, h4⟩, h5⟩, h6⟩, h7⟩ := h
      subst h1 h2
      exact s_chn ok h4 (sndE_ a _ _ _ ok _ h5) (sndE_ b _ _ _ ok _ h6) (sndE_ d _ _ _ ok _ h7)
    · cases h
  | .sl a lo hi, g, Wx, X, ok, x, h => by
    unfold chkE at h
    split at h
    · simp only [Bool.and_eq_true] at h
      exact s_sl ok (sndE_ a _ _ _ ok _ h.1.1) (sndO_ lo _ _ _ ok _ h.1.2) (sndO_ hi _ _ _ ok _ h.2)
    · cases h
  | .lc b t own it cd elt, g, Wx, X, ok, x, h => by
    unfold chkE at h
    split at h
    · rename_i z tg itx ifs sc p
      simp only [Bool.and_eq_true] at h
      obtain ⟨⟨⟨⟨⟨⟨⟨h1, h2⟩, h3⟩, h4⟩, h5⟩, h6⟩, h7⟩, h8⟩ := h
      have bo := blk_ok ok h1
      have ho : ∀ i ∈ tgSlots t, i ∈ own := fun i hi => by
        rw [List.all_eq_true] at h3
        simpa using h3 i hi
      refine PE.imp (pe_lc (own := own.map fun i => (g.N.getD i (Str.ofString ""), i)) ok.calm (by rw [ok.N]; exact ok.nd) (sndI_ it _ _ _ ok itx h5 tg) bo
        (fun s H a cl fp => sndTg (ok.blk bo.kind s H a cl fp) t tg h6) (fun s H a cl fp => sndIfs_ cd _ _ _ (ok.blk bo.kind s H a cl fp) ifs h7) (fun s H a cl fp => sndE_ elt _ _ _ (ok.blk bo.kind s H a cl fp) z h8) (fold_no h4)) fun s H Q z => ?_
      rw [own_map]
      exact lc_sub ho s H Q z
    · cases h
  | .bt t, g, Wx, X, ok, x, h => by
    unfold chkE at h
    split at h
    · exact s_bt ok h
    · cases h
  | .nl, g, Wx, X, ok, x, h => by cases h
  | .cs a r, g, Wx, X, ok, x, h => by cases h
  | .tup es, g, Wx, X, ok, x, h => by
    unfold chkE at h
    split at h
    · exact s_tup (sndEs_ es _ _ _ ok _ h)
    · cases h
  | .lst b es, g, Wx, X, ok, x, h => by
    unfold chkE at h
    split at h
    · exact s_lst (sndEs_ es _ _ _ ok _ h)
    · cases h
  | .bin op a b, g, Wx, X, ok, x, h => by
    unfold chkE at h
    split at h
    · simp only [Bool.and_eq_true, decide_eq_true_eq] at h
      obtain ⟨⟨h1, h2⟩, h3⟩ := h
      subst h1
      exact s_bin ok (sndE_ a _ _ _ ok _ h2) (sndE_ b _ _ _ ok _ h3)
    · cases h
  | .neg a, g, Wx, X, ok, x, h => by
    unfold chkE at h
    split at h
    · exact s_neg (sndE_ a _ _ _ ok _ h)
    · cases h
  | .cmp op a b, g, Wx, X, ok, x, h => by
    unfold chkE at h
    split at h
    · simp only [Bool.and_eq_true, decide_eq_true_eq] at h
      obtain ⟨⟨⟨h1, h2⟩, h3⟩, h4⟩ := h
      subst h1
      exact s_cmp ok h2 (sndE_ a _ _ _ ok _ h3) (sndE_ b _ _ _ ok _ h4)
    · cases h
  | .and a b, g, Wx, X, ok, x, h => by
    unfold chkE at h
    split at h
    · rename_i y ys p
      simp only [Bool.and_eq_true] at h
      obtain ⟨h1, h2⟩ := h
      cases ys with
      | nil => cases h2
      | cons z zs =>
        cases zs with
        | nil => exact s_and (sndE_ a _ _ _ ok _ h1) (pe_one (sndE_ b _ _ _ ok _ h2))
        | cons w ws => exact s_and (sndE_ a _ _ _ ok _ h1) (sndE_ b _ _ _ ok _ h2)
    · cases h
  | .or a b, g, Wx, X, ok, x, h => by
    unfold chkE at h
    split at h
    · rename_i y ys p
      simp only [Bool.and_eq_true] at h
      obtain ⟨h1, h2⟩ := h
      cases ys with
      | nil => cases h2
      | cons z zs =>
        cases zs with
        | nil => exact s_or (sndE_ a _ _ _ ok _ h1) (pe_one (sndE_ b _ _ _ ok _ h2))
        | cons w ws => exact s_or (sndE_ a _ _ _ ok _ h1) (sndE_ b _ _ _ ok _ h2)
    · cases h
  | .not a, g, Wx, X, ok, x, h => by
    unfold chkE at h
    split at h
    · exact s_not (sndE_ a _ _ _ ok _ h)
    · cases h
  | .tst e, g, Wx, X, ok, x, h => by cases h
  | .ife t a b, g, Wx, X, ok, x, h => by
    unfold chkE at h
    split at h
    · simp only [Bool.and_eq_true] at h
      obtain ⟨⟨h1, h2⟩, h3⟩ := h
      exact s_ife (sndT_ t _ _ _ ok _ h1).1 (sndE_ a _ _ _ ok _ h2) (sndE_ b _ _ _ ok _ h3)
    · cases h
  | .cal f es, g, Wx, X, ok, x, h => by
    unfold chkE at h
    split at h
    · rw [Bool.and_eq_true] at h
      exact s_cal ok h.1 h.2 (sndEs_ es _ _ _ ok _ h.2)
    · cases h
  | .bi f es, g, Wx, X, ok, x, h => by
    unfold chkE at h
    split at h
    · rw [Bool.and_eq_true] at h
      exact s_bi ok h.1 h.2 (sndEs_ es _ _ _ ok _ h.2)
    · cases h
  | .bm b o es, g, Wx, X, ok, x, h => by
    unfold chkE at h
    split at h
    · rw [Bool.and_eq_true, Bool.and_eq_true] at h
      exact s_bm ok h.1.1 h.1.2 (sndE_ o _ _ _ ok _ h.2)
    · rename_i a r y n ap z zs cp
      simp only [Bool.and_eq_true, decide_eq_true_eq, Bool.not_eq_true'] at h
      obtain ⟨⟨⟨⟨⟨⟨a1, a2⟩, a3⟩, a4⟩, a5⟩, a6⟩, ⟨a7, a8⟩, a9⟩ := h
      have he : chkEs g (.cs a r) (z :: zs) = true := by
        show (notStar z && chkE g a z && chkEs g r zs) = true
        rw [a7, a8, a9]
        rfl
      exact s_bm1 ok (by rw [a2]; simp [a1, a3]) a4 a5 (sndE_ o _ _ _ ok _ a6) he (s_cs a7 (sndE_ a _ _ _ ok _ a8) (sndEs_ r _ _ _ ok _ a9))
    · cases h
  | .ix a b, g, Wx, X, ok, x, h => by
    unfold chkE at h
    split at h
    · simp only [Bool.and_eq_true] at h
      obtain ⟨⟨h1, h2⟩, h3⟩ := h
      exact s_ix ok h1 (sndE_ a _ _ _ ok _ h2) (sndE_ b _ _ _ ok _ h3)
    · cases h
  | .iSeq e, g, Wx, X, ok, x, h => by cases h
  | .iRng es, g, Wx, X, ok, x, h => by cases h
theorem sndEs_ : ∀ (e : E) (g : Stc) (Wx : WX) (X : Cx) (ok : Cok g C Wx k c X) (x : List Expr), chkEs g e x = true → PA X x (tEs C Wx c e)
  | .nl, g, Wx, X, ok, x, h => by
    cases x with
    | nil => exact s_nl
    | cons y ys => cases h
  | .cs a r, g, Wx, X, ok, x, h => by
    cases x with
    | nil => cases h
    | cons y ys =>
      have h2 : (notStar y && chkE g a y && chkEs g r ys) = true := h
      simp only [Bool.and_eq_true] at h2
      exact s_cs h2.1.1 (sndE_ a _ _ _ ok _ h2.1.2) (sndEs_ r _ _ _ ok _ h2.2)
  | .var _, g, Wx, X, ok, x, h | .con _, g, Wx, X, ok, x, h | .bt _, g, Wx, X, ok, x, h | .glo _, g, Wx, X, ok, x, h | .d0, g, Wx, X, ok, x, h | .d1 _ _, g, Wx, X, ok, x, h | .chn _ _ _ _ _, g, Wx, X, ok, x, h | .sl _ _ _, g, Wx, X, ok, x, h | .lc _ _ _ _ _ _, g, Wx, X, ok, x, h | .tup _, g, Wx, X, ok, x, h | .lst _ _, g, Wx, X, ok, x, h | .bin _ _ _, g, Wx, X, ok, x, h | .neg _, g, Wx, X, ok, x, h | .cmp _ _ _, g, Wx, X, ok, x, h | .and _ _, g, Wx, X, ok, x, h | .or _ _, g, Wx, X, ok, x, h | .not _, g, Wx, X, ok, x, h | .tst _, g, Wx, X, ok, x, h | .ife _ _ _, g, Wx, X, ok, x, h
  | .cal _ _, g, Wx, X, ok, x, h | .bi _ _, g, Wx, X, ok, x, h | .bm _ _ _, g, Wx, X, ok, x, h | .ix _ _, g, Wx, X, ok, x, h | .iSeq _, g, Wx, X, ok, x, h | .iRng _, g, Wx, X, ok, x, h => by cases h
theorem sndO_ : ∀ (e : E) (g : Stc) (Wx : WX) (X : Cx) (ok : Cok g C Wx k c X) (x : Option Expr), chkO g e x = true → PO X x (tO C Wx c e)
  | .nl, g, Wx, X, ok, x, h => by
    cases x with
    | none => exact s_on
    | some y => cases h
  | .cs a r, g, Wx, X, ok, x, h => by
    cases r with
    | nl =>
      cases x with
      | none => cases h
      | some y => exact s_os (sndE_ a _ _ _ ok y h)
    | _ => cases h
  | .var _, g, Wx, X, ok, x, h | .con _, g, Wx, X, ok, x, h | .bt _, g, Wx, X, ok, x, h | .glo _, g, Wx, X, ok, x, h | .d0, g, Wx, X, ok, x, h | .d1 _ _, g, Wx, X, ok, x, h | .chn _ _ _ _ _, g, Wx, X, ok, x, h | .sl _ _ _, g, Wx, X, ok, x, h | .lc _ _ _ _ _ _, g, Wx, X, ok, x, h | .tup _, g, Wx, X, ok, x, h | .lst _ _, g, Wx, X, ok, x, h | .bin _ _ _, g, Wx, X, ok, x, h | .neg _, g, Wx, X, ok, x, h | .cmp _ _ _, g, Wx, X, ok, x, h | .and _ _, g, Wx, X, ok, x, h | .or _ _, g, Wx, X, ok, x, h | .not _, g, Wx, X, ok, x, h | .tst _, g, Wx, X, ok, x, h | .ife _ _ _, g, Wx, X, ok, x, h
  | .cal _ _, g, Wx, X, ok, x, h | .bi _ _, g, Wx, X, ok, x, h | .bm _ _ _, g, Wx, X, ok, x, h | .ix _ _, g, Wx, X, ok, x, h | .iSeq _, g, Wx, X, ok, x, h | .iRng _, g, Wx, X, ok, x, h => by cases h
theorem sndI_ : ∀ (e : E) (g : Stc) (Wx : WX) (X : Cx) (ok : Cok g C Wx k c X) (x : Expr), chkI g e x = true → ∀ tg : Expr, PI X tg x (tI C Wx c e)
  | .iSeq e, g, Wx, X, ok, x, h => fun tg => s_iSeq ok (sndE_ e _ _ _ ok x h)
  | .iRng es, g, Wx, X, ok, x, h => by
    unfold chkI at h
    split at h
    · rw [Bool.and_eq_true] at h
      exact fun tg => s_iRng ok h.1 h.2 (sndEs_ es _ _ _ ok _ h.2)
    · cases h
  | .var _, g, Wx, X, ok, x, h | .con _, g, Wx, X, ok, x, h | .bt _, g, Wx, X, ok, x, h | .glo _, g, Wx, X, ok, x, h | .d0, g, Wx, X, ok, x, h | .d1 _ _, g, Wx, X, ok, x, h | .chn _ _ _ _ _, g, Wx, X, ok, x, h | .sl _ _ _, g, Wx, X, ok, x, h | .lc _ _ _ _ _ _, g, Wx, X, ok, x, h | .tup _, g, Wx, X, ok, x, h | .lst _ _, g, Wx, X, ok, x, h | .bin _ _ _, g, Wx, X, ok, x, h | .neg _, g, Wx, X, ok, x, h | .cmp _ _ _, g, Wx, X, ok, x, h | .and _ _, g, Wx, X, ok, x, h | .or _ _, g, Wx, X, ok, x, h | .not _, g, Wx, X, ok, x, h | .tst _, g, Wx, X, ok, x, h | .ife _ _ _, g, Wx, X, ok, x, h
  | .cal _ _, g, Wx, X, ok, x, h | .bi _ _, g, Wx, X, ok, x, h | .bm _ _ _, g, Wx, X, ok, x, h | .ix _ _, g, Wx, X, ok, x, h | .nl, g, Wx, X, ok, x, h | .cs _ _, g, Wx, X, ok, x, h => by cases h
theorem sndIfs_ : ∀ (e : E) (g : Stc) (Wx : WX) (X : Cx) (ok : Cok g C Wx k c X) (x : List Expr), chkIfs g e x = true → PTs X x (tT C Wx c e)
  | .nl, g, Wx, X, ok, x, h => by
    cases x with
    | nil =>
      refine ⟨fun pins s σ H Q I q => pts_nil.run pins s σ H Q I ?_⟩
      obtain ⟨m, l, h, hp, lo, r⟩ := q
      exact (show RP C Wx m H σ (.ok true h) _ from r).now hp
    | cons _ _ => cases h
  | .tst e, g, Wx, X, ok, x, h => by
    match x, h with
    | [y], h =>
      have h2 : (valTest y && chkE g e y) = true := h
      rw [Bool.and_eq_true] at h2
      exact pts_one (s_tst ok h2.1 (sndE_ e _ _ _ ok _ h2.2))
  | .cmp op a b, g, Wx, X, ok, x, h => by
    match x, h with
    | [y], h =>
      unfold chkIfs at h
      split at h
      · simp only [Bool.and_eq_true, decide_eq_true_eq] at h
        obtain ⟨⟨⟨h1, h2⟩, h3⟩, h4⟩ := h
        subst h1
        exact pts_one (s_cmpT ok h2 (sndE_ a _ _ _ ok _ h3) (sndE_ b _ _ _ ok _ h4))
      · cases h
  | .not a, g, Wx, X, ok, x, h => by
    match x, h with
    | [y], h =>
      unfold chkIfs at h
      split at h
      · exact pts_one (s_notT (sndT_ a _ _ _ ok _ h).1)
      · cases h
  | .var _, g, Wx, X, ok, x, h | .con _, g, Wx, X, ok, x, h | .bt _, g, Wx, X, ok, x, h | .glo _, g, Wx, X, ok, x, h | .d0, g, Wx, X, ok, x, h | .d1 _ _, g, Wx, X, ok, x, h | .chn _ _ _ _ _, g, Wx, X, ok, x, h | .sl _ _ _, g, Wx, X, ok, x, h | .lc _ _ _ _ _ _, g, Wx, X, ok, x, h | .cs _ _, g, Wx, X, ok, x, h | .tup _, g, Wx, X, ok, x, h | .lst _ _, g, Wx, X, ok, x, h | .bin _ _ _, g, Wx, X, ok, x, h | .neg _, g, Wx, X, ok, x, h | .and _ _, g, Wx, X, ok, x, h | .or _ _, g, Wx, X, ok, x, h | .ife _ _ _, g, Wx, X, ok, x, h
  | .cal _ _, g, Wx, X, ok, x, h | .bi _ _, g, Wx, X, ok, x, h | .bm _ _ _, g, Wx, X, ok, x, h | .ix _ _, g, Wx, X, ok, x, h | .iSeq _, g, Wx, X, ok, x, h | .iRng _, g, Wx, X, ok, x, h => by cases h
theorem sndT_ : ∀ (e : E) (g : Stc) (Wx : WX) (X : Cx) (ok : Cok g C Wx k c X) (x : Expr), chkT g e x = true → PT X x (tT C Wx c e) ∧ (isBool x = true → PW X x (tT C Wx c e))
  | .tst e, g, Wx, X, ok, x, h => by
    have h2 : (valTest x && chkE g e x) = true := h
    rw [Bool.and_eq_true] at h2
    exact ⟨s_tst ok h2.1 (sndE_ e _ _ _ ok _ h2.2), fun z => by cases x <;> first | (simp [isBool] at z; done) | (simp [valTest] at h2; done)⟩
  | .cmp op a b, g, Wx, X, ok, x, h => by
    unfold chkT at h
    split at h
    · simp only [Bool.and_eq_true, decide_eq_true_eq] at h
      obtain ⟨⟨⟨h1, h2⟩, h3⟩, h4⟩ := h
      subst h1
      exact ⟨s_cmpT ok h2 (sndE_ a _ _ _ ok _ h3) (sndE_ b _ _ _ ok _ h4), fun z => by cases z⟩
    · cases h
  | .and a b, g, Wx, X, ok, x, h => by
    unfold chkT at h
    split at h
    · rename_i y ys p
      simp only [Bool.and_eq_true] at h
      obtain ⟨h1, h2⟩ := h
      have w : PW X (.BoolOp .And (y :: ys) p) (tT C Wx c (.and a b)) := by
        cases ys with
        | nil => cases h2
        | cons z zs =>
          cases zs with
          | nil => exact PW.imp (pw_and (sndT_ a _ _ _ ok _ h1).1 (pw_and1 (sndT_ b _ _ _ ok _ h2).1)) and_sub
          | cons w ws => exact PW.imp (pw_and (sndT_ a _ _ _ ok _ h1).1 ((sndT_ b _ _ _ ok _ h2).2 rfl)) and_sub
      exact ⟨w.pt, fun _ => w⟩
    · cases h
  | .or a b, g, Wx, X, ok, x, h => by
    unfold chkT at h
    split at h
    · rename_i y ys p
      simp only [Bool.and_eq_true] at h
      obtain ⟨h1, h2⟩ := h
      have w : PW X (.BoolOp .Or (y :: ys) p) (tT C Wx c (.or a b)) := by
        cases ys with
        | nil => cases h2
        | cons z zs =>
          cases zs with
          | nil => exact PW.imp (pw_or (sndT_ a _ _ _ ok _ h1).1 (pw_or1 (sndT_ b _ _ _ ok _ h2).1)) or_sub
          | cons w ws => exact PW.imp (pw_or (sndT_ a _ _ _ ok _ h1).1 ((sndT_ b _ _ _ ok _ h2).2 rfl)) or_sub
      exact ⟨w.pt, fun _ => w⟩
    · cases h
  | .not a, g, Wx, X, ok, x, h => by
    unfold chkT at h
    split at h
    · exact ⟨s_notT (sndT_ a _ _ _ ok _ h).1, fun z => by cases z⟩
    · cases h
  | .chn o1 o2 a b d, g, Wx, X, ok, x, h => by
    unfold chkT at h
    split at h
    · simp only [Bool.and_eq_true, decide_eq_true_eq] at h
      obtain ⟨⟨⟨⟨⟨⟨h1, h2⟩, h3⟩, h4⟩, h5⟩, h6⟩, h7⟩ := h
      subst h1 h2
      exact ⟨s_chnT ok h4 (sndE_ a _ _ _ ok _ h5) (sndE_ b _ _ _ ok _ h6) (sndE_ d _ _ _ ok _ h7), fun z => by cases z⟩
    · cases h
  | .var _, g, Wx, X, ok, x, h | .con _, g, Wx, X, ok, x, h | .bt _, g, Wx, X, ok, x, h | .glo _, g, Wx, X, ok, x, h | .d0, g, Wx, X, ok, x, h | .d1 _ _, g, Wx, X, ok, x, h | .sl _ _ _, g, Wx, X, ok, x, h | .lc _ _ _ _ _ _, g, Wx, X, ok, x, h | .nl, g, Wx, X, ok, x, h | .cs _ _, g, Wx, X, ok, x, h | .tup _, g, Wx, X, ok, x, h | .lst _ _, g, Wx, X, ok, x, h | .bin _ _ _, g, Wx, X, ok, x, h | .neg _, g, Wx, X, ok, x, h | .ife _ _ _, g, Wx, X, ok, x, h
  | .cal _ _, g, Wx, X, ok, x, h | .bi _ _, g, Wx, X, ok, x, h | .bm _ _ _, g, Wx, X, ok, x, h | .ix _ _, g, Wx, X, ok, x, h | .iSeq _, g, Wx, X, ok, x, h | .iRng _, g, Wx, X, ok, x, h => by cases h
end
theorem sndE (ok : Cok g C Wx k c X) (e : E) (x : Expr) (h : chkE g e x = true) : PE X x (tE C Wx c e) := sndE_ e g Wx X ok x h
theorem sndEs (ok : Cok g C Wx k c X) (e : E) (x : List Expr) (h : chkEs g e x = true) : PA X x (tEs C Wx c e) := sndEs_ e g Wx X ok x h
theorem sndT (ok : Cok g C Wx k c X) (e : E) (x : Expr) (h : chkT g e x = true) : PT X x (tT C Wx c e) := (sndT_ e g Wx X ok x h).1
theorem sndI (ok : Cok g C Wx k c X) (e : E) (x : Expr) (h : chkI g e x = true) (tg : Expr) : PI X tg x (tI C Wx c e) := sndI_ e g Wx X ok x h tg
theorem sndIfs (ok : Cok g C Wx k c X) (e : E) (x : List Expr) (h : chkIfs g e x = true) : PTs X x (tT C Wx c e) := sndIfs_ e g Wx X ok x h
end
end MP
/-! MP, statements. -/
namespace MP
open PySem L2

def noComp : Expr → Bool
  | .ListComp _ _ _ _ => false
  | .SetComp _ _ _ _ => false
  | .DictComp _ _ _ _ _ => false
  | _ => true
/-- a tuple of written things on the right of a tuple of names -/
def tupFolds : Expr → Expr → Bool
  | .Tuple _ _ _, .Tuple vs _ _ => !(vs.any fun | .Starred .. => true | _ => false) && vs.all (foldedForSure 8)
  | _, _ => true
mutual
def chkS (g : Stc) : S → Stmt → Bool
  | .asg t e, st => match st with
    | .Assign [x] y _ => (match t, x with
        | .nm _, .Name _ _ => true
        | .tup _, .Tuple _ _ _ => tupFolds x y
        | _, _ => false) && noComp y && chkTg g t x && chkE g e y
    | _ => false
  | .asgc i e, st => match st with
    | .Assign [.Name x px] y _ => (match y with
        | .ListComp _ _ sc p => (px.line == p.line) && !(sc.names.any fun (n, k) => n == x && (k == .local || k == .cell))
        | _ => false) && decide (g.N[i]? = some x) && locB g.ns x && chkE g e y
    | _ => false
  | .par i j es, st => match st with
    | .Assign [.Tuple [.Name x px, .Name y py] _ _] (.Tuple [u, v] _ _) _ =>
      decide (g.N[i]? = some x) && decide (g.N[j]? = some y) && decide (i ≠ j) && decide (x ≠ y) && locB g.ns x && locB g.ns y && (py.line == px.line) && notStar u && notStar v
        && !([u, v].all (foldedForSure 8)) && !([u, v].all (constantsAlone 8)) && chkEs g es [u, v]
    | _ => false
  | .setix o i e, st => match st with
    | .Assign [.Subscript x y _] z _ => plainIx y && noComp z && chkE g o x && chkE g i y && chkE g e z
    | _ => false
  | .ret e, st => match st with
    | .Return (some x) _ => chkE g e x
    | _ => false
  | .exp e, st => match st with
    | .Expr x _ => noComp x && chkE g e x
    | _ => false
  | .ite t a b, st => match st with
    | .If x ys zs _ => chkT g t x && chkSs g a ys && chkSs g b zs
    | _ => false
  | .whl t b, st => match st with
    | .While x ys [] _ => chkT g t x && chkSs g b ys
    | _ => false
  | .for_ t it b, st => match st with
    | .For tg x ys [] _ => notSet x && chkTg g t tg && chkI g it x && chkSs g b ys
    | _ => false
  | _, _ => false
termination_by structural s => s
def chkSs (g : Stc) : S → List Stmt → Bool
  | .nop, [] => true
  | .seq s r, y :: ys => chkS g s y && chkSs g r ys
  | .scope b, ys => chkSs g b ys
  | _, _ => false
termination_by structural s => s
end

/-- how a statement's end is to be met -/
def OutP (C : Gc) (Wx : WX) (m : List Addr) (H : Hp) (o : Out) (D : Ends) : Prop :=
  match o with
  | .nx l h => ∀ m' s' H', Evo m H m' H' → HpOk C m' h H' → LocOk C m' H' l s' → D.nx s' H'
  | .rt v h => ∀ m' x H', Evo m H m' H' → HpOk C m' h H' → RepV C m' H' v x → D.rt x H'
  | .bk l h => ∀ m' s' H', Evo m H m' H' → HpOk C m' h H' → LocOk C m' H' l s' → D.bk s' H'
  | .ct l h => ∀ m' s' H', Evo m H m' H' → HpOk C m' h H' → LocOk C m' H' l s' → D.ct s' H'
  | .exc c v l h => ∀ m' s' H' d x, Evo m H m' H' → HpOk C m' h H' → LocOk C m' H' l s' → RepV C m' H' v x → H' d = some (.xd [((C.cl c).2, x)]) → d ∉ m' → Wx (.ref (C.cl c).1) (some d) s' H'
  | .bad => False
def tS (C : Gc) (Wx : WX) (c : Cf) (s : S) : TS := fun D σ H => ∃ m l h, HpOk C m h H ∧ LocOk C m H l σ ∧ OutP C Wx m H (run c s l h) D
section
variable {C : Gc} {Wx : WX} {m m1 : List Addr} {H H1 : Hp} {s : St} {D : Ends}
theorem OutP.weak {o : Out} (x : OutP C Wx m H o D) (e : Evo m H m1 H1) : OutP C Wx m1 H1 o D := by
  cases o with
  | nx l h => exact fun m' s' H' ev => x m' s' H' (e.trans ev)
  | rt v h => exact fun m' s' H' ev => x m' s' H' (e.trans ev)
  | bk l h => exact fun m' s' H' ev => x m' s' H' (e.trans ev)
  | ct l h => exact fun m' s' H' ev => x m' s' H' (e.trans ev)
  | exc c v l h => exact fun m' s' H' d y ev => x m' s' H' d y (e.trans ev)
  | bad => exact x
/-- an expression's part -/
theorem OutP.res {A : Type} {r : Res A} {l : Loc} {k : A → Heap → Out} (x : OutP C Wx m H (r.out l k) D) (lo : LocOk C m H l s) : RP C Wx m H s r fun a h m' H' => OutP C Wx m' H' (k a h) D := by
  cases r with
  | ok a h => exact fun m' H' ev hp => OutP.weak (show OutP C Wx m H (k a h) D from x) ev
  | exc c v h => exact fun m' H' d y ev hp rv hd nd => x m' s H' d y ev hp (lo.mono ev) rv hd nd
  | bad => exact x
/-- .. a further one, behind it -/
theorem OutP.thn {o : Out} {k : Loc → Heap → Out} (x : OutP C Wx m H (o.thn k) D) (y : ∀ l h m' s' H', Evo m H m' H' → HpOk C m' h H' → LocOk C m' H' l s' → OutP C Wx m' H' (k l h) D → D1.nx s' H')
    (h1 : D1.rt = D.rt) (h2 : D1.bk = D.bk) (h3 : D1.ct = D.ct) : OutP C Wx m H o D1 := by
  cases o with
  | nx l h => exact fun m' s' H' ev hp lo => y l h m' s' H' ev hp lo (OutP.weak (show OutP C Wx m H (k l h) D from x) ev)
  | rt v h => exact fun m' s' H' ev hp r => by rw [h1]; exact x m' s' H' ev hp r
  | bk l h => exact fun m' s' H' ev hp r => by rw [h2]; exact x m' s' H' ev hp r
  | ct l h => exact fun m' s' H' ev hp r => by rw [h3]; exact x m' s' H' ev hp r
  | exc c v l h => exact x
  | bad => exact x
theorem OutP.turn {o : Out} {k : Loc → Heap → Out} {N : St → Hp → Prop} (x : OutP C Wx m H (o.turn k) D) (y : ∀ l h m' s' H', Evo m H m' H' → HpOk C m' h H' → LocOk C m' H' l s' → OutP C Wx m' H' (k l h) D → N s' H') :
    OutP C Wx m H o { D with nx := N, ct := N, bk := D.nx } := by
  cases o with
  | nx l h => exact fun m' s' H' ev hp lo => y l h m' s' H' ev hp lo (OutP.weak (show OutP C Wx m H (k l h) D from x) ev)
  | rt v h => exact x
  | bk l h => exact x
  | ct l h => exact fun m' s' H' ev hp lo => y l h m' s' H' ev hp lo (OutP.weak (show OutP C Wx m H (k l h) D from x) ev)
  | exc c v l h => exact x
  | bad => exact x
theorem OutP.trim {o : Out} {h : Heap} (hp : HpOk C m h H) (x : OutP C Wx m H (o.trim h.length) D) : OutP C Wx m H o D := by
  cases o with
  | nx l h1 => exact fun m' s' H' ev hp1 lo => let ⟨a, b, d⟩ := trim_ok ev hp hp1 lo; x m s' H' a b d
  | rt v h1 => exact x
  | bk l h1 => exact fun m' s' H' ev hp1 lo => let ⟨a, b, d⟩ := trim_ok ev hp hp1 lo; x m s' H' a b d
  | ct l h1 => exact fun m' s' H' ev hp1 lo => let ⟨a, b, d⟩ := trim_ok ev hp hp1 lo; x m s' H' a b d
  | exc c v l h1 => exact x
  | bad => exact x
end

end MP
/-! MP, loops and statements. -/
namespace MP
open PySem L2

section
variable {g : Stc} {C : Gc} {Wx : WX} {k : Nat} {c : Cf} {X : Cx}
/-! ### statements -/
theorem swaps_no {e t : Expr} {n : Nat} {env : Env} (h : noComp e = true) : swapsWith e (some t) n env = pure false := by
  cases e <;> first | rfl | cases h
theorem swapsN_no {e : Expr} {n : Nat} {env : Env} (h : noComp e = true) : swapsWith e none n env = pure false := by
  cases e <;> first | rfl | cases h
theorem folds_none {ts vs : List Expr} {k1 k2 : Nat} {p1 p2 : Pos} {env : Env} (h : (!(vs.any fun | .Starred .. => true | _ => false) && vs.all (foldedForSure 8)) = true) : swappedStores [.Tuple ts k1 p1] (.Tuple vs k2 p2) env = pure none := by
  rw [Bool.and_eq_true] at h
  unfold swappedStores
  simp only [h.2]
  split
  · rfl
  · split
    · rfl
    · split
      · rfl
      · rfl
theorem par_some {x y : Str} {px py p1 p2 : Pos} {u v : Expr} {k1 k2 : Nat} {env : Env} (kd : env.scope.kind = .function) (hx : env.scope.names.lookup x = some .local) (hy : env.scope.names.lookup y = some .local) (hxy : x ≠ y)
    (hl : (py.line == px.line) = true) (hu : notStar u = true) (hv : notStar v = true) (hf : ([u, v].all (foldedForSure 8)) = false) (hk : ([u, v].all (constantsAlone 8)) = false) :
    swappedStores [.Tuple [.Name x px, .Name y py] k1 p1] (.Tuple [u, v] k2 p2) env = pure (some [x, y]) := by
  have bk : env.blockKind = .function := by
    unfold Env.blockKind
    rw [kd]
    rfl
  have kx : env.kindOf x = some .local := hx
  have ky : env.kindOf y = some .local := hy
  have e2 : py.line = px.line := by simpa using hl
  have ne : (y == x) = false := by simpa using (fun z => hxy (Eq.symm z))
  unfold swappedStores
  simp [bk, hf, hk, kx, ky, e2, ne, Expr.pos, List.eraseDups, List.eraseDupsBy, List.eraseDupsBy.loop]
  intro z
  exfalso
  clear hf hk
  rcases z with z | z
  · cases u <;> first | (simp [notStar] at hu; done) | (simp at z; done)
  · cases v <;> first | (simp [notStar] at hv; done) | (simp at z; done)
theorem t_asg {t : T} {e : E} {te : TE} {g : TG} (s : St) (H : Hp) (D : Ends) (z : tS C Wx c (.asg t e) D s H) : tAsg (tE C Wx c e) (gT C t) D s H := by
  obtain ⟨m, l, h, hp, lo, o⟩ := z
  have o : OutP C Wx m H ((evalE c e l h).out l fun v h1 => Out.opt (store t v l) fun l1 => .nx l1 h1) D := o
  refine ⟨m, l, h, hp, lo, (o.res lo).imp fun v h1 m1 H1 ev hp1 q x rx => ?_⟩
  cases e1 : store t v l with
  | none =>
    rw [e1] at q
    exact q.elim
  | some l1 =>
    rw [e1] at q
    exact ⟨m1, l, v, l1, lo.mono ev, rx, e1, fun s' lo' _ => q m1 s' H1 (Evo.refl _ _) hp1 lo'⟩
theorem s_asg (ok : Cok g C Wx k c X) {t : T} {e : E} {x y : Expr} {p : Pos} (h : ((match t, x with
        | .nm _, .Name _ _ => true
        | .tup _, .Tuple _ _ _ => tupFolds x y
        | _, _ => false) && noComp y && chkTg g t x && chkE g e y) = true) : PS X (.Assign [x] y p) (tS C Wx c (.asg t e)) := by
  simp only [Bool.and_eq_true] at h
  obtain ⟨⟨⟨h1, h2⟩, h3⟩, h4⟩ := h
  have P := sndE ok e y h4
  have Gt := sndTg ok t x h3
  have hs : swapsWithSole [x] y p.line X.env = pure false := swaps_no h2
  have fin := fun (D : Ends) (s : St) (H : Hp) (z : tS C Wx c (.asg t e) D s H) => t_asg (te := tE C Wx c e) (g := gT C t) s H D z
  split at h1
  · exact PS.imp (ps_asg P Gt hs rfl rfl) fin
  · rename_i ts xs k1 p1
    refine PS.imp (ps_asg P Gt hs ?_ rfl) fin
    cases y with
    | Tuple vs k2 p2 => exact folds_none h1
    | _ => rfl
  · cases h1
theorem s_asgc (ok : Cok g C Wx k c X) {i : Nat} {e : E} {x : Str} {px p : Pos} {y : Expr} (h : ((match y with
        | .ListComp _ _ sc p => (px.line == p.line) && !(sc.names.any fun (n, k) => n == x && (k == .local || k == .cell))
        | _ => false) && decide (g.N[i]? = some x) && locB g.ns x && chkE g e y) = true) : PS X (.Assign [.Name x px] y p) (tS C Wx c (.asgc i e)) := by
  simp only [Bool.and_eq_true, decide_eq_true_eq] at h
  obtain ⟨⟨⟨h1, h2⟩, h3⟩, h4⟩ := h
  have loc : X.env.scope.names.lookup x = some .local := by
    unfold locB at h3
    rw [← ok.ns] at h3
    split at h3
    · assumption
    · cases h3
  split at h1
  · rename_i z gs sc p9
    rw [Bool.and_eq_true, Bool.not_eq_true'] at h1
    cases e with
    | lc b t own it cd elt =>
      unfold chkE at h4
      split at h4
      · rename_i z tg itx ifs sc p heq
        cases heq
        simp only [Bool.and_eq_true] at h4
        obtain ⟨⟨⟨⟨⟨⟨⟨k1, k2⟩, k3⟩, k4⟩, k5⟩, k6⟩, k7⟩, k8⟩ := h4
        have bo := blk_ok ok k1
        have ho : ∀ i ∈ tgSlots t, i ∈ own := fun i hi => by
          rw [List.all_eq_true] at k3
          simpa using k3 i hi
        refine PS.imp (ps_setLc (i := i) (own := own.map fun i => (g.N.getD i (Str.ofString ""), i)) ok.calm (by rw [ok.N]; exact ok.nd) (by rw [ok.N]; exact h2) loc (sw_true ok.kd loc h1.1 h1.2) (sndI ok it itx k5 tg) bo
          (fun s H a cl fp => sndTg (ok.blk bo.kind s H a cl fp) t tg k6) (fun s H a cl fp => sndIfs (ok.blk bo.kind s H a cl fp) cd ifs k7) (fun s H a cl fp => sndE (ok.blk bo.kind s H a cl fp) elt z k8) (fold_no k4)) fun D s H => ?_
        rintro ⟨m, l, h, hp, lo, o⟩
        have o : OutP C Wx m H ((evalE c (.lc b t own it cd elt) l h).out l fun v h1 => .nx (l.set i (some v)) h1) D := o
        rw [own_map]
        exact lc_sub (Wx := Wx) ho s H _ ⟨m, l, h, hp, lo, (o.res lo).imp fun v h1 m1 H1 ev hp1 q x rx => q m1 _ H1 (Evo.refl _ _) hp1 ((lo.mono ev).set i rx)⟩
      · cases h4
    | con v => cases v <;> cases h4
    | bm m o es => cases es <;> cases h4
    | _ => cases h4
  · cases h1
theorem s_par (ok : Cok g C Wx k c X) {i j : Nat} {es : E} {x y : Str} {px py pt p2 p : Pos} {k1 k2 : Nat} {u v : Expr} (h : (decide (g.N[i]? = some x) && decide (g.N[j]? = some y) && decide (i ≠ j) && decide (x ≠ y) && locB g.ns x && locB g.ns y && (py.line == px.line) && notStar u && notStar v
        && !([u, v].all (foldedForSure 8)) && !([u, v].all (constantsAlone 8)) && chkEs g es [u, v]) = true) : PS X (.Assign [.Tuple [.Name x px, .Name y py] k1 pt] (.Tuple [u, v] k2 p2) p) (tS C Wx c (.par i j es)) := by
  simp only [Bool.and_eq_true, Bool.not_eq_true', decide_eq_true_eq] at h
  obtain ⟨⟨⟨⟨⟨⟨⟨⟨⟨⟨⟨h1, h2⟩, h3⟩, h4⟩, h5⟩, h6⟩, h7⟩, h8⟩, h9⟩, h10⟩, h11⟩, h12⟩ := h
  have loc : ∀ z, locB g.ns z = true → X.env.scope.names.lookup z = some .local := fun z hz => by
    unfold locB at hz
    rw [← ok.ns] at hz
    split at hz
    · assumption
    · cases hz
  refine PS.imp (ps_par ok.calm (by rw [ok.N]; exact ok.nd) (by rw [ok.N]; exact h1) (by rw [ok.N]; exact h2) h3 (loc x h5) (loc y h6) (sndEs ok es _ h12) (par_some ok.kd (loc x h5) (loc y h6) h4 h7 h8 h9 h10 h11) rfl) fun D s H => ?_
  rintro ⟨m, l, h, hp, lo, o⟩
  have o : OutP C Wx m H ((evalEs c es l h).out l fun vs h1 => Out.opt (store2 i j vs l) fun l1 => .nx l1 h1) D := o
  refine ⟨m, l, h, hp, lo, (o.res lo).imp fun vs h1 m1 H1 ev hp1 q xs rx => ?_⟩
  unfold store2 at q
  split at q
  · obtain ⟨x0, r0, rfl, rx0, x1, r1, rfl, rx1, rfl⟩ := rx
    exact ⟨x0, x1, rfl, q m1 _ H1 (Evo.refl _ _) hp1 (((lo.mono ev).set i rx0).set j rx1)⟩
  · exact q.elim
theorem setix_ok {m : List Addr} {h h4 : Heap} {H : Hp} {o i v : Val} {x y z : V} {Q : Hp → Prop} (hp : HpOk C m h H) (ro : RepV C m H o x) (ri : RepV C m H i y) (rv : RepV C m H v z) (e : setixO h o i v = some h4)
    (q : ∀ H', Evo m H m H' → HpOk C m h4 H' → Q H') : rSetL x y z H Q := by
  unfold setixO at e
  split at e
  · rename_i n kk
    obtain ⟨a, rfl, ha⟩ := ro
    cases (show y = V.int kk from ri)
    split at e
    · rename_i xs hx
      split at e
      · rename_i jj hj
        by_cases pv : pure0 v = true
        · rw [if_pos pv] at e
          cases e
          obtain ⟨vs, e1, r1, p1⟩ := hp.obj n _ a hx ha
          refine ⟨a, vs, kk, jj, rfl, rfl, e1, by rw [r1.length]; exact hj, ?_⟩
          have pl : pureL (xs.set jj v) = true := refsLtL_mem.mpr fun w hw => by
            rcases List.mem_or_eq_of_mem_set hw with z | z
            · exact refsLtL_mem.mp p1 w z
            · rw [z]
              exact pv
          exact q _ (Evo.put ha) (hp.put (o := .lst (xs.set jj v)) ha (RepO.put ha (r1.set rv jj) pl)).1
        · rw [if_neg pv] at e
          cases e
      · cases e
    · cases e
  · cases e
theorem s_setix (ok : Cok g C Wx k c X) {o i e : E} {x y z : Expr} {p1 p2 : Pos} (h : (plainIx y && noComp z && chkE g o x && chkE g i y && chkE g e z) = true) : PS X (.Assign [.Subscript x y p1] z p2) (tS C Wx c (.setix o i e)) := by
  simp only [Bool.and_eq_true] at h
  obtain ⟨⟨⟨⟨h1, h2⟩, h3⟩, h4⟩, h5⟩ := h
  have hs : swapsWithSole [.Subscript x y p1] z p2.line X.env = pure false := by cases z <;> first | rfl | cases h2
  refine PS.imp (ps_asg (sndE ok e z h5) (pg_sub (sndE ok o x h3) (sndE ok i y h4) set_list (by intro v; cases y <;> first | rfl | cases h1)) hs rfl rfl) fun D s H => ?_
  rintro ⟨m, l, h, hp, lo, r⟩
  have r : OutP C Wx m H ((evalE c e l h).out l fun v h1 => (evalE c o l h1).out l fun x h2 => (evalE c i l h2).out l fun y h3 => Out.opt (setixO h3 x y v) fun h4 => .nx l h4) D := r
  refine ⟨m, l, h, hp, lo, (r.res lo).imp fun v h1 m1 H1 ev1 hp1 q1 x1 rx1 => ?_⟩
  have lo1 := lo.mono ev1
  refine ⟨m1, l, h1, hp1, lo1, (q1.res lo1).imp fun w h2 m2 H2 ev2 hp2 q2 x2 rx2 => ?_⟩
  have lo2 := lo1.mono ev2
  refine ⟨m2, l, h2, hp2, lo2, (q2.res lo2).imp fun u h3 m3 H3 ev3 hp3 q3 x3 rx3 => ?_⟩
  cases e4 : setixO h3 w u v with
  | none =>
    rw [e4] at q3
    exact q3.elim
  | some h4 =>
    rw [e4] at q3
    exact setix_ok hp3 (rx2.mono ev3) rx3 (rx1.mono (ev2.trans ev3)) e4 fun H' ev4 hp4 => q3 m3 s H' ev4 hp4 ((lo2.mono ev3).mono ev4)
theorem s_ret (ok : Cok g C Wx k c X) {e : E} {x : Expr} {p : Pos} (h : chkE g e x = true) : PS X (.Return (some x) p) (tS C Wx c (.ret e)) :=
  PS.imp (ps_ret (sndE ok e x h)) fun D s H => by
    rintro ⟨m, l, h, hp, lo, r⟩
    have r : OutP C Wx m H ((evalE c e l h).out l fun v h1 => .rt v h1) D := r
    exact ⟨m, l, h, hp, lo, (r.res lo).imp fun v h1 m1 H1 ev1 hp1 q1 x1 rx1 => q1 m1 x1 H1 (Evo.refl _ _) hp1 rx1⟩
theorem s_exp (ok : Cok g C Wx k c X) {e : E} {x : Expr} {p : Pos} (h : (noComp x && chkE g e x) = true) : PS X (.Expr x p) (tS C Wx c (.exp e)) := by
  rw [Bool.and_eq_true] at h
  refine PS.imp (ps_expr (sndE ok e x h.2) (swapsN_no h.1)) fun D s H => ?_
  rintro ⟨m, l, h, hp, lo, r⟩
  have r : OutP C Wx m H ((evalE c e l h).out l fun _ h1 => .nx l h1) D := r
  exact ⟨m, l, h, hp, lo, (r.res lo).imp fun v h1 m1 H1 ev1 hp1 q1 x1 rx1 => q1 m1 s H1 (Evo.refl _ _) hp1 (lo.mono ev1)⟩
theorem s_ite {t : E} {a b : S} {x : Expr} {ys zs : List Stmt} {p : Pos} (ht : PT X x (tT C Wx c t)) (ha : PSs X ys (tS C Wx c a)) (hb : PSs X zs (tS C Wx c b)) : PS X (.If x ys zs p) (tS C Wx c (.ite t a b)) :=
  PS.imp (ps_if ht ha hb) fun D s H => by
    rintro ⟨m, l, h, hp, lo, r⟩
    have r : OutP C Wx m H ((evalT c t l h).out l fun x h1 => if x then run c a l h1 else run c b l h1) D := r
    refine ⟨m, l, h, hp, lo, (r.res lo).imp fun v h1 m1 H1 ev1 hp1 q1 => ?_⟩
    cases v with
    | true => rw [if_pos rfl]; exact ⟨m1, l, h1, hp1, lo.mono ev1, q1⟩
    | false => rw [if_neg Bool.false_ne_true]; exact ⟨m1, l, h1, hp1, lo.mono ev1, q1⟩
theorem s_whl (ok : Cok g C Wx k c X) {t : E} {b : S} {x : Expr} {ys : List Stmt} {p : Pos} (ht : PT X x (tT C Wx c t)) (hb : PSs X ys (tS C Wx c b)) : PS X (.While x ys [] p) (tS C Wx c (.whl t b)) :=
  PS.imp (ps_while ok.po ht hb) fun D s H => by
    rintro ⟨m, l, h, hp, lo, r⟩
    have r : OutP C Wx m H (whileN (evalT c t) (run c b) c.W l h) D := r
    refine ⟨fun n s H => ∃ m l h, HpOk C m h H ∧ LocOk C m H l s ∧ OutP C Wx m H (whileN (evalT c t) (run c b) n l h) D, ⟨c.W, m, l, h, hp, lo, r⟩, ?_⟩
    rintro n s H ⟨m, l, h, hp, lo, r⟩
    cases n with
    | zero => exact (show False from r).elim
    | succ n =>
      have r : OutP C Wx m H ((evalT c t l h).out l fun x h1 => if x then (run c b l h1).turn (whileN (evalT c t) (run c b) n) else .nx l h1) D := r
      refine ⟨m, l, h, hp, lo, (r.res lo).imp fun v h1 m1 H1 ev1 hp1 q1 => ?_⟩
      cases v with
      | true =>
        rw [if_pos rfl] at q1 ⊢
        refine ⟨fun s H => ∃ m l h, HpOk C m h H ∧ LocOk C m H l s ∧ OutP C Wx m H (whileN (evalT c t) (run c b) n l h) D, fun s' H' z => ⟨n, Nat.lt_succ_self n, z⟩, m1, l, h1, hp1, lo.mono ev1, ?_⟩
        exact q1.turn fun l2 h2 m2 s2 H2 ev2 hp2 lo2 q2 => ⟨m2, l2, h2, hp2, lo2, q2⟩
      | false =>
        rw [if_neg Bool.false_ne_true] at q1 ⊢
        exact q1 m1 s H1 (Evo.refl _ _) hp1 (lo.mono ev1)
theorem s_for (ok : Cok g C Wx k c X) {t : T} {it : E} {b : S} {tg x : Expr} {ys : List Stmt} {p : Pos} (hi : PI X tg x (tI C Wx c it)) (hf : ∀ y, foldedSetIterable x X.env y = pure y) (hg : PG X tg (gT C t)) (hb : PSs X ys (tS C Wx c b)) :
    PS X (.For tg x ys [] p) (tS C Wx c (.for_ t it b)) :=
  PS.imp (ps_for ok.po ok.calm hi hg hb hf) fun D s H => by
    rintro ⟨m, l, h, hp, lo, r⟩
    have r : OutP C Wx m H ((evalI c it l h).out l fun xs h1 => forL t (run c b) xs l h1) D := r
    refine ⟨m, l, h, hp, lo, (r.res lo).imp fun xs h1 m1 H1 ev1 hp1 q1 J wk => ?_⟩
    refine ⟨fun i n s H => n = xs.length - i ∧ i ≤ xs.length ∧ ∃ m l h, Evo m1 H1 m H ∧ HpOk C m h H ∧ LocOk C m H l s ∧ OutP C Wx m H (forL t (run c b) (xs.drop i) l h) D, ⟨xs.length, rfl, Nat.zero_le _, m1, l, h1, Evo.refl _ _, hp1, lo.mono ev1, q1⟩, ?_⟩
    rintro i n s H ⟨rfl, hi, m2, l2, h2, ev2, hp2, lo2, q2⟩
    obtain ⟨w1, w2⟩ := wk m2 H ev2 i
    by_cases hl : i < xs.length
    · obtain ⟨g1, g2⟩ := w2 xs[i] (List.getElem?_eq_getElem hl)
      rw [List.drop_eq_getElem_cons hl] at q2
      have q2 : OutP C Wx m2 H (Out.opt (store t xs[i] l2) fun l1 => (run c b l1 h2).turn (forL t (run c b) (xs.drop (i + 1)))) D := q2
      cases e1 : store t xs[i] l2 with
      | none =>
        rw [e1] at q2
        exact q2.elim
      | some l3 =>
        rw [e1] at q2
        have q2 : OutP C Wx m2 H ((run c b l3 h2).turn (forL t (run c b) (xs.drop (i + 1)))) D := q2
        refine .inr ⟨g1, fun s' H' => ∃ m l h, Evo m1 H1 m H' ∧ HpOk C m h H' ∧ LocOk C m H' l s' ∧ OutP C Wx m H' (forL t (run c b) (xs.drop (i + 1)) l h) D, ?_, ?_⟩
        · rintro s' H' ⟨m', l', h', z⟩
          exact ⟨xs.length - (i + 1), by omega, rfl, hl, m', l', h', z⟩
        · intro y H3 hy
          obtain ⟨ev3, hh, rv⟩ := g2 y H3 hy
          refine ⟨m2, l2, xs[i], l3, lo2.mono ev3, rv, e1, fun s' lo' _ => ⟨m2, l3, h2, hh _ hp2, lo', ?_⟩⟩
          exact (q2.weak ev3).turn fun l4 h4 m4 s4 H4 ev4 hp4 lo4 q4 => ⟨m4, l4, h4, (ev2.trans ev3).trans ev4, hp4, lo4, q4⟩
    · have e : i = xs.length := by omega
      subst e
      rw [List.drop_length] at q2
      exact .inl ⟨w1 (Nat.le_refl _), q2 m2 s H (Evo.refl _ _) hp2 lo2⟩
mutual
theorem sndS (ok : Cok g C Wx k c X) : ∀ (s : S) (st : Stmt), chkS g s st = true → PS X st (tS C Wx c s)
  | .nop, st, h => by cases h
  | .seq _ _, st, h => by cases h
  | .scope _, st, h => by cases h
  | .asg t e, st, h => by
    dsimp only [chkS] at h
    split at h
    · exact s_asg ok h
    · cases h
  | .asgc i e, st, h => by
    dsimp only [chkS] at h
    split at h
    · exact s_asgc ok h
    · cases h
  | .par i j es, st, h => by
    dsimp only [chkS] at h
    split at h
    · exact s_par ok h
    · cases h
  | .setix o i e, st, h => by
    dsimp only [chkS] at h
    split at h
    · exact s_setix ok h
    · cases h
  | .ret e, st, h => by
    dsimp only [chkS] at h
    split at h
    · exact s_ret ok h
    · cases h
  | .exp e, st, h => by
    dsimp only [chkS] at h
    split at h
    · exact s_exp ok h
    · cases h
  | .ite t a b, st, h => by
    dsimp only [chkS] at h
    split at h
    · simp only [Bool.and_eq_true] at h
      exact s_ite (sndT ok t _ h.1.1) (sndSs ok a _ h.1.2) (sndSs ok b _ h.2)
    · cases h
  | .whl t b, st, h => by
    dsimp only [chkS] at h
    split at h
    · rw [Bool.and_eq_true] at h
      exact s_whl ok (sndT ok t _ h.1) (sndSs ok b _ h.2)
    · cases h
  | .for_ t it b, st, h => by
    dsimp only [chkS] at h
    split at h
    · simp only [Bool.and_eq_true] at h
      obtain ⟨⟨⟨h1, h2⟩, h3⟩, h4⟩ := h
      exact s_for ok (sndI ok it _ h3 _) (fold_no h1) (sndTg ok t _ h2) (sndSs ok b _ h4)
    · cases h
theorem sndSs (ok : Cok g C Wx k c X) : ∀ (s : S) (st : List Stmt), chkSs g s st = true → PSs X st (tS C Wx c s)
  | .nop, st, h => by
    cases st with
    | nil =>
      refine PSs.imp pss_nil fun D s H => ?_
      rintro ⟨m, l, h, hp, lo, r⟩
      exact r m s H (Evo.refl _ _) hp lo
    | cons _ _ => cases h
  | .seq s r, st, h => by
    cases st with
    | nil => cases h
    | cons y ys =>
      have h2 : (chkS g s y && chkSs g r ys) = true := h
      rw [Bool.and_eq_true] at h2
      refine PSs.imp (pss_cons (sndS ok s y h2.1) (sndSs ok r ys h2.2)) fun D s0 H => ?_
      rintro ⟨m, l, h, hp, lo, o⟩
      have o : OutP C Wx m H ((run c s l h).thn (run c r)) D := o
      exact ⟨m, l, h, hp, lo, o.thn (D1 := { D with nx := _ }) (fun l2 h2 m2 s2 H2 ev2 hp2 lo2 q2 => ⟨m2, l2, h2, hp2, lo2, q2⟩) rfl rfl rfl⟩
  | .scope b, st, h => by
    refine PSs.imp (sndSs ok b st h) fun D s0 H => ?_
    rintro ⟨m, l, h, hp, lo, o⟩
    exact ⟨m, l, h, hp, lo, OutP.trim hp o⟩
  | .asg _ _, st, h | .asgc _ _, st, h | .par _ _ _, st, h | .setix _ _ _, st, h | .ret _, st, h | .exp _, st, h | .ite _ _ _, st, h | .whl _ _, st, h | .for_ _ _ _, st, h => by cases h
end
end
end MP
/-! MP, defs and the law's end. -/
namespace MP
open PySem L2

/-- a def of the text: its name, its place, its slots' names, its parameters -/
structure Dn where
  name : Str
  qual : Str
  st : Stmt
  N : List Str
  ps : List Str
/-- the def's text is what the small language's def was read from -/
def okDef (fn bn gl : List Str) (d : Dn) (f : Fn) : Bool := decide (f.n = d.N.length) && decide (f.np = d.ps.length) && chkSs ⟨d.N, (defScope d.st).names, (defScope d.st).names, fn, bn, gl⟩ f.body (defBody d.st)
/-- a def as it stands -/
structure DefAt (K : PySem.W.Frag) (mg : Str → Option Value) (d : Dn) (fa : Addr) (fd : FuncData) : Prop where
  sc : FnScope d.N d.ps (defScope d.st)
  fn : Fun K d.name d.qual d.st fa fd
  bi : Binds K fd d.ps []
  mg : mg d.name = some (.ref fa)

section
variable {C : Gc}
mutual
theorem fz_ok {m m1 : List Addr} {H1 : Hp} {h1 : Heap} (hm : ∃ n, m1 = m ++ n) (hp1 : HpOk C m1 h1 H1) : ∀ {v w : Val} {x : V}, RepV C m1 H1 v x → fz h1 m.length v = some w → RepV C m H1 w x
  | .non, w, x, r, e => by cases e; exact r
  | .bl _, w, x, r, e => by cases e; exact r
  | .int _, w, x, r, e => by cases e; exact r
  | .str _, w, x, r, e => by cases e; exact r
  | .ty _, w, x, r, e => by cases e; exact r
  | .rol xs, w, x, r, e => by
    obtain ⟨n, en⟩ := hm
    have e : (if refsLtL m.length xs = true then some (Val.rol xs) else none) = some w := e
    by_cases q : refsLtL m.length xs = true
    · rw [if_pos q] at e
      cases e
      exact RepV.place (b := m.length) (fun a o _ na z => na (by rw [en]; exact List.mem_append_left _ z)) (fun k a hk e2 => by rw [en, List.getElem?_append_left hk] at e2; exact e2) (v := .rol xs) q r
    · rw [if_neg q] at e
      cases e
  | .dct ks xs, w, x, r, e => by
    obtain ⟨n, en⟩ := hm
    have e : (if refsLtL m.length xs = true then some (Val.dct ks xs) else none) = some w := e
    by_cases q : refsLtL m.length xs = true
    · rw [if_pos q] at e
      cases e
      exact RepV.place (b := m.length) (fun a o _ na z => na (by rw [en]; exact List.mem_append_left _ z)) (fun k a hk e2 => by rw [en, List.getElem?_append_left hk] at e2; exact e2) (v := .dct ks xs) q r
    · rw [if_neg q] at e
      cases e
  | .lst xs, w, x, r, e => by
    obtain ⟨n, en⟩ := hm
    have e : (if refsLtL m.length xs = true then some (Val.lst xs) else none) = some w := e
    by_cases q : refsLtL m.length xs = true
    · rw [if_pos q] at e
      cases e
      exact RepV.place (b := m.length) (fun a o _ na z => na (by rw [en]; exact List.mem_append_left _ z)) (fun k a hk e2 => by rw [en, List.getElem?_append_left hk] at e2; exact e2) (v := .lst xs) q r
    · rw [if_neg q] at e
      cases e
  | .tup xs, w, x, r, e => by
    obtain ⟨n, en⟩ := id hm
    have e : (match fzL h1 m.length xs with | some ys => some (Val.tup ys) | none => none) = some w := e
    cases q : fzL h1 m.length xs with
    | none => rw [q] at e; cases e
    | some ys =>
      rw [q] at e
      cases e
      obtain ⟨a, vs, rfl, ha, hr⟩ := r
      refine ⟨a, vs, rfl, ?_, fzL_ok hm hp1 hr q⟩
      rcases ha with ⟨na, ha⟩ | ha
      · exact .inl ⟨fun z => na (by rw [en]; exact List.mem_append_left _ z), ha⟩
      · exact .inr ha
  | .ref k, w, x, r, e => by
    obtain ⟨n, en⟩ := hm
    obtain ⟨a, rfl, ha⟩ := r
    have e : (if k < m.length then some (Val.ref k) else match h1[k]? with | some (.lst xs) => some (Val.lst xs) | none => none) = some w := e
    by_cases hk : k < m.length
    · rw [if_pos hk] at e
      cases e
      rw [en, List.getElem?_append_left hk] at ha
      exact ⟨a, rfl, ha⟩
    · rw [if_neg hk] at e
      cases q : h1[k]? with
      | none => rw [q] at e; cases e
      | some o =>
        rw [q] at e
        cases o with
        | lst xs =>
          cases e
          obtain ⟨vs, e1, r1, p1⟩ := hp1.obj k _ a q ha
          have na : a ∉ m := fun z => by
            obtain ⟨j, hj, ej⟩ := List.mem_iff_getElem.mp z
            have e3 : m1[j]? = some a := by
              rw [en, List.getElem?_append_left hj, List.getElem?_eq_getElem hj, ej]
            have e4 := nd_ix hp1.nd e3 ha
            omega
          refine ⟨a, vs, rfl, ⟨na, e1⟩, ?_⟩
          exact r1.place (fun b o _ nb z => nb (by rw [en]; exact List.mem_append_left _ z)) (fun n a hn => absurd hn (Nat.not_lt_zero n)) p1
theorem fzL_ok {m m1 : List Addr} {H1 : Hp} {h1 : Heap} (hm : ∃ n, m1 = m ++ n) (hp1 : HpOk C m1 h1 H1) : ∀ {v w : List Val} {x : List V}, RepL C m1 H1 v x → fzL h1 m.length v = some w → RepL C m H1 w x
  | [], w, x, r, e => by cases e; exact r
  | v :: vs, w, x, r, e => by
    have e : (match fz h1 m.length v, fzL h1 m.length vs with | some y, some ys => some (y :: ys) | _, _ => none) = some w := e
    cases q : fz h1 m.length v with
    | none => rw [q] at e; cases e
    | some y =>
      cases q2 : fzL h1 m.length vs with
      | none => rw [q, q2] at e; cases e
      | some ys =>
        rw [q, q2] at e
        cases e
        obtain ⟨x0, r0, rfl, r1, r2⟩ := r
        exact ⟨x0, r0, rfl, fz_ok hm hp1 r1 q, fzL_ok hm hp1 r2 q2⟩
end
theorem fin_ok {m m1 : List Addr} {H H1 : Hp} {h h1 : Heap} {Wx : WX} {s : St} {f : Fn} {v : Val} {x : V} {Q : VK} (hp : HpOk C m h H) (ev : Evo m H m1 H1) (hp1 : HpOk C m1 h1 H1) (rv : RepV C m1 H1 v x)
    (q : RP C Wx m H s (finish f h.length v h1) fun v _ m' H' => ∀ x, RepV C m' H' v x → Q x H') : Q x H1 := by
  unfold finish at q
  cases hf : f.frz with
  | false =>
    rw [hf, if_neg Bool.false_ne_true] at q
    exact q m1 H1 ev hp1 x rv
  | true =>
    rw [hf, if_pos rfl] at q
    cases e : fz h1 h.length v with
    | none => rw [e] at q; exact q.elim
    | some w =>
      rw [e] at q
      have t := trim_ok (s := []) (l1 := []) ev hp hp1 ⟨rfl, fun i v z => by simp at z⟩
      rw [← hp.len] at e
      exact fin2 q t.1 t.2.1 (fz_ok ev.pre hp1 rv e)
theorem start_ok {m : List Addr} {H : Hp} {args : List Val} {vs : List V} {N : List Str} {a b : Nat} (r : RepL C m H args vs) (ha : a = N.length) (hb : b = vs.length) : LocOk C m H (args.map some ++ List.replicate (a - b) none) (L2.start N vs) := by
  subst ha hb
  refine ⟨?_, fun i v q => ?_⟩
  · unfold L2.start
    simp [r.length]
  · have hi : i < args.length := by
      by_cases hi : i < args.length
      · exact hi
      · rw [List.getElem?_append_right (by simpa using hi), List.getElem?_replicate] at q
        split at q <;> cases q
    rw [List.getElem?_append_left (by simpa using hi), List.getElem?_map] at q
    cases e : args[i]? with
    | none => rw [e] at q; cases q
    | some w =>
      rw [e] at q
      cases q
      obtain ⟨x, h1, h2⟩ := r.get e
      refine ⟨x, ?_, h2⟩
      unfold L2.start
      rw [List.getElem?_append_left (by rw [List.length_map, r.length]; exact hi), List.getElem?_map, h1]
      rfl
end

theorem un_of {j : Nat} {A : Around} (r : Room j A) : A.units + 65 < cLine := by have := r.un; omega
theorem fnc_of {X : Cx} {x : Str} (hf : X.fn x = true) (h : locCB X.env.scope.names x = true) : L2.Loc X.env.scope x ∧ (X.fn x = true ∨ X.env.scope.names.lookup x = some .local) := by
  unfold locCB at h
  split at h
  · rename_i e
    exact ⟨.inl e, .inr e⟩
  · rename_i e
    exact ⟨.inr e, .inl hf⟩
  · cases h
/-- a name of the module stands for the value v -/
def GlOk (C : Gc) (mg : Str → Option Value) (x : Str) (v : Val) : Prop := ∃ y u, mg x = some u ∧ RelV y u ∧ ∀ m H h, HpOk C m h H → RepV C m H v y
/-- every def keeps the promise of its run -/
theorem defs_ok {Pr : Program} {w : World} {mg : Str → Option Value} {base : PySem.Heap} {C : Gc} {P : List Fn} {W : Nat} {gv : Str → Option Val} {D : List Dn} {bn gl : List Str}
    (hD : ∀ (i : Nat) (d : Dn), D[i]? = some d → ∃ f fa fd, P[i]? = some f ∧ okDef (D.map (·.name)) bn gl d f = true ∧ DefAt C.K mg d fa fd) (hbn : ∀ x, bn.contains x = true → mg x = none) (hgl : ∀ x v, gl.contains x = true → gv x = some v → GlOk C mg x v) :
    ∀ (k i : Nat) (d : Dn) (f : Fn) (fa : Addr) (fd : FuncData), D[i]? = some d → P[i]? = some f → okDef (D.map (·.name)) bn gl d f = true → DefAt C.K mg d fa fd →
      FnOk Pr w C.K mg base (L2.CX Pr w) k fa fd d.ps (spI C (callF P W gv k) i d.ps.length) := by
  intro k
  induction k with
  | zero =>
    intro i d f fa fd _ _ _ _
    refine ⟨fun vs H Q E h => h.1, fun A outer s H args us vs Q E _ _ _ _ h => ?_⟩
    obtain ⟨_, m, hh, ar, _, _, r⟩ := h
    exact (show False from r).elim
  | succ k ih =>
    intro i d f fa fd hd hf hok at_
    unfold okDef at hok
    simp only [Bool.and_eq_true, decide_eq_true_eq] at hok
    obtain ⟨⟨k1, k2⟩, k3⟩ := hok
    refine at_.fn.okX at_.sc (fun vs H Q E h => h.1) (fun cdv A outer s H vs Q E hr h => ?_)
    obtain ⟨hl, m, h0, args, hp, ra, r⟩ := h
    have ok : Cok ⟨d.N, (defScope d.st).names, (defScope d.st).names, D.map (·.name), bn, gl⟩ C (fun cls dd _ H' => E cls dd H') k ⟨callF P W gv k, W, gv⟩ (cxOf (L2.CX Pr w) Pr w C.K mg base d.N d.qual (defScope d.st) fa cdv A outer s H E) :=
      { K := rfl, N := rfl, nd := at_.sc.nd, ns := rfl, kd := at_.sc.kind, calm := rfl, un := un_of hr, room := hr, tk := takes_of rfl rfl rfl rfl, po := passes_of rfl, fnc := fun x hx => fnc_of rfl hx, bn := hbn, gl := hgl,
        fn := fun j x hx => by
          have hx : (D.map (·.name))[j]? = some x := hx
          rw [List.getElem?_map] at hx
          cases e : D[j]? with
          | none => rw [e] at hx; cases hx
          | some d2 =>
            rw [e] at hx
            have hx : d2.name = x := Option.some.inj hx
            obtain ⟨f2, fa2, fd2, a1, a2, a3⟩ := hD j d2 e
            refine ⟨fa2, fd2, d2.ps, by rw [← hx]; exact a3.mg, a3.fn.kp, a3.bi, fun as hh => ?_, ih j d2 f2 fa2 fd2 e a1 a2 a3⟩
            unfold okDef at a2
            simp only [Bool.and_eq_true, decide_eq_true_eq] at a2
            cases k with
            | zero => exact .inl rfl
            | succ k =>
              by_cases hc : as.length = f2.np
              · exact .inr (hc.trans a2.1.2)
              · left
                show (match P[j]? with | none => _ | some f => _) = _
                rw [a1]
                show (if as.length = f2.np then _ else _) = _
                rw [if_neg hc] }
    refine ⟨tS C (fun cls dd _ H' => E cls dd H') ⟨callF P W gv k, W, gv⟩ f.body, sndSs ok f.body _ k3, m, _, h0, hp, start_ok ra k1 (k2.trans hl.symm), ?_⟩
    have r : RP C (fun cls d _ H' => E cls d H') m H [] (match P[i]? with
      | none => .bad
      | some f => if args.length = f.np then
          match run ⟨callF P W gv k, W, gv⟩ f.body (args.map some ++ List.replicate (f.n - f.np) none) h0 with
          | .nx _ h1 => finish f h0.length .non h1
          | .rt v h1 => finish f h0.length v h1
          | .exc c v _ h1 => Res.opt (fz h1 h0.length v) fun w => .exc c w (h1.take h0.length)
          | _ => .bad
        else .bad) _ := r
    rw [hf] at r
    have hal : args.length = f.np := by
      rw [k2, ← hl, ra.length]
    have r : RP C (fun cls d _ H' => E cls d H') m H [] (if args.length = f.np then
          match run ⟨callF P W gv k, W, gv⟩ f.body (args.map some ++ List.replicate (f.n - f.np) none) h0 with
          | .nx _ h1 => finish f h0.length .non h1
          | .rt v h1 => finish f h0.length v h1
          | .exc c v _ h1 => Res.opt (fz h1 h0.length v) fun w => .exc c w (h1.take h0.length)
          | _ => .bad
        else .bad) _ := r
    rw [if_pos hal] at r
    generalize run ⟨callF P W gv k, W, gv⟩ f.body (args.map some ++ List.replicate (f.n - f.np) none) h0 = o at r ⊢
    cases o with
    | nx l1 h1 => exact fun m1 s1 H1 ev hp1 lo1 => fin_ok (v := .non) (x := .non) hp ev hp1 rfl r
    | rt v h1 => exact fun m1 x H1 ev hp1 rv => fin_ok hp ev hp1 rv r
    | exc c v l1 h1 =>
      intro m1 s1 H1 dd x ev hp1 lo1 rv hdd nd
      have r : RP C (fun cls d _ H' => E cls d H') m H [] (Res.opt (fz h1 h0.length v) fun w => .exc c w (h1.take h0.length)) _ := r
      cases e : fz h1 h0.length v with
      | none => rw [e] at r; exact r.elim
      | some w2 =>
        rw [e] at r
        have t := trim_ok ev hp hp1 lo1
        rw [← hp.len] at e
        obtain ⟨n, en⟩ := ev.pre
        exact r m H1 dd x t.1 t.2.1 (fz_ok ev.pre hp1 rv e) hdd fun z => nd (by rw [en]; exact List.mem_append_left _ z)
    | bk l1 h1 => exact r.elim
    | ct l1 h1 => exact r.elim
    | bad => exact r.elim

theorem vals_rep {C : Gc} {H : Hp} {m : List Addr} : ∀ ns : List Int, RepL C m H (ns.map .int) (ns.map V.int)
  | [] => rfl
  | n :: ns => ⟨_, _, rfl, rfl, vals_rep ns⟩
/-- the promise of the law at its call -/
theorem law_sp {C : Gc} {P : List Fn} {W k i : Nat} {gv : Str → Option Val} {H : Hp} {a : Addr} {ns : List Int} (hS : SqL C.K H a (ns.map V.int)) (h : ∃ h', callF P W gv k i [.rol (ns.map .int)] [] = .ok (.bl true) h') :
    spI C (callF P W gv k) i 1 [.ref a] H (fun v _ => v = .bl true) fun _ _ _ => False := by
  obtain ⟨h', e⟩ := h
  refine ⟨rfl, [], [], [.rol (ns.map .int)], ⟨rfl, List.nodup_nil, fun n o b q => by simp at q⟩, ⟨_, _, rfl, ⟨a, _, rfl, ?_, vals_rep ns⟩, rfl⟩, ?_⟩
  · rcases hS with hS | hS
    · exact .inl ⟨by simp, hS⟩
    · exact .inr hS
  · rw [e]
    exact fun m' H' ev hp x r => r
/-- a def's facts, as they are read off the top -/
theorem defAt_mk {K : PySem.W.Frag} {h : PySem.Heap} {mg : Str → Option Value} {name qual : Str} {st : Stmt} {N ps : List Str} {f : Addr} {oc : Value} {od an : Option Addr} {osl : Array (Option Value)} {kV doc pm cdv ct : Value} (X : K.In h) (G : h.Ns mainGlobals mg)
    (sc : FnScope N ps (defScope st)) (hb : ∀ (kV doc pm : Value) (an : Option Addr) (cdv ct : Value) (us : List Value), us.length = ps.length → bindArgs (PySem.W.fnOf name qual (defArgs st) (defBody st) (defScope st) .none kV doc pm an cdv ct) ⟨us, []⟩ = pure (ps.zip us))
    (a : PySem.W.nsIn K mainGlobals name = some (some (.ref f))) (l : K.lookup f = some ⟨oc, od, .func (PySem.W.fnOf name qual (defArgs st) (defBody st) (defScope st) .none kV doc pm an cdv ct), osl⟩)
    (c : PySem.W.codeIn K cdv qual = true) (k : PySem.W.keepIn K (.ref f) = true) : ∃ fd, DefAt K mg ⟨name, qual, st, N, ps⟩ f fd :=
  ⟨_, sc, fun_mk l c k, (fun_mk (st := st) l c k).binds hb, PySem.W.mg_of X G a⟩
/-- the promise by some measure of the whiles -/
def spW (C : Gc) (P : List Fn) (gv : Str → Option Val) (k i n : Nat) : Sp := fun vs H Q E => ∃ W, spI C (callF P W gv k) i n vs H Q E
theorem fnW {Pr : Program} {w : World} {mg : Str → Option Value} {base : PySem.Heap} {C : Gc} {P : List Fn} {gv : Str → Option Val} {k i n : Nat} {fa : Addr} {fd : FuncData} {ps : List Str} {CX : CXT} (hn : n = ps.length) (F : ∀ W, FnOk Pr w C.K mg base CX k fa fd ps (spI C (callF P W gv k) i n)) :
    FnOk Pr w C.K mg base CX k fa fd ps (spW C P gv k i n) :=
  ⟨fun vs H Q E ⟨W, h⟩ => h.1.trans hn, fun A outer s H args us vs Q E hr he hb hv ⟨W, h⟩ => (F W).run A outer s H args us vs Q E hr he hb hv h⟩
theorem cx_no {P : Program} {w : World} {H : Hp} {s s' : Shared} {e : Value} (h : L2.CX P w [] H s (fun _ _ _ => False) e s') : False := by
  obtain ⟨_, _, _, _, _, _, _, _, _, _, _, _, z⟩ := h
  exact z
end MP
/-! MP, the run's rules for rewriting: each fully applied, so that a loop's test and body stay folded. -/
namespace MP
open PySem
def varR (o : Option (Option Val)) (h : Heap) : Res Val := match o with
  | some (some v) => .ok v h
  | _ => .bad
theorem varR_ok (v : Val) (h : Heap) : varR (some (some v)) h = .ok v h := rr rfl
def andR (x : Val) (k : Res Val) (h : Heap) : Res Val := match x with
  | .bl true => k
  | .bl false => .ok (.bl false) h
  | _ => .bad
theorem andR_t (k : Res Val) (h : Heap) : andR (.bl true) k h = k := rr rfl
theorem andR_f (k : Res Val) (h : Heap) : andR (.bl false) k h = .ok (.bl false) h := rr rfl
def orR (x : Val) (k : Res Val) (h : Heap) : Res Val := match x with
  | .bl true => .ok (.bl true) h
  | .bl false => k
  | _ => .bad
theorem orR_t (k : Res Val) (h : Heap) : orR (.bl true) k h = .ok (.bl true) h := rr rfl
theorem orR_f (k : Res Val) (h : Heap) : orR (.bl false) k h = k := rr rfl
def notR (x : Val) (h : Heap) : Res Val := match x with
  | .bl b => .ok (.bl (!b)) h
  | _ => .bad
theorem notR_b (b : Bool) (h : Heap) : notR (.bl b) h = .ok (.bl (!b)) h := rr rfl
def negR (x : Val) (h : Heap) : Res Val := match x with
  | .int i => .ok (.int (-i)) h
  | _ => .bad
theorem negR_i (i : Int) (h : Heap) : negR (.int i) h = .ok (.int (-i)) h := rr rfl
def partR (x : Val) (h : Heap) : Res (Option Int) := match x with
  | .int i => .ok (some i) h
  | _ => .bad
theorem partR_i (i : Int) (h : Heap) : partR (.int i) h = .ok (some i) h := rr rfl
theorem tru_b (h : Heap) (b : Bool) : truO h (.bl b) = some b := rr rfl
theorem tru_i (h : Heap) (i : Int) : truO h (.int i) = some (decide (i ≠ 0)) := rr rfl
theorem tru_n (h : Heap) : truO h .non = some false := rr rfl
theorem tru_l (h : Heap) (xs : List Val) : truO h (.lst xs) = some (!xs.isEmpty) := rr rfl
theorem tru_t (h : Heap) (xs : List Val) : truO h (.tup xs) = some (!xs.isEmpty) := rr rfl
theorem tru_s {x : Str} (h : Heap) (e : x.length ≤ 16777216) : truO h (.str x) = some (decide (x.length ≠ 0)) := if_pos e
def lstR (k : Bool) (vs : List Val) (h : Heap) : Res Val :=
  if vs.length ≤ 1000 then (if k then (if pureL vs then .ok (.ref h.length) (h ++ [.lst vs]) else .bad) else .ok (.lst vs) h) else .bad
def tupR (vs : List Val) (h : Heap) : Res Val := if vs.length ≤ 1000 then .ok (.tup vs) h else .bad
def ixR (x y : Val) (h : Heap) : Res Val := match y with
  | .int i => (match x with
    | .str z => if z.length ≤ 16777216 then Res.opt (L2.atI z.cps.toList i) fun d => .ok (.str ⟨#[d]⟩) h else .bad
    | x => Res.opt ((asSeq h x).bind fun xs => L2.atI xs i) fun v => .ok v h)
  | _ => .bad
theorem ixR_l (xs : List Val) (i : Int) (h : Heap) : ixR (.lst xs) (.int i) h = Res.opt (L2.atI xs i) fun v => .ok v h := rr rfl
theorem ixR_r (xs : List Val) (i : Int) (h : Heap) : ixR (.rol xs) (.int i) h = Res.opt (L2.atI xs i) fun v => .ok v h := rr rfl
theorem ixR_t (xs : List Val) (i : Int) (h : Heap) : ixR (.tup xs) (.int i) h = Res.opt (L2.atI xs i) fun v => .ok v h := rr rfl
theorem ixR_h (n : Nat) (i : Int) (h : Heap) : ixR (.ref n) (.int i) h = Res.opt ((asSeq h (.ref n)).bind fun xs => L2.atI xs i) fun v => .ok v h := rr rfl
theorem ixR_s {z : Str} (i : Int) (h : Heap) (e : z.length ≤ 16777216) : ixR (.str z) (.int i) h = Res.opt (L2.atI z.cps.toList i) fun d => .ok (.str ⟨#[d]⟩) h := if_pos e
section
variable (c : Cf) (l : Loc) (h : Heap)
theorem e_var (i : Nat) : evalE c (.var i) l h = varR l[i]? h := rr rfl
theorem e_con (v : Val) : evalE c (.con v) l h = .ok v h := rr rfl
theorem e_glo (x : Str) : evalE c (.glo x) l h = Res.opt (c.gv x) fun v => .ok v h := rr rfl
theorem e_d0 : evalE c .d0 l h = .ok (.dct [] []) h := rr rfl
theorem e_d1 (k : L2.Key) (v : Val) : evalE c (.d1 k v) l h = .ok (.dct [k] [v]) h := rr rfl
theorem e_chn (o1 o2 : CmpOp) (a b d : E) : evalE c (.chn o1 o2 a b d) l h = (evalE c a l h).bind fun x h1 => (evalE c b l h1).bind fun y h2 => Res.opt (cmpop h2 o1 x y) fun v =>
      if v then (evalE c d l h2).bind fun z h3 => Res.opt (cmpop h3 o2 y z) fun w => .ok (.bl w) h3 else .ok (.bl false) h2 := rr rfl
theorem e_sl (a lo hi : E) : evalE c (.sl a lo hi) l h = (evalE c a l h).bind fun x h1 => (evalO c lo l h1).bind fun i h2 => (evalO c hi l h2).bind fun j h3 => Res.opt (slO h3 x i j) fun v => .ok v h3 := rr rfl
theorem e_lc (k : Bool) (t : T) (own : List Nat) (it cd elt : E) : evalE c (.lc k t own it cd elt) l h = (evalI c it l h).bind fun xs h1 => (compL (evalT c cd) (evalE c elt) t (wipeL l own) h1.length xs (h1 ++ [.lst []])).bind fun _ h2 => compF k h1.length h2 := rr rfl
theorem o_nl : evalO c .nl l h = .ok none h := rr rfl
theorem o_cs (a : E) : evalO c (.cs a .nl) l h = (evalE c a l h).bind partR := rr rfl
theorem t_nl : evalT c .nl l h = .ok true h := rr rfl
theorem t_chn (o1 o2 : CmpOp) (a b d : E) : evalT c (.chn o1 o2 a b d) l h = (evalE c a l h).bind fun x h1 => (evalE c b l h1).bind fun y h2 => Res.opt (cmpop h2 o1 x y) fun v =>
      if v then (evalE c d l h2).bind fun z h3 => Res.opt (cmpop h3 o2 y z) fun w => .ok w h3 else .ok false h2 := rr rfl
theorem r_asgc (i : Nat) (e : E) : run c (.asgc i e) l h = (evalE c e l h).out l fun v h1 => .nx (l.set i (some v)) h1 := rr rfl
theorem e_bt (n : String) : evalE c (.bt n) l h = .ok (.ty n) h := rr rfl
theorem e_tup (es : E) : evalE c (.tup es) l h = (evalEs c es l h).bind tupR := rr rfl
theorem e_lst (k : Bool) (es : E) : evalE c (.lst k es) l h = (evalEs c es l h).bind (lstR k) := rr rfl
theorem e_bin (op : Operator) (a b : E) : evalE c (.bin op a b) l h = (evalE c a l h).bind fun x h1 => (evalE c b l h1).bind fun y h2 => Res.opt (binop h2 op x y) fun v => .ok v h2 := rr rfl
theorem e_neg (a : E) : evalE c (.neg a) l h = (evalE c a l h).bind negR := rr rfl
theorem e_cmp (op : CmpOp) (a b : E) : evalE c (.cmp op a b) l h = (evalE c a l h).bind fun x h1 => (evalE c b l h1).bind fun y h2 => Res.opt (cmpop h2 op x y) fun v => .ok (.bl v) h2 := rr rfl
theorem e_and (a b : E) : evalE c (.and a b) l h = (evalE c a l h).bind fun x h1 => andR x (evalE c b l h1) h1 := rr rfl
theorem e_or (a b : E) : evalE c (.or a b) l h = (evalE c a l h).bind fun x h1 => orR x (evalE c b l h1) h1 := rr rfl
theorem e_not (a : E) : evalE c (.not a) l h = (evalE c a l h).bind notR := rr rfl
theorem e_ife (t a b : E) : evalE c (.ife t a b) l h = (evalT c t l h).bind fun x h1 => if x then evalE c a l h1 else evalE c b l h1 := rr rfl
theorem e_cal (f : Nat) (es : E) : evalE c (.cal f es) l h = (evalEs c es l h).bind fun vs h1 => c.call f vs h1 := rr rfl
theorem e_bi (f : Bi) (es : E) : evalE c (.bi f es) l h = (evalEs c es l h).bind fun vs h1 => Res.opt (biF h1 f vs) fun v => .ok v h1 := rr rfl
theorem e_bm (m : Bm) (o es : E) : evalE c (.bm m o es) l h = (evalE c o l h).bind fun x h1 => if bmTy m x then (evalEs c es l h1).bind fun vs h2 => Res.opt (bmF h2 m x vs) fun p => .ok p.1 p.2 else .bad := rr rfl
theorem e_ix (a b : E) : evalE c (.ix a b) l h = (evalE c a l h).bind fun x h1 => (evalE c b l h1).bind fun y h2 => ixR x y h2 := rr rfl
theorem es_nl : evalEs c .nl l h = .ok [] h := rr rfl
theorem es_cs (a r : E) : evalEs c (.cs a r) l h = (evalE c a l h).bind fun x h1 => (evalEs c r l h1).bind fun xs h2 => .ok (x :: xs) h2 := rr rfl
theorem t_and (a b : E) : evalT c (.and a b) l h = (evalT c a l h).bind fun x h1 => if x then evalT c b l h1 else .ok false h1 := rr rfl
theorem t_or (a b : E) : evalT c (.or a b) l h = (evalT c a l h).bind fun x h1 => if x then .ok true h1 else evalT c b l h1 := rr rfl
theorem t_not (a : E) : evalT c (.not a) l h = (evalT c a l h).bind fun x h1 => .ok (!x) h1 := rr rfl
theorem t_cmp (op : CmpOp) (a b : E) : evalT c (.cmp op a b) l h = (evalE c a l h).bind fun x h1 => (evalE c b l h1).bind fun y h2 => Res.opt (cmpop h2 op x y) fun v => .ok v h2 := rr rfl
theorem t_tst (a : E) : evalT c (.tst a) l h = (evalE c a l h).bind fun x h1 => Res.opt (truO h1 x) fun b => .ok b h1 := rr rfl
theorem i_seq (e : E) : evalI c (.iSeq e) l h = (evalE c e l h).bind seqItems := rr rfl
theorem i_rng (es : E) : evalI c (.iRng es) l h = (evalEs c es l h).bind rngItems := rr rfl
theorem r_nop : run c .nop l h = .nx l h := rr rfl
theorem r_seq (s r : S) : run c (.seq s r) l h = (run c s l h).thn (run c r) := rr rfl
theorem r_asg (t : T) (e : E) : run c (.asg t e) l h = (evalE c e l h).out l fun v h1 => Out.opt (store t v l) fun l1 => .nx l1 h1 := rr rfl
theorem r_par (i j : Nat) (es : E) : run c (.par i j es) l h = (evalEs c es l h).out l fun vs h1 => Out.opt (store2 i j vs l) fun l1 => .nx l1 h1 := rr rfl
theorem r_setix (o i e : E) : run c (.setix o i e) l h = (evalE c e l h).out l fun v h1 => (evalE c o l h1).out l fun x h2 => (evalE c i l h2).out l fun y h3 => Out.opt (setixO h3 x y v) fun h4 => .nx l h4 := rr rfl
theorem r_ret (e : E) : run c (.ret e) l h = (evalE c e l h).out l fun v h1 => .rt v h1 := rr rfl
theorem r_exp (e : E) : run c (.exp e) l h = (evalE c e l h).out l fun _ h1 => .nx l h1 := rr rfl
theorem r_ite (t : E) (a b : S) : run c (.ite t a b) l h = (evalT c t l h).out l fun x h1 => if x then run c a l h1 else run c b l h1 := rr rfl
theorem r_whl (t : E) (b : S) : run c (.whl t b) l h = whileN (evalT c t) (run c b) c.W l h := rr rfl
theorem r_for (t : T) (it : E) (b : S) : run c (.for_ t it b) l h = (evalI c it l h).out l fun xs h1 => forL t (run c b) xs l h1 := rr rfl
theorem r_scope (b : S) : run c (.scope b) l h = (run c b l h).trim h.length := rr rfl
theorem w_succ (t : Loc → Heap → Res Bool) (b : Loc → Heap → Out) (n : Nat) : whileN t b (n + 1) l h = (t l h).out l fun x h1 => if x then (b l h1).turn (whileN t b n) else .nx l h1 := rr rfl
theorem fl_nil (t : T) (b : Loc → Heap → Out) : forL t b [] l h = .nx l h := rr rfl
theorem fl_cons (t : T) (b : Loc → Heap → Out) (x : Val) (xs : List Val) : forL t b (x :: xs) l h = Out.opt (store t x l) fun l1 => (b l1 h).turn (forL t b xs) := rr rfl
end
theorem st_nm (i : Nat) (v : Val) (l : Loc) : store (.nm i) v l = some (l.set i (some v)) := rr rfl
theorem st_tup (ts : T) (xs : List Val) (l : Loc) : store (.tup ts) (.tup xs) l = storeL ts xs l := rr rfl
theorem st_nl (l : Loc) : storeL .nl [] l = some l := rr rfl
theorem st_cs (t r : T) (x : Val) (xs : List Val) (l : Loc) : storeL (.cs t r) (x :: xs) l = (store t x l).bind fun l1 => storeL r xs l1 := rr rfl
theorem st_2 (i j : Nat) (x y : Val) (l : Loc) : store2 i j [x, y] l = some ((l.set i (some x)).set j (some y)) := rr rfl
theorem bin_ii (h : Heap) (op : Operator) (i j : Int) : binop h op (.int i) (.int j) = binI op i j := rr rfl
theorem bin_ss (h : Heap) (x y : Str) : binop h .Add (.str x) (.str y) = if x.length + y.length ≤ 16777216 then some (.str (x ++ y)) else none := rr rfl
theorem bin_tt (h : Heap) (xs ys : List Val) : binop h .Add (.tup xs) (.tup ys) = if xs.length + ys.length ≤ 100000 then some (.tup (xs ++ ys)) else none := rr rfl
theorem bin_add (i j : Int) : binI .Add i j = some (.int (i + j)) := rr rfl
theorem bin_sub (i j : Int) : binI .Sub i j = some (.int (i - j)) := rr rfl
theorem bin_mul {i j : Int} (h : bits i + bits j ≤ 134217728) : binI .Mult i j = some (.int (i * j)) := if_pos h
theorem bin_div {i j : Int} (h0 : j ≠ 0) (h : Builtin.divisionGoesByPylong i j = false) : binI .FloorDiv i j = some (.int (i.fdiv j)) := if_pos ⟨h0, h⟩
theorem bin_mod {i j : Int} (h0 : j ≠ 0) : binI .Mod i j = some (.int (i.fmod j)) := if_pos h0
theorem bin_pow {i j : Int} (h0 : 0 ≤ j) (h : (bits i : Int) * j ≤ 2 ^ 27) : binI .Pow i j = some (.int (i ^ j.toNat)) := if_pos ⟨h0, h⟩
theorem bin_shl {i j : Int} (h0 : 0 ≤ j) (h : (bits i : Int) + j ≤ 2 ^ 27) : binI .LShift i j = some (.int (i * 2 ^ j.toNat)) := if_pos ⟨h0, h⟩
theorem cmp_ii (h : Heap) (op : CmpOp) (i j : Int) : cmpop h op (.int i) (.int j) = cmpI op i j := rr rfl
theorem cmp_ss (h : Heap) (op : CmpOp) (i j : Str) : cmpop h op (.str i) (.str j) = cmpS op i j := rr rfl
theorem cs_eq (i j : Str) : cmpS .Eq i j = some (decide (i = j)) := rr rfl
theorem cs_ne (i j : Str) : cmpS .NotEq i j = some (!decide (i = j)) := rr rfl
theorem cs_lt (i j : Str) : cmpS .Lt i j = some (decide (i.cps.toList < j.cps.toList)) := rr rfl
theorem cs_gt (i j : Str) : cmpS .Gt i j = some (decide (j.cps.toList < i.cps.toList)) := rr rfl
theorem cs_in (i j : Str) : cmpS .In i j = some (strIn i j) := rr rfl
theorem cs_nin (i j : Str) : cmpS .NotIn i j = some (!strIn i j) := rr rfl
theorem cmp_eq (i j : Int) : cmpI .Eq i j = some (decide (i = j)) := rr rfl
theorem cmp_ne (i j : Int) : cmpI .NotEq i j = some (!decide (i = j)) := rr rfl
theorem cmp_lt (i j : Int) : cmpI .Lt i j = some (decide (i < j)) := rr rfl
theorem cmp_le (i j : Int) : cmpI .LtE i j = some (decide (i ≤ j)) := rr rfl
theorem cmp_gt (i j : Int) : cmpI .Gt i j = some (decide (j < i)) := rr rfl
theorem cmp_ge (i j : Int) : cmpI .GtE i j = some (decide (j ≤ i)) := rr rfl
theorem seq_lst (h : Heap) (xs : List Val) : asSeq h (.lst xs) = some xs := rr rfl
theorem seq_rol (h : Heap) (xs : List Val) : asSeq h (.rol xs) = some xs := rr rfl
theorem seq_tup (h : Heap) (xs : List Val) : asSeq h (.tup xs) = some xs := rr rfl
theorem seq_ref {h : Heap} {n : Nat} {xs : List Val} (e : h[n]? = some (.lst xs)) : asSeq h (.ref n) = some xs := by
  show (match h[n]? with | some (.lst xs) => some xs | none => none) = _
  rw [e]
/-- the list of an object -/
def objL : Option Obj → Option (List Val)
  | some (.lst xs) => some xs
  | none => none
theorem objL_s (xs : List Val) : objL (some (.lst xs)) = some xs := rr rfl
theorem seq_refO (h : Heap) (n : Nat) : asSeq h (.ref n) = objL h[n]? := rr rfl
def setL (h : Heap) (n : Nat) (k : Int) (e : Val) (xs : List Val) : Option Heap := match L2.ixN xs.length k with
  | some j => if pure0 e then some (h.set n (.lst (xs.set j e))) else none
  | none => none
theorem setix_ref (h : Heap) (n : Nat) (k : Int) (e : Val) : setixO h (.ref n) (.int k) e = (objL h[n]?).bind (setL h n k e) := by
  show (match h[n]? with
    | some (.lst xs) => (match L2.ixN xs.length k with
      | some j => if pure0 e then some (h.set n (.lst (xs.set j e))) else none
      | none => none)
    | none => none) = _
  cases q : h[n]? with
  | none => rfl
  | some o =>
    cases o with
    | lst xs => rfl
theorem setL_0 (h : Heap) (n : Nat) (e x : Val) (xs : List Val) (p : pure0 e = true) : setL h n 0 e (x :: xs) = some (h.set n (.lst (e :: xs))) := by
  have z : L2.ixN (x :: xs).length 0 = some 0 := by
    unfold L2.ixN
    rw [if_pos (by decide), if_pos (by rw [List.length_cons]; omega)]
    rfl
  unfold setL
  rw [z]
  exact if_pos p
theorem setL_1 (h : Heap) (n : Nat) (e x y : Val) (xs : List Val) (p : pure0 e = true) : setL h n 1 e (x :: y :: xs) = some (h.set n (.lst (x :: e :: xs))) := by
  have z : L2.ixN (x :: y :: xs).length 1 = some 1 := by
    unfold L2.ixN
    rw [if_pos (by decide), if_pos (by rw [List.length_cons, List.length_cons]; omega)]
    rfl
  unfold setL
  rw [z]
  exact if_pos p
theorem setL_2 (h : Heap) (n : Nat) (e x y w : Val) (xs : List Val) (p : pure0 e = true) : setL h n 2 e (x :: y :: w :: xs) = some (h.set n (.lst (x :: y :: e :: xs))) := by
  have z : L2.ixN (x :: y :: w :: xs).length 2 = some 2 := by
    unfold L2.ixN
    rw [if_pos (by decide), if_pos (by rw [List.length_cons, List.length_cons, List.length_cons]; omega)]
    rfl
  unfold setL
  rw [z]
  exact if_pos p
theorem bm_rev (h : Heap) (n : Nat) : bmF h .reverse (.ref n) [] = (objL h[n]?).map fun xs => (.non, h.set n (.lst xs.reverse)) := by
  show (match h[n]? with | some (.lst xs) => some (Val.non, h.set n (.lst xs.reverse)) | none => none) = _
  cases q : h[n]? with
  | none => rfl
  | some o =>
    cases o with
    | lst xs => rfl
theorem bi_abs (h : Heap) (i : Int) : biF h .abs [.int i] = some (.int i.natAbs) := by
  show some (Val.int (if i < 0 then -i else i)) = _
  congr 2
  split <;> omega
theorem bi_max (h : Heap) (i j : Int) : biF h .max2 [.int i, .int j] = some (.int (max i j)) := by
  show some (Val.int (if j > i then j else i)) = _
  congr 2
  split <;> omega
theorem bi_min (h : Heap) (i j : Int) : biF h .min2 [.int i, .int j] = some (.int (min i j)) := by
  show some (Val.int (if j < i then j else i)) = _
  congr 2
  split <;> omega
theorem bi_int_i (h : Heap) (i : Int) : biF h .int [.int i] = some (.int i) := rr rfl
theorem bi_int_b (h : Heap) (b : Bool) : biF h .int [.bl b] = some (.int (if b then 1 else 0)) := rr rfl
theorem bi_len_l (h : Heap) (xs : List Val) : biF h .len [.lst xs] = some (.int xs.length) := rr rfl
theorem bi_len_r (h : Heap) (xs : List Val) : biF h .len [.rol xs] = some (.int xs.length) := rr rfl
theorem bi_len_h (h : Heap) (n : Nat) : biF h .len [.ref n] = (objL h[n]?).map fun xs => .int xs.length := by
  show (match asSeq h (.ref n) with | some xs => some (Val.int xs.length) | none => none) = _
  rw [seq_refO]
  cases objL h[n]? <;> rfl
theorem bi_len_s {x : Str} (h : Heap) (e : x.length ≤ 16777216) : biF h .len [.str x] = some (.int x.length) := if_pos e
theorem bi_len_t (h : Heap) (xs : List Val) : biF h .len [.tup xs] = some (.int xs.length) := rr rfl
theorem bi_isi (h : Heap) (v : Val) (n : String) : biF h .isi [v, .ty n] = (tyName h v).bind fun t => (L2.kitB t n).map .bl := by
  show (match tyName h v with | some t => (L2.kitB t n).map Val.bl | none => none) = _
  cases tyName h v <;> rfl
theorem ty_non (h : Heap) : tyName h .non = some "NoneType" := rr rfl
theorem ty_bl (h : Heap) (b : Bool) : tyName h (.bl b) = some "bool" := rr rfl
theorem ty_int (h : Heap) (i : Int) : tyName h (.int i) = some "int" := rr rfl
theorem ty_str (h : Heap) (x : Str) : tyName h (.str x) = some "str" := rr rfl
theorem ty_tup (h : Heap) (xs : List Val) : tyName h (.tup xs) = some "tuple" := rr rfl
theorem ty_lst (h : Heap) (xs : List Val) : tyName h (.lst xs) = some "list" := rr rfl
theorem ty_rol (h : Heap) (xs : List Val) : tyName h (.rol xs) = some "list" := rr rfl
theorem ty_dct (h : Heap) (ks : List L2.Key) (xs : List Val) : tyName h (.dct ks xs) = some "dict" := rr rfl
theorem kit_int_int : L2.kitB "int" "int" = some true := by decide +kernel
theorem kit_int_bool : L2.kitB "int" "bool" = some false := by decide +kernel
theorem kit_int_str : L2.kitB "int" "str" = some false := by decide +kernel
theorem kit_int_list : L2.kitB "int" "list" = some false := by decide +kernel
theorem kit_int_tuple : L2.kitB "int" "tuple" = some false := by decide +kernel
theorem kit_int_dict : L2.kitB "int" "dict" = some false := by decide +kernel
theorem kit_bool_int : L2.kitB "bool" "int" = some true := by decide +kernel
theorem kit_bool_bool : L2.kitB "bool" "bool" = some true := by decide +kernel
theorem kit_bool_str : L2.kitB "bool" "str" = some false := by decide +kernel
theorem kit_bool_list : L2.kitB "bool" "list" = some false := by decide +kernel
theorem kit_bool_tuple : L2.kitB "bool" "tuple" = some false := by decide +kernel
theorem kit_bool_dict : L2.kitB "bool" "dict" = some false := by decide +kernel
theorem kit_str_int : L2.kitB "str" "int" = some false := by decide +kernel
theorem kit_str_bool : L2.kitB "str" "bool" = some false := by decide +kernel
theorem kit_str_str : L2.kitB "str" "str" = some true := by decide +kernel
theorem kit_str_list : L2.kitB "str" "list" = some false := by decide +kernel
theorem kit_str_tuple : L2.kitB "str" "tuple" = some false := by decide +kernel
theorem kit_str_dict : L2.kitB "str" "dict" = some false := by decide +kernel
theorem kit_none_int : L2.kitB "NoneType" "int" = some false := by decide +kernel
theorem kit_none_bool : L2.kitB "NoneType" "bool" = some false := by decide +kernel
theorem kit_none_str : L2.kitB "NoneType" "str" = some false := by decide +kernel
theorem kit_none_list : L2.kitB "NoneType" "list" = some false := by decide +kernel
theorem kit_none_tuple : L2.kitB "NoneType" "tuple" = some false := by decide +kernel
theorem kit_none_dict : L2.kitB "NoneType" "dict" = some false := by decide +kernel
theorem kit_list_int : L2.kitB "list" "int" = some false := by decide +kernel
theorem kit_list_bool : L2.kitB "list" "bool" = some false := by decide +kernel
theorem kit_list_str : L2.kitB "list" "str" = some false := by decide +kernel
theorem kit_list_list : L2.kitB "list" "list" = some true := by decide +kernel
theorem kit_list_tuple : L2.kitB "list" "tuple" = some false := by decide +kernel
theorem kit_list_dict : L2.kitB "list" "dict" = some false := by decide +kernel
theorem kit_tuple_int : L2.kitB "tuple" "int" = some false := by decide +kernel
theorem kit_tuple_bool : L2.kitB "tuple" "bool" = some false := by decide +kernel
theorem kit_tuple_str : L2.kitB "tuple" "str" = some false := by decide +kernel
theorem kit_tuple_list : L2.kitB "tuple" "list" = some false := by decide +kernel
theorem kit_tuple_tuple : L2.kitB "tuple" "tuple" = some true := by decide +kernel
theorem kit_tuple_dict : L2.kitB "tuple" "dict" = some false := by decide +kernel
theorem kit_dict_int : L2.kitB "dict" "int" = some false := by decide +kernel
theorem kit_dict_bool : L2.kitB "dict" "bool" = some false := by decide +kernel
theorem kit_dict_str : L2.kitB "dict" "str" = some false := by decide +kernel
theorem kit_dict_list : L2.kitB "dict" "list" = some false := by decide +kernel
theorem kit_dict_tuple : L2.kitB "dict" "tuple" = some false := by decide +kernel
theorem kit_dict_dict : L2.kitB "dict" "dict" = some true := by decide +kernel
theorem bt_bits (i : Int) : bmTy .bits (.int i) = true := rr rfl
theorem bt_rev (n : Nat) : bmTy .reverse (.ref n) = true := rr rfl
theorem bt_app (n : Nat) : bmTy .append (.ref n) = true := rr rfl
theorem bt_join (x : Str) : bmTy .join (.str x) = true := rr rfl
theorem bm_join (h : Heap) (a : Str) (v : Val) : bmF h .join (.str a) [v] = ((asSeq h v).bind strsOf).bind fun ys => if (ys.map (·.length)).sum + ys.length * a.length ≤ 16777216 then some (.str (Txt.join a ys), h) else none := by
  show (match (asSeq h v).bind strsOf with | some ys => _ | none => none) = _
  cases (asSeq h v).bind strsOf <;> rfl
theorem bm_app (h : Heap) (n : Nat) (v : Val) : bmF h .append (.ref n) [v] = (appO h n v).map fun h2 => (.non, h2) := rr rfl
theorem app_obj {h : Heap} {n : Nat} {xs : List Val} {v : Val} (e : h[n]? = some (.lst xs)) (p : pure0 v = true) (l : xs.length < 100000) : appO h n v = some (h.set n (.lst (xs ++ [v]))) := by
  unfold appO
  rw [e]
  exact if_pos ⟨p, l⟩
theorem bm_bits (h : Heap) (i : Int) : bmF h .bits (.int i) [] = some (.int (bits i : Nat), h) := rr rfl
theorem rng_i {j : Int} {h : Heap} (h0 : j < 2 ^ 62) (h1 : -(2 ^ 62) ≤ j) : rngItems [.int j] h = .ok (rangeL 0 j.toNat) h := if_pos ⟨h0, h1⟩
theorem seqI_l (xs : List Val) (h : Heap) : seqItems (.lst xs) h = .ok xs h := rr rfl
theorem seqI_r (xs : List Val) (h : Heap) : seqItems (.rol xs) h = .ok xs h := rr rfl
theorem seqI_s (x : Str) (h : Heap) : seqItems (.str x) h = .ok (x.cps.toList.map fun d => .str ⟨#[d]⟩) h := rr rfl
theorem rng_2 {i j : Int} {h : Heap} (h0 : (j < 2 ^ 62 ∧ -(2 ^ 62) ≤ j) ∧ i < 2 ^ 62 ∧ -(2 ^ 62) ≤ i) : rngItems [.int i, .int j] h = .ok (rangeL i (j - i).toNat) h := if_pos h0
theorem seqI_t (xs : List Val) (h : Heap) : seqItems (.tup xs) h = .ok xs h := rr rfl
theorem lstR_v {vs : List Val} (h : Heap) (e : vs.length ≤ 1000) : lstR false vs h = .ok (.lst vs) h := if_pos e
theorem lstR_h {vs : List Val} (h : Heap) (e : vs.length ≤ 1000) (p : pureL vs = true) : lstR true vs h = .ok (.ref h.length) (h ++ [.lst vs]) := by
  unfold lstR
  rw [if_pos e, if_pos rfl, if_pos p]
theorem tupR_v {vs : List Val} (h : Heap) (e : vs.length ≤ 1000) : tupR vs h = .ok (.tup vs) h := if_pos e
theorem rl_nil (b : Nat) : refsLtL b [] = true := rr rfl
theorem rl_cons (b : Nat) (x : Val) (xs : List Val) : refsLtL b (x :: xs) = (refsLt b x && refsLtL b xs) := rr rfl
theorem rv_int (b : Nat) (i : Int) : refsLt b (.int i) = true := rr rfl
theorem rv_bl (b : Nat) (i : Bool) : refsLt b (.bl i) = true := rr rfl
theorem rv_non (b : Nat) : refsLt b .non = true := rr rfl
theorem rv_str (b : Nat) (s : Str) : refsLt b (.str s) = true := rr rfl
theorem rv_tup (b : Nat) (xs : List Val) : refsLt b (.tup xs) = refsLtL b xs := rr rfl
theorem rv_lst (b : Nat) (xs : List Val) : refsLt b (.lst xs) = refsLtL b xs := rr rfl
/-- a def's end -/
def endF (f : Fn) (b : Nat) : Out → Res Val
  | .nx _ h1 => finish f b .non h1
  | .rt v h1 => finish f b v h1
  | .exc c v _ h1 => Res.opt (fz h1 b v) fun w => .exc c w (h1.take b)
  | _ => .bad
theorem end_nx (f : Fn) (b : Nat) (l : Loc) (h : Heap) : endF f b (.nx l h) = finish f b .non h := rr rfl
theorem end_rt (f : Fn) (b : Nat) (v : Val) (h : Heap) : endF f b (.rt v h) = finish f b v h := rr rfl
theorem callF_succ {P : List Fn} {gv : Str → Option Val} {W k i : Nat} {vs : List Val} {h : Heap} {f : Fn} (hf : P[i]? = some f) (hl : vs.length = f.np) : callF P W gv (k + 1) i vs h = endF f h.length (run ⟨callF P W gv k, W, gv⟩ f.body (vs.map some ++ List.replicate (f.n - f.np) none) h) := by
  show (match P[i]? with | none => _ | some f => _) = _
  rw [hf]
  show (if vs.length = f.np then _ else _) = _
  rw [if_pos hl]
  rfl
theorem callF_go {P : List Fn} {gv : Str → Option Val} {W k i : Nat} {vs : List Val} {h : Heap} {f : Fn} (hf : P[i]? = some f) (body : S) (n : Nat) (hl : vs.length = f.np := by rfl) (hb : f.body = body := by rfl) (hn : f.n - f.np = n := by rfl) :
    callF P W gv (k + 1) i vs h = endF f h.length (run ⟨callF P W gv k, W, gv⟩ body (vs.map some ++ List.replicate n none) h) := by
  rw [callF_succ hf hl, hb, hn]
theorem finish_v {f : Fn} {b : Nat} {v : Val} {h : Heap} (e : f.frz = true) (p : refsLt b v = true) (hb : b = h.length) (t : ∀ xs, v ≠ .tup xs) : finish f b v h = .ok v h := by
  unfold finish
  rw [e, if_pos rfl]
  have z : fz h b v = some v := by
    cases v with
    | tup xs => exact absurd rfl (t xs)
    | ref n =>
      show (if n < b then some (Val.ref n) else _) = _
      rw [if_pos (of_decide_eq_true p)]
    | lst xs =>
      show (if refsLtL b xs = true then some (Val.lst xs) else none) = _
      rw [if_pos (show refsLtL b xs = true from p)]
    | rol xs =>
      show (if refsLtL b xs = true then some (Val.rol xs) else none) = _
      rw [if_pos (show refsLtL b xs = true from p)]
    | dct ks xs =>
      show (if refsLtL b xs = true then some (Val.dct ks xs) else none) = _
      rw [if_pos (show refsLtL b xs = true from p)]
    | _ => rfl
  rw [z, hb]
  simp
theorem finish_i {f : Fn} {i : Int} {h : Heap} (e : f.frz = true) : finish f h.length (.int i) h = .ok (.int i) h := finish_v e rfl rfl (fun _ z => nomatch z)
theorem finish_b {f : Fn} {i : Bool} {h : Heap} (e : f.frz = true) : finish f h.length (.bl i) h = .ok (.bl i) h := finish_v e rfl rfl (fun _ z => nomatch z)
theorem finish_bt {f : Fn} {b : Nat} {i : Bool} {h h' : Heap} (e : f.frz = true) (t : h.take b = h') : finish f b (.bl i) h = .ok (.bl i) h' := by
  unfold finish
  rw [e, if_pos rfl]
  show Res.ok (Val.bl i) (h.take b) = _
  rw [t]
theorem finish_it {f : Fn} {b : Nat} {i : Int} {h h' : Heap} (e : f.frz = true) (t : h.take b = h') : finish f b (.int i) h = .ok (.int i) h' := by
  unfold finish
  rw [e, if_pos rfl]
  show Res.ok (Val.int i) (h.take b) = _
  rw [t]
mutual
theorem fz_pure {h : Heap} {b : Nat} : ∀ {v : Val}, refsLt b v = true → fz h b v = some v
  | .non, _ => rfl
  | .bl _, _ => rfl
  | .int _, _ => rfl
  | .str _, _ => rfl
  | .ty _, _ => rfl
  | .ref n, p => by
    show (if n < b then some (Val.ref n) else _) = _
    rw [if_pos (of_decide_eq_true p)]
  | .lst xs, p => by
    show (if refsLtL b xs = true then some (Val.lst xs) else none) = _
    rw [if_pos (show refsLtL b xs = true from p)]
  | .rol xs, p => by
    show (if refsLtL b xs = true then some (Val.rol xs) else none) = _
    rw [if_pos (show refsLtL b xs = true from p)]
  | .dct ks xs, p => by
    show (if refsLtL b xs = true then some (Val.dct ks xs) else none) = _
    rw [if_pos (show refsLtL b xs = true from p)]
  | .tup xs, p => by
    show (match fzL h b xs with | some ys => some (Val.tup ys) | none => none) = _
    rw [fzL_pure (show refsLtL b xs = true from p)]
theorem fzL_pure {h : Heap} {b : Nat} : ∀ {v : List Val}, refsLtL b v = true → fzL h b v = some v
  | [], _ => rfl
  | v :: vs, p => by
    have p2 : (refsLt b v && refsLtL b vs) = true := p
    rw [Bool.and_eq_true] at p2
    show (match fz h b v, fzL h b vs with | some y, some ys => some (y :: ys) | _, _ => none) = _
    rw [fz_pure p2.1, fzL_pure p2.2]
end
/-- a value that meets no new object leaves as it is -/
theorem finish_p {f : Fn} {b : Nat} {v : Val} {h h' : Heap} (e : f.frz = true) (p : refsLt b v = true) (t : h.take b = h') : finish f b v h = .ok v h' := by
  unfold finish
  rw [e, if_pos rfl, fz_pure p, ← t]
  rfl
theorem finish_s {f : Fn} {i : Str} {h : Heap} (e : f.frz = true) : finish f h.length (.str i) h = .ok (.str i) h := finish_p e rfl (by simp)
theorem finish_keep {f : Fn} {b : Nat} {v : Val} {h : Heap} (e : f.frz = false) : finish f b v h = .ok v h := by
  unfold finish
  rw [e, if_neg Bool.false_ne_true]
theorem at0 {A : Type} (x : A) (xs : List A) : L2.atI (x :: xs) 0 = some x := L2.atI_nat (j := 0) rfl
theorem at1 {A : Type} (x y : A) (xs : List A) : L2.atI (x :: y :: xs) 1 = some y := L2.atI_nat (j := 1) rfl
theorem at2 {A : Type} (x y z : A) (xs : List A) : L2.atI (x :: y :: z :: xs) 2 = some z := L2.atI_nat (j := 2) rfl
theorem at3 {A : Type} (x y z w : A) (xs : List A) : L2.atI (x :: y :: z :: w :: xs) 3 = some w := L2.atI_nat (j := 3) rfl
theorem at4 {A : Type} (x y z w v : A) (xs : List A) : L2.atI (x :: y :: z :: w :: v :: xs) 4 = some v := L2.atI_nat (j := 4) rfl
theorem at5 {A : Type} (x0 x1 x2 x3 x4 x5 : A) (xs : List A) : L2.atI (x0 :: x1 :: x2 :: x3 :: x4 :: x5 :: xs) 5 = some x5 := L2.atI_nat (j := 5) rfl
theorem at6 {A : Type} (x0 x1 x2 x3 x4 x5 x6 : A) (xs : List A) : L2.atI (x0 :: x1 :: x2 :: x3 :: x4 :: x5 :: x6 :: xs) 6 = some x6 := L2.atI_nat (j := 6) rfl
theorem at7 {A : Type} (x0 x1 x2 x3 x4 x5 x6 x7 : A) (xs : List A) : L2.atI (x0 :: x1 :: x2 :: x3 :: x4 :: x5 :: x6 :: x7 :: xs) 7 = some x7 := L2.atI_nat (j := 7) rfl
theorem at8 {A : Type} (x0 x1 x2 x3 x4 x5 x6 x7 x8 : A) (xs : List A) : L2.atI (x0 :: x1 :: x2 :: x3 :: x4 :: x5 :: x6 :: x7 :: x8 :: xs) 8 = some x8 := L2.atI_nat (j := 8) rfl
theorem at9 {A : Type} (x0 x1 x2 x3 x4 x5 x6 x7 x8 x9 : A) (xs : List A) : L2.atI (x0 :: x1 :: x2 :: x3 :: x4 :: x5 :: x6 :: x7 :: x8 :: x9 :: xs) 9 = some x9 := L2.atI_nat (j := 9) rfl
theorem at10 {A : Type} (x0 x1 x2 x3 x4 x5 x6 x7 x8 x9 x10 : A) (xs : List A) : L2.atI (x0 :: x1 :: x2 :: x3 :: x4 :: x5 :: x6 :: x7 :: x8 :: x9 :: x10 :: xs) 10 = some x10 := L2.atI_nat (j := 10) rfl
theorem at11 {A : Type} (x0 x1 x2 x3 x4 x5 x6 x7 x8 x9 x10 x11 : A) (xs : List A) : L2.atI (x0 :: x1 :: x2 :: x3 :: x4 :: x5 :: x6 :: x7 :: x8 :: x9 :: x10 :: x11 :: xs) 11 = some x11 := L2.atI_nat (j := 11) rfl
theorem at12 {A : Type} (x0 x1 x2 x3 x4 x5 x6 x7 x8 x9 x10 x11 x12 : A) (xs : List A) : L2.atI (x0 :: x1 :: x2 :: x3 :: x4 :: x5 :: x6 :: x7 :: x8 :: x9 :: x10 :: x11 :: x12 :: xs) 12 = some x12 := L2.atI_nat (j := 12) rfl
theorem at13 {A : Type} (x0 x1 x2 x3 x4 x5 x6 x7 x8 x9 x10 x11 x12 x13 : A) (xs : List A) : L2.atI (x0 :: x1 :: x2 :: x3 :: x4 :: x5 :: x6 :: x7 :: x8 :: x9 :: x10 :: x11 :: x12 :: x13 :: xs) 13 = some x13 := L2.atI_nat (j := 13) rfl
theorem bits_le {x : Int} {n : Nat} (h : x.natAbs < 2 ^ n) : bits x ≤ n := PyProof.Rows.intBits_le h
theorem lt_bits (x : Int) : x.natAbs < 2 ^ bits x := by
  show x.natAbs < 2 ^ Builtin.Int.intBits x
  unfold Builtin.Int.intBits
  split
  · rename_i e
    have z : x = 0 := by simpa using e
    subst z
    decide
  · rename_i e
    have z : x.natAbs ≠ 0 := by simpa using e
    exact (Nat.log2_lt z).mp (Nat.lt_succ_self _)
theorem pylong_small {i j : Int} (h : bits j ≤ 9000) : Builtin.divisionGoesByPylong i j = false := by
  have h1 : j.natAbs.log2 / 30 + 1 ≤ 300 ∨ j = 0 := by
    have h : Builtin.Int.intBits j ≤ 9000 := h
    unfold Builtin.Int.intBits at h
    split at h
    · rename_i e
      exact .inr (by simpa using e)
    · left
      omega
  unfold Builtin.divisionGoesByPylong
  rcases h1 with h1 | h1
  · have z : ((if j == 0 then 0 else j.natAbs.log2 / 30 + 1) : Nat) ≤ 300 := by
      split
      · exact Nat.zero_le _
      · exact h1
    simp only [Bool.and_eq_false_iff, decide_eq_false_iff_not]
    left
    omega
  · subst h1
    rfl
/-! ### slots behind a turn -/
def trim1 (b : Nat) (o : Option Val) : Option Val := match o with
  | some v => if refsLt b v then some v else none
  | none => none
theorem trimL_nil (b : Nat) : trimL b [] = [] := rr rfl
theorem trimL_cons (b : Nat) (o : Option Val) (l : Loc) : trimL b (o :: l) = trim1 b o :: trimL b l := rr rfl
theorem trim1_s {b : Nat} {v : Val} (h : refsLt b v = true) : trim1 b (some v) = some v := if_pos h
theorem refsLtL_ints (b : Nat) : ∀ ns : List Int, refsLtL b (ns.map .int) = true
  | [] => rfl
  | n :: ns => by
    show (true && refsLtL b (ns.map .int)) = true
    rw [refsLtL_ints b ns]
    rfl
theorem rangeL_succ (lo : Int) (n : Nat) : rangeL lo (n + 1) = .int lo :: rangeL (lo + 1) n := rr rfl
theorem rangeL_zero (lo : Int) : rangeL lo 0 = [] := rr rfl
/-! ### written powers -/
theorem p10_6 : binI .Pow 10 6 = some (.int 1000000) := by kernel_rfl
theorem p10_9 : binI .Pow 10 9 = some (.int 1000000000) := by kernel_rfl
theorem p10_10 : binI .Pow 10 10 = some (.int 10000000000) := by kernel_rfl
theorem p10_12 : binI .Pow 10 12 = some (.int 1000000000000) := by kernel_rfl
theorem p10_18 : binI .Pow 10 18 = some (.int 1000000000000000000) := by kernel_rfl
theorem p10_27 : binI .Pow 10 27 = some (.int 1000000000000000000000000000) := by kernel_rfl
theorem p10_30 : binI .Pow 10 30 = some (.int 1000000000000000000000000000000) := by kernel_rfl
/-! ### sizes -/
theorem bits_abs {a b : Int} (h : a.natAbs ≤ b.natAbs) : bits a ≤ bits b := bits_le (Nat.lt_of_le_of_lt h (lt_bits b))
theorem bits_mul (a b : Int) : bits (a * b) ≤ bits a + bits b := bits_le (by
  rw [Int.natAbs_mul, Nat.pow_add]
  exact Nat.mul_lt_mul'' (lt_bits a) (lt_bits b))
theorem two_le {a b : Nat} (h : a ≤ b) : 2 ^ a ≤ 2 ^ b := Nat.pow_le_pow_right (by decide) h
theorem bits_add (a b : Int) : bits (a + b) ≤ max (bits a) (bits b) + 1 := bits_le (by
  have h1 := lt_bits a
  have h2 := lt_bits b
  have h3 := two_le (Nat.le_max_left (bits a) (bits b))
  have h4 := two_le (Nat.le_max_right (bits a) (bits b))
  rw [Nat.pow_succ]
  omega)
theorem bits_sub (a b : Int) : bits (a - b) ≤ max (bits a) (bits b) + 1 := bits_le (by
  have h1 := lt_bits a
  have h2 := lt_bits b
  have h3 := two_le (Nat.le_max_left (bits a) (bits b))
  have h4 := two_le (Nat.le_max_right (bits a) (bits b))
  rw [Nat.pow_succ]
  omega)
theorem bits_neg (a : Int) : bits (-a) ≤ bits a := bits_abs (by omega)
theorem bits_pos {a b : Int} (h0 : 0 ≤ a) (h : a ≤ b) : bits a ≤ bits b := bits_abs (by omega)
theorem bits_nat {n k : Nat} (h : n < 2 ^ k) : bits (n : Int) ≤ k := bits_le (by rw [Int.natAbs_natCast]; exact h)
theorem bits_lt {a : Int} {k : Nat} (h0 : 0 ≤ a) (h : a < 2 ^ k) : bits a ≤ k := by
  obtain ⟨n, rfl⟩ := Int.eq_ofNat_of_zero_le h0
  refine bits_nat ?_
  exact_mod_cast h
theorem fdiv_nat (a b : Nat) : Int.fdiv (a : Int) (b : Int) = ((a / b : Nat) : Int) := by
  rw [Int.fdiv_eq_ediv_of_nonneg _ (by omega)]
  rfl
theorem fmod_nat (a b : Nat) : Int.fmod (a : Int) (b : Int) = ((a % b : Nat) : Int) := by
  rw [Int.fmod_eq_emod_of_nonneg _ (by omega)]
  rfl
theorem fmod_rng (a : Int) {b : Int} (hb : 0 < b) : 0 ≤ a.fmod b ∧ a.fmod b < b := by
  rw [Int.fmod_eq_emod_of_nonneg _ (by omega)]
  exact ⟨Int.emod_nonneg _ (by omega), Int.emod_lt_of_pos _ hb⟩
theorem fdiv_pos {a b : Int} (ha : 0 ≤ a) (hb : 0 < b) : 0 ≤ a.fdiv b ∧ a.fdiv b ≤ a := by
  rw [Int.fdiv_eq_ediv_of_nonneg _ (by omega)]
  exact ⟨Int.ediv_nonneg ha (by omega), Int.ediv_le_self _ ha⟩
theorem nlt_up {a k m : Nat} (h : a < 2 ^ k) (hm : k ≤ m) : a < 2 ^ m := Nat.lt_of_lt_of_le h (two_le hm)
theorem nlt_add {a b k : Nat} (ha : a < 2 ^ k) (hb : b < 2 ^ k) : a + b < 2 ^ (k + 1) := by
  rw [Nat.pow_succ]
  omega
theorem nlt_mul {a b k m : Nat} (ha : a < 2 ^ k) (hb : b < 2 ^ m) : a * b < 2 ^ (k + m) := by
  rw [Nat.pow_add]
  exact Nat.mul_lt_mul'' ha hb
end MP
/-! Whole roots, in plain Lean. -/
namespace MP
theorem isq_ex : ∀ n : Nat, ∃ r : Nat, r * r ≤ n ∧ n < (r + 1) * (r + 1)
  | 0 => ⟨0, by decide, by decide⟩
  | n + 1 => by
    obtain ⟨r, h1, h2⟩ := isq_ex n
    by_cases h : n + 1 < (r + 1) * (r + 1)
    · exact ⟨r, by omega, h⟩
    · refine ⟨r + 1, by omega, ?_⟩
      have e : (r + 1 + 1) * (r + 1 + 1) = (r + 1) * (r + 1) + 2 * (r + 1) + 1 := by
        simp only [Nat.add_mul, Nat.mul_add, Nat.one_mul, Nat.mul_one]
        omega
      omega
noncomputable def isq (n : Nat) : Nat := Classical.choose (isq_ex n)
theorem isq_le (n : Nat) : isq n * isq n ≤ n := (Classical.choose_spec (isq_ex n)).1
theorem lt_isq (n : Nat) : n < (isq n + 1) * (isq n + 1) := (Classical.choose_spec (isq_ex n)).2
theorem sq_le {a b : Nat} (h : a ≤ b) : a * a ≤ b * b := Nat.mul_le_mul h h
theorem le_of_sq {a b : Nat} (h : a * a < (b + 1) * (b + 1)) : a ≤ b := by
  by_cases c : a ≤ b
  · exact c
  · have z := sq_le (show b + 1 ≤ a by omega)
    omega
theorem isq_eq {n r : Nat} (h1 : r * r ≤ n) (h2 : n < (r + 1) * (r + 1)) : isq n = r := by
  have a := isq_le n
  have b := lt_isq n
  have c : r ≤ isq n := le_of_sq (by omega)
  have d : isq n ≤ r := le_of_sq (by omega)
  omega
/-- a Newton step stays at or above the root -/
theorem newton_ge {n x : Nat} (hx : 0 < x) : isq n ≤ (x + n / x) / 2 := by
  generalize hs : isq n = s
  have h1 := isq_le n
  rw [hs] at h1
  have key : 2 * s ≤ x + n / x := by
    by_cases c : 2 * s ≤ x
    · exact Nat.le_trans c (Nat.le_add_right _ _)
    · have e : (2 * s - x) * x ≤ n := by
        refine Nat.le_trans ?_ h1
        obtain ⟨d, hd⟩ : ∃ d, 2 * s = x + d := ⟨2 * s - x, by omega⟩
        have e2 : 2 * s - x = d := by omega
        rw [e2]
        have e3 : (2 * s) * (2 * s) = (x + d) * (x + d) := by rw [hd]
        have e4 : (2 * s) * (2 * s) = 4 * (s * s) := by
          rw [Nat.mul_mul_mul_comm]
        have e5 : (x + d) * (x + d) = x * x + 2 * (d * x) + d * d := by
          simp only [Nat.add_mul, Nat.mul_add]
          rw [Nat.mul_comm x d]
          omega
        have e6 : 2 * (d * x) ≤ x * x + d * d := by
          rcases Nat.le_total d x with q | q
          · obtain ⟨t, rfl⟩ := Nat.exists_eq_add_of_le q
            simp only [Nat.add_mul, Nat.mul_add]
            rw [Nat.mul_comm t d]
            have := Nat.zero_le (t * t)
            omega
          · obtain ⟨t, rfl⟩ := Nat.exists_eq_add_of_le q
            simp only [Nat.add_mul, Nat.mul_add]
            rw [Nat.mul_comm t x]
            have := Nat.zero_le (t * t)
            omega
        omega
      have := (Nat.le_div_iff_mul_le hx).mpr e
      omega
  omega
/-- where it does not go down, it is there -/
theorem newton_end {n x : Nat} (hx : 0 < x) (h : x ≤ (x + n / x) / 2) : x * x ≤ n := by
  have h1 : x ≤ n / x := by omega
  have := (Nat.le_div_iff_mul_le hx).mp h1
  exact this
theorem isq_pos {n : Nat} (h : 0 < n) : 0 < isq n := by
  have := lt_isq n
  rcases Nat.eq_zero_or_pos (isq n) with z | z
  · rw [z] at this
    omega
  · exact z
theorem isq_mono {a b : Nat} (h : a ≤ b) : isq a ≤ isq b := by
  have h1 := isq_le a
  have h2 := lt_isq b
  exact le_of_sq (by omega)
theorem isq_le_pow {n k : Nat} (h : n < 2 ^ (2 * k)) : isq n < 2 ^ k := by
  have h1 := isq_le n
  rcases Nat.lt_or_ge (isq n) (2 ^ k) with c | c
  · exact c
  · have := sq_le c
    rw [← Nat.pow_add] at this
    rw [Nat.two_mul] at h
    omega
end MP
/-! Defs that many laws share: the draws, whole roots, the greatest common divisor. -/
namespace MP
open PySem
theorem setix_at {h : Heap} {n j : Nat} {k : Int} {xs : List Val} {e : Val} (hn : h[n]? = some (.lst xs)) (hj : L2.ixN xs.length k = some j) (p : pure0 e = true) : setixO h (.ref n) (.int k) e = some (h.set n (.lst (xs.set j e))) := by
  unfold setixO
  simp only [hn, hj]
  rw [if_pos p]
theorem set_get {h : Heap} {r : Nat} {o o' : Obj} (hr : h[r]? = some o) : (h.set r o')[r]? = some o' := List.getElem?_set_self (List.getElem?_eq_some_iff.mp hr).1
theorem ix3_0 {x y z : Val} : L2.ixN [x, y, z].length 0 = some 0 := rfl
theorem ix3_2 {x y z : Val} : L2.ixN [x, y, z].length 2 = some 2 := rfl
local macro_rules | `(tactic| walk_at "mp") => `(tactic| try simp only [e_var, e_con, e_bt, e_glo, e_d0, e_d1, e_tup, e_lst, e_bin, e_neg, e_cmp, e_chn, e_sl, e_lc, e_and, e_or, e_not, e_ife, e_cal, e_bi, e_bm, e_ix, es_nl, es_cs, o_nl, o_cs, t_nl, t_and, t_or, t_not, t_cmp, t_chn, t_tst, i_seq, i_rng, r_nop, r_seq, r_asg, r_asgc, r_par, r_setix, r_ret, r_exp, r_ite, r_whl, r_for, r_scope, st_nm, st_tup, st_nl, st_cs, st_2, bin_ii, bin_add, bin_sub, bin_ss, bin_tt, cmp_ii, cmp_eq, cmp_ne, cmp_lt, cmp_le, cmp_gt, cmp_ge, cmp_ss, cs_eq, cs_ne, cs_lt, cs_gt, cs_in, cs_nin, seq_lst, seq_rol, seq_tup, bi_abs, bi_max, bi_min, bi_int_i, bi_int_b, bi_len_l, bi_len_r, bi_len_t, bi_len_h, bi_isi, ty_non, ty_bl, ty_int, ty_str, ty_tup, ty_lst, ty_rol, ty_dct, bm_bits, bt_bits, bt_rev, bt_app, bt_join, bm_join, kit_int_int, kit_int_bool, kit_int_str, kit_int_list, kit_int_tuple, kit_int_dict, kit_bool_int, kit_bool_bool, kit_bool_str, kit_bool_list, kit_bool_tuple, kit_bool_dict, kit_str_int, kit_str_bool, kit_str_str, kit_str_list, kit_str_tuple, kit_str_dict, kit_none_int, kit_none_bool, kit_none_str, kit_none_list, kit_none_tuple, kit_none_dict, kit_list_int, kit_list_bool, kit_list_str, kit_list_list, kit_list_tuple, kit_list_dict, kit_tuple_int, kit_tuple_bool, kit_tuple_str, kit_tuple_list, kit_tuple_tuple, kit_tuple_dict, kit_dict_int, kit_dict_bool, kit_dict_str, kit_dict_list, kit_dict_tuple, kit_dict_dict, seqI_l, seqI_r, seqI_t, seqI_s, varR_ok, andR_t, andR_f, orR_t, orR_f, notR_b, negR_i, partR_i, tru_b, tru_i, tru_n, ixR_l, ixR_r, ixR_t, ixR_h, at0, at1, at2, at3, at4, at5, at6, at7, at8, at9, at10, at11, at12, at13, bind_ok, bind_exc, bind_bad, noX_ok, noX_bad, opt_some, opt_none, out_ok, out_exc, out_bad, oopt_some, oopt_none, thn_nx, thn_rt, thn_bk, thn_ct, thn_exc, thn_bad, turn_nx, turn_ct, turn_bk, turn_rt, turn_exc, turn_bad, trim_nx, trim_bk, trim_ct, trim_rt, trim_exc, trim_bad, end_nx, end_rt, objL_s, seq_refO, setix_ref, setL_0, setL_1, setL_2, bm_rev, Option.map_some, List.reverse_cons, List.reverse_nil, fl_nil, fl_cons, tupR_v, lstR_v, lstR_h, rl_nil, rl_cons, rv_int, rv_bl, rv_non, rv_str, rv_tup, rv_lst, Bool.and_self, Bool.and_true, Bool.true_and, List.length_cons, List.length_nil, Nat.zero_add, Nat.reduceAdd, Nat.reduceLeDiff, p10_6, p10_9, p10_10, p10_12, p10_18, p10_27, p10_30, List.getElem?_cons_zero, List.getElem?_cons_succ, List.set_cons_zero, List.set_cons_succ, List.map_cons, List.map_nil, List.cons_append, List.nil_append, List.append_nil, List.replicate, Nat.sub_self, Nat.reduceSub, Option.bind_some, decide_true, decide_false, Bool.not_true, Bool.not_false, if_true, if_false, Bool.false_eq_true, ↓reduceIte, reduceCtorEq])
local macro_rules | `(tactic| walk_at "mph") => `(tactic| try simp only [*, bin_mod, bin_mul, ne_eq, Int.reduceEq, not_false_eq_true, e_var, e_con, e_bt, e_glo, e_d0, e_d1, e_tup, e_lst, e_bin, e_neg, e_cmp, e_chn, e_sl, e_lc, e_and, e_or, e_not, e_ife, e_cal, e_bi, e_bm, e_ix, es_nl, es_cs, o_nl, o_cs, t_nl, t_and, t_or, t_not, t_cmp, t_chn, t_tst, i_seq, i_rng, r_nop, r_seq, r_asg, r_asgc, r_par, r_setix, r_ret, r_exp, r_ite, r_whl, r_for, r_scope, st_nm, st_tup, st_nl, st_cs, st_2, bin_ii, bin_add, bin_sub, bin_ss, bin_tt, cmp_ii, cmp_eq, cmp_ne, cmp_lt, cmp_le, cmp_gt, cmp_ge, cmp_ss, cs_eq, cs_ne, cs_lt, cs_gt, cs_in, cs_nin, seq_lst, seq_rol, seq_tup, bi_abs, bi_max, bi_min, bi_int_i, bi_int_b, bi_len_l, bi_len_r, bi_len_t, bi_len_h, bi_isi, ty_non, ty_bl, ty_int, ty_str, ty_tup, ty_lst, ty_rol, ty_dct, bm_bits, bt_bits, bt_rev, bt_app, bt_join, bm_join, kit_int_int, kit_int_bool, kit_int_str, kit_int_list, kit_int_tuple, kit_int_dict, kit_bool_int, kit_bool_bool, kit_bool_str, kit_bool_list, kit_bool_tuple, kit_bool_dict, kit_str_int, kit_str_bool, kit_str_str, kit_str_list, kit_str_tuple, kit_str_dict, kit_none_int, kit_none_bool, kit_none_str, kit_none_list, kit_none_tuple, kit_none_dict, kit_list_int, kit_list_bool, kit_list_str, kit_list_list, kit_list_tuple, kit_list_dict, kit_tuple_int, kit_tuple_bool, kit_tuple_str, kit_tuple_list, kit_tuple_tuple, kit_tuple_dict, kit_dict_int, kit_dict_bool, kit_dict_str, kit_dict_list, kit_dict_tuple, kit_dict_dict, seqI_l, seqI_r, seqI_t, seqI_s, varR_ok, andR_t, andR_f, orR_t, orR_f, notR_b, negR_i, partR_i, tru_b, tru_i, tru_n, ixR_l, ixR_r, ixR_t, ixR_h, at0, at1, at2, at3, at4, at5, at6, at7, at8, at9, at10, at11, at12, at13, bind_ok, bind_exc, bind_bad, noX_ok, noX_bad, opt_some, opt_none, out_ok, out_exc, out_bad, oopt_some, oopt_none, thn_nx, thn_rt, thn_bk, thn_ct, thn_exc, thn_bad, turn_nx, turn_ct, turn_bk, turn_rt, turn_exc, turn_bad, trim_nx, trim_bk, trim_ct, trim_rt, trim_exc, trim_bad, end_nx, end_rt, objL_s, seq_refO, setix_ref, setL_0, setL_1, setL_2, bm_rev, Option.map_some, List.reverse_cons, List.reverse_nil, fl_nil, fl_cons, tupR_v, lstR_v, lstR_h, rl_nil, rl_cons, rv_int, rv_bl, rv_non, rv_str, rv_tup, rv_lst, Bool.and_self, Bool.and_true, Bool.true_and, List.length_cons, List.length_nil, Nat.zero_add, Nat.reduceAdd, Nat.reduceLeDiff, p10_6, p10_9, p10_10, p10_12, p10_18, p10_27, p10_30, List.getElem?_cons_zero, List.getElem?_cons_succ, List.set_cons_zero, List.set_cons_succ, List.map_cons, List.map_nil, List.cons_append, List.nil_append, List.append_nil, List.replicate, Nat.sub_self, Nat.reduceSub, Option.bind_some, decide_true, decide_false, Bool.not_true, Bool.not_false, if_true, if_false, Bool.false_eq_true, ↓reduceIte, reduceCtorEq])
/-! ### common, whole_root -/
def bCommon : S := (.seq (.asg (.nm 0) (.bi .abs (.cs (.var 0) .nl))) (.seq (.asg (.nm 1) (.bi .abs (.cs (.var 1) .nl))) (.seq (.whl (.cmp .Gt (.var 1) (.con (.int 0))) (.seq (.par 0 1 (.cs (.var 1) (.cs (.bin .Mod (.var 0) (.var 1)) .nl))) .nop)) (.seq (.ret (.var 0)) .nop))))
def fCommon : Fn := ⟨2, 2, true, bCommon⟩
theorem common_loop (c : Cf) (h : Heap) : ∀ (n : Nat) (a b : Nat), b < n → whileN (evalT c (.cmp .Gt (.var 1) (.con (.int 0)))) (run c (.seq (.par 0 1 (.cs (.var 1) (.cs (.bin .Mod (.var 0) (.var 1)) .nl))) .nop)) n [some (.int a), some (.int b)] h = .nx [some (.int (Nat.gcd a b)), some (.int 0)] h
  | 0, a, b, hb => absurd hb (Nat.not_lt_zero b)
  | n + 1, a, b, hb => by
    rw [w_succ]
    walk_at "mp"
    by_cases h0 : b = 0
    · subst h0
      simp
    · have hp : (0 : Int) < (b : Int) := by omega
      have hm : Int.fmod (a : Int) (b : Int) = ((a % b : Nat) : Int) := by
        rw [Int.fmod_eq_emod_of_nonneg _ (by omega)]; rfl
      simp only [hp, decide_true, if_true]
      walk_at "mp"
      rw [bin_mod (by omega)]
      walk_at "mp"
      rw [hm, common_loop c h n b (a % b) (by have := Nat.mod_lt a (Nat.pos_of_ne_zero h0); omega)]
      rw [Nat.gcd_comm a b, Nat.gcd_rec b a, Nat.gcd_comm]
theorem common_ok {P : List Fn} {gv : Str → Option Val} {i W k : Nat} {a b : Int} {h : Heap} (hP : P[i]? = some fCommon) (hW : b.natAbs < W) : callF P W gv (k + 1) i [.int a, .int b] h = .ok (.int (Int.gcd a b)) h := by
  rw [callF_go hP bCommon 0]
  unfold bCommon
  walk_at "mp"
  rw [common_loop _ _ _ _ _ hW]
  walk_at "mp"
  rw [finish_i rfl]
  rfl
def bRoot : S := (.seq (.ite (.cmp .Eq (.var 0) (.con (.int 0))) (.seq (.ret (.con (.int 0))) .nop) .nop) (.seq (.asg (.nm 1) (.bin .LShift (.con (.int 1)) (.bin .FloorDiv (.bin .Add (.bm .bits (.var 0) .nl) (.con (.int 1))) (.con (.int 2))))) (.seq (.asg (.nm 2) (.bin .FloorDiv (.bin .Add (.var 1) (.bin .FloorDiv (.var 0) (.var 1))) (.con (.int 2)))) (.seq (.whl (.cmp .Lt (.var 2) (.var 1)) (.seq (.asg (.nm 1) (.var 2)) (.seq (.asg (.nm 2) (.bin .FloorDiv (.bin .Add (.var 1) (.bin .FloorDiv (.var 0) (.var 1))) (.con (.int 2)))) .nop))) (.seq (.ret (.var 1)) .nop)))))
def fRoot : Fn := ⟨3, 1, true, bRoot⟩
theorem root_loop (c : Cf) (h : Heap) (n : Nat) (hn : 0 < n) : ∀ (m x : Nat), x < m → 0 < x → x < 2 ^ 9000 → isq n ≤ x →
    ∃ y, whileN (evalT c (.cmp .Lt (.var 2) (.var 1))) (run c (.seq (.asg (.nm 1) (.var 2)) (.seq (.asg (.nm 2) (.bin .FloorDiv (.bin .Add (.var 1) (.bin .FloorDiv (.var 0) (.var 1))) (.con (.int 2)))) .nop))) m
      [some (.int n), some (.int x), some (.int ((x + n / x) / 2 : Nat))] h = .nx [some (.int n), some (.int (isq n)), y] h
  | 0, x, hm, _, _, _ => absurd hm (Nat.not_lt_zero x)
  | m + 1, x, hm, hx, hb, hi => by
    rw [w_succ]
    walk_at "mp"
    by_cases hc : (x + n / x) / 2 < x
    · have hp : 0 < (x + n / x) / 2 := Nat.lt_of_lt_of_le (isq_pos hn) (newton_ge hx)
      have hd : (((x + n / x) / 2 : Nat) : Int) < (x : Int) := by exact_mod_cast hc
      simp only [hd, decide_true, if_true]
      generalize hz : (x + n / x) / 2 = z at *
      rw [bin_div (by omega) (pylong_small (bits_nat (Nat.lt_trans hc hb)))]
      walk_at "mp"
      rw [bin_div (by omega) (pylong_small (by decide +kernel))]
      walk_at "mp"
      have e : Int.fdiv ((z : Int) + Int.fdiv (n : Int) (z : Int)) 2 = (((z + n / z) / 2 : Nat) : Int) := by
        rw [fdiv_nat, ← Int.natCast_add, show (2 : Int) = ((2 : Nat) : Int) from rfl, fdiv_nat]
      rw [e]
      exact root_loop c h n hn m z (by omega) hp (Nat.lt_trans hc hb) (by rw [← hz]; exact newton_ge hx)
    · have hd : ¬ ((((x + n / x) / 2 : Nat) : Int) < (x : Int)) := by
        intro z
        exact hc (by exact_mod_cast z)
      simp only [hd, decide_false, if_false, Bool.false_eq_true]
      have e1 := newton_end (n := n) hx (by omega)
      have e2 : isq n = x := by
        have := lt_isq n
        have : x ≤ isq n := le_of_sq (by omega)
        omega
      rw [e2]
      exact ⟨_, rfl⟩
theorem root_ok {P : List Fn} {gv : Str → Option Val} {i W k n : Nat} {h : Heap} (hP : P[i]? = some fRoot) (hn : n < 2 ^ 16000) (hW : 2 ^ 9000 ≤ W) : callF P W gv (k + 1) i [.int n] h = .ok (.int (isq n)) h := by
  rw [callF_go hP bRoot 2]
  unfold bRoot
  walk_at "mp"
  by_cases h0 : n = 0
  · subst h0
    have e : isq 0 = 0 := isq_eq (by decide) (by decide)
    rw [e]
    simp
    walk_at "mp"
    exact finish_i rfl
  · have hi : ¬ ((n : Int) = 0) := by omega
    simp only [hi, decide_false, if_false, Bool.false_eq_true]
    walk_at "mp"
    have hb : bits (n : Int) ≤ 16000 := bits_nat hn
    generalize hbb : bits (n : Int) = b at *
    rw [bin_div (by omega) (pylong_small (by decide +kernel))]
    walk_at "mp"
    have e1 : Int.fdiv ((b : Int) + 1) 2 = (((b + 1) / 2 : Nat) : Int) := by
      rw [show (b : Int) + 1 = ((b + 1 : Nat) : Int) from rfl, show (2 : Int) = ((2 : Nat) : Int) from rfl, fdiv_nat]
    rw [e1]
    have b1 : bits 1 = 1 := by decide +kernel
    rw [bin_shl (by omega) (by rw [b1]; omega)]
    walk_at "mp"
    have e2 : (1 : Int) * 2 ^ (((b + 1) / 2 : Nat) : Int).toNat = ((2 ^ ((b + 1) / 2) : Nat) : Int) := by
      rw [Int.toNat_natCast, Int.one_mul]
      exact_mod_cast rfl
    rw [e2]
    have hx : 0 < 2 ^ ((b + 1) / 2) := Nat.two_pow_pos _
    have hlt : 2 ^ ((b + 1) / 2) < 2 ^ 9000 := Nat.pow_lt_pow_right (by decide) (by omega)
    have hnb : n < 2 ^ b := by
      have := lt_bits (n : Int)
      rw [hbb, Int.natAbs_natCast] at this
      exact this
    have hiq : isq n ≤ 2 ^ ((b + 1) / 2) := by
      refine Nat.le_of_lt (isq_le_pow (Nat.lt_of_lt_of_le hnb (two_le ?_)))
      omega
    generalize 2 ^ ((b + 1) / 2) = x at *
    rw [bin_div (by omega) (pylong_small (bits_nat hlt))]
    walk_at "mp"
    rw [bin_div (by omega) (pylong_small (by decide +kernel))]
    walk_at "mp"
    have e : Int.fdiv ((x : Int) + Int.fdiv (n : Int) (x : Int)) 2 = (((x + n / x) / 2 : Nat) : Int) := by
      rw [fdiv_nat, ← Int.natCast_add, show (2 : Int) = ((2 : Nat) : Int) from rfl, fdiv_nat]
    rw [e]
    obtain ⟨y, ey⟩ := root_loop ⟨callF P W gv k, W, gv⟩ h n (by omega) W x (by omega) hx hlt hiq
    rw [ey]
    walk_at "mp"
    exact finish_i rfl
/-! ### the draws: a box is a list of three ints -/
def IsBox (o : Obj) (n : Nat) : Prop := ∃ a b c : Int, o = .lst [.int a, .int b, .int c] ∧ 0 ≤ a ∧ 0 ≤ b ∧ b < 2147483629 ∧ 0 ≤ c ∧ c ≤ n
theorem IsBox.mono {o : Obj} {n m : Nat} (h : IsBox o n) (hm : n ≤ m) : IsBox o m := by
  obtain ⟨a, b, c, rfl, h1, h2, h3, h4, h5⟩ := h
  exact ⟨a, b, c, rfl, h1, h2, h3, h4, by omega⟩
def bCell : S := (.seq (.ite (.cmp .Lt (.var 1) (.bi .len (.cs (.var 0) .nl))) (.seq (.ret (.ix (.var 0) (.var 1))) .nop) .nop) (.seq (.ret (.bin .Add (.bin .Mult (.con (.int 7919)) (.var 1)) (.con (.int 13)))) .nop))
def fCell : Fn := ⟨2, 2, true, bCell⟩
theorem cell_ok {P : List Fn} {gv : Str → Option Val} {i W k j : Nat} {ns : List Int} {h : Heap} (hP : P[i]? = some fCell) (hj : j < 1000) : ∃ v, callF P W gv (k + 1) i [.rol (ns.map .int), .int j] h = .ok (.int v) h := by
  rw [callF_go hP bCell 0]
  unfold bCell
  walk_at "mp"
  by_cases hc : j < ns.length
  · have hd : (j : Int) < (((ns.map Val.int).length : Nat) : Int) := by rw [List.length_map]; omega
    simp only [hd, decide_true, if_true]
    have ha : L2.atI (ns.map Val.int) (j : Int) = some (.int ns[j]) := L2.atI_nat (by rw [List.getElem?_map, List.getElem?_eq_getElem hc]; rfl)
    rw [ha]
    walk_at "mp"
    exact ⟨_, finish_i rfl⟩
  · have hd : ¬ ((j : Int) < (((ns.map Val.int).length : Nat) : Int)) := by rw [List.length_map]; omega
    simp only [hd, decide_false, if_false, Bool.false_eq_true]
    walk_at "mp"
    have b1 : bits 7919 ≤ 13 := bits_le (by decide)
    have b2 : bits (j : Int) ≤ 10 := bits_nat (by omega)
    rw [bin_mul (by omega)]
    walk_at "mp"
    exact ⟨_, finish_i rfl⟩
def bBox : S := (.seq (.ret (.lst true (.cs (.bi .max2 (.cs (.con (.int 0)) (.cs (.bin .Sub (.var 0) (.bin .Pow (.con (.int 10)) (.con (.int 18)))) .nl))) (.cs (.bin .Mod (.var 0) (.con (.int 2147483629))) (.cs (.con (.int 0)) .nl))))) .nop)
def fBox : Fn := ⟨1, 1, false, bBox⟩
theorem bits10 : bits 10 = 4 := by decide +kernel
theorem box_ok {P : List Fn} {gv : Str → Option Val} {i W k : Nat} {v : Int} {h : Heap} (hP : P[i]? = some fBox) : ∃ o, callF P W gv (k + 1) i [.int v] h = .ok (.ref h.length) (h ++ [o]) ∧ IsBox o 0 := by
  rw [callF_go hP bBox 0]
  unfold bBox
  walk_at "mp"
  rw [bin_mod (by decide)]
  walk_at "mp"
  obtain ⟨h1, h2⟩ := fmod_rng v (show (0 : Int) < 2147483629 by decide)
  exact ⟨_, finish_keep rfl, _, _, _, rfl, by omega, h1, h2, Int.le_refl _, Int.le_refl _⟩
def bTake : S := (.seq (.ite (.cmp .Gt (.ix (.var 0) (.con (.int 0))) (.con (.int 0))) (.seq (.asg (.nm 3) (.bin .Mod (.ix (.var 0) (.con (.int 0))) (.var 1))) (.seq (.setix (.var 0) (.con (.int 0)) (.bin .FloorDiv (.ix (.var 0) (.con (.int 0))) (.var 1))) (.seq (.ret (.var 3)) .nop))) .nop) (.seq (.setix (.var 0) (.con (.int 2)) (.bin .Add (.ix (.var 0) (.con (.int 2))) (.con (.int 1)))) (.seq (.asg (.nm 2) (.bin .Mod (.bin .Mult (.bin .Add (.ix (.var 0) (.con (.int 1))) (.con (.int 17))) (.bin .Add (.bin .Mult (.con (.int 7919)) (.ix (.var 0) (.con (.int 2)))) (.con (.int 104729)))) (.con (.int 2147483647)))) (.seq (.asg (.nm 2) (.bin .Mod (.bin .Add (.bin .Pow (.var 2) (.con (.int 5))) (.ix (.var 0) (.con (.int 2)))) (.con (.int 2147483629)))) (.seq (.ret (.bin .Mod (.bin .FloorDiv (.bin .Mod (.bin .Pow (.var 2) (.con (.int 3))) (.con (.int 2147483587))) (.con (.int 8))) (.var 1))) .nop)))))
def fTake : Fn := ⟨4, 2, true, bTake⟩
theorem take_ok {P : List Fn} {gv : Str → Option Val} {i W k r n : Nat} {many : Int} {h : Heap} {o : Obj} (hP : P[i]? = some fTake) (hr : h[r]? = some o) (hB : IsBox o n) (hn : n ≤ 1000000000) (hm : 1 ≤ many) (hmb : bits many ≤ 9000) :
    ∃ v o', callF P W gv (k + 1) i [.ref r, .int many] h = .ok (.int v) (h.set r o') ∧ 0 ≤ v ∧ v < many ∧ IsBox o' (n + 1) := by
  obtain ⟨a, b, c, rfl, ha, hb, hb2, hc, hc2⟩ := hB
  rw [callF_go hP bTake 2]
  unfold bTake
  have sg := fun o' => set_get (o' := o') hr
  have fin : ∀ (v : Int) (h' : Heap), h'.length = h.length → finish fTake h.length (.int v) h' = .ok (.int v) h' := fun v h' e => by
    rw [← e]
    exact finish_i rfl
  have hm0 : ¬ many = 0 := by omega
  by_cases h0 : 0 < a
  · have g1 := bin_div hm0 (pylong_small (i := a) hmb)
    walk_at "mph"
    obtain ⟨h1, h2⟩ := fmod_rng a (show 0 < many by omega)
    exact ⟨_, _, fin _ _ (by simp), h1, h2, _, _, _, rfl, (fdiv_pos ha (by omega)).1, hb, hb2, hc, by omega⟩
  · have b0 : bits 7919 ≤ 13 := bits_le (by decide)
    have b1 : bits (c + 1) ≤ 31 := bits_lt (by omega) (by omega)
    have g3 : bits 7919 + bits (c + 1) ≤ 134217728 := by omega
    have b2 : bits (b + 17) ≤ 32 := bits_lt (by omega) (by omega)
    have b3 : bits (7919 * (c + 1) + 104729) ≤ 50 := bits_lt (by omega) (by omega)
    have g4 : bits (b + 17) + bits (7919 * (c + 1) + 104729) ≤ 134217728 := by omega
    walk_at "mph"
    generalize hx : Int.fmod ((b + 17) * (7919 * (c + 1) + 104729)) 2147483647 = x
    have hx2 := fmod_rng ((b + 17) * (7919 * (c + 1) + 104729)) (show (0 : Int) < 2147483647 by decide)
    rw [hx] at hx2
    have b4 : bits x ≤ 31 := bits_lt hx2.1 (by omega)
    rw [bin_pow (by decide) (by omega)]
    walk_at "mph"
    generalize hy : Int.fmod (x ^ (5 : Int).toNat + (c + 1)) 2147483629 = y
    have hy2 := fmod_rng (x ^ (5 : Int).toNat + (c + 1)) (show (0 : Int) < 2147483629 by decide)
    rw [hy] at hy2
    have b5 : bits y ≤ 31 := bits_lt hy2.1 (by omega)
    rw [bin_pow (by decide) (by omega)]
    walk_at "mph"
    rw [bin_div (by decide) (pylong_small (by decide +kernel))]
    walk_at "mph"
    obtain ⟨h1, h2⟩ := fmod_rng (((y ^ (3 : Int).toNat).fmod 2147483587).fdiv 8) (show 0 < many by omega)
    exact ⟨_, _, fin _ _ (by simp), h1, h2, _, _, _, rfl, ha, hb, hb2, by omega, by omega⟩
def bGreatL (t : Nat) : S := (.seq (.asg (.nm 2) (.bin .Add (.bin .Mult (.var 2) (.bin .Pow (.con (.int 10)) (.con (.int 9)))) (.cal t (.cs (.var 0) (.cs (.bin .Pow (.con (.int 10)) (.con (.int 9))) .nl))))) .nop)
def bGreat (t : Nat) : S := (.seq (.asg (.nm 2) (.bin .Add (.con (.int 1)) (.cal t (.cs (.var 0) (.cs (.con (.int 9)) .nl))))) (.seq (.for_ (.nm 3) (.iRng (.cs (.var 1) .nl)) (bGreatL t)) (.seq (.ret (.var 2)) .nop)))
def fGreat (t : Nat) : Fn := ⟨4, 2, true, bGreat t⟩
theorem pow2_add (a b : Nat) : (2 : Int) ^ (a + b) = 2 ^ a * 2 ^ b := Int.pow_add 2 a b
theorem pow2_pos (a : Nat) : (0 : Int) < 2 ^ a := by
  have := Nat.two_pow_pos a
  exact_mod_cast this
theorem set_same {h : Heap} {r : Nat} {o : Obj} (hr : h[r]? = some o) : h.set r o = h := by
  apply List.ext_getElem?
  intro i
  by_cases e : r = i
  · subst e
    rw [set_get hr, hr]
  · rw [List.getElem?_set_ne e]
theorem great_loop {P : List Fn} {gv : Str → Option Val} {t W k r : Nat} {ch : Val} (hP : P[t]? = some fTake) : ∀ (n : Nat) (lo number : Int) (kv : Option Val) (hh : Heap) (o : Obj) (m q : Nat), hh[r]? = some o → IsBox o m → m + n ≤ 1000000000 → 1 ≤ number → number < 2 ^ q → q + 30 * n ≤ 100000000 →
    ∃ number' o' kv', forL (.nm 3) (run ⟨callF P W gv (k + 1), W, gv⟩ (bGreatL t)) (rangeL lo n) [some (.ref r), some ch, some (.int number), kv] hh = .nx [some (.ref r), some ch, some (.int number'), kv'] (hh.set r o') ∧
      1 ≤ number' ∧ number' < 2 ^ (q + 30 * n) ∧ IsBox o' (m + n)
  | 0, lo, number, kv, hh, o, m, q, hr, hB, _, h1, h2, _ => by
    refine ⟨number, o, kv, ?_, h1, h2, hB⟩
    rw [set_same hr]
    rfl
  | n + 1, lo, number, kv, hh, o, m, q, hr, hB, hm, h1, h2, hq => by
    show ∃ number' o' kv', forL (.nm 3) (run ⟨callF P W gv (k + 1), W, gv⟩ (bGreatL t)) (.int lo :: rangeL (lo + 1) n) _ hh = _ ∧ _
    rw [fl_cons]
    obtain ⟨v, o1, e1, v1, v2, B1⟩ := take_ok (W := W) (gv := gv) (k := k) (many := 1000000000) hP hr hB (by omega) (by omega) (by decide +kernel)
    have b1 : bits number ≤ q := bits_lt (by omega) h2
    have b2 : bits 1000000000 ≤ 30 := bits_le (by decide)
    have g1 : bits number + bits 1000000000 ≤ 134217728 := by omega
    have hn2 : number * 1000000000 + v < 2 ^ (q + 30) := by
      rw [pow2_add]
      have e30 : (2 : Int) ^ 30 = 1073741824 := by decide
      rw [e30]
      generalize (2 : Int) ^ q = z at *
      omega
    obtain ⟨n3, o3, kv3, e3, v3, v4, B3⟩ := great_loop (P := P) (W := W) (gv := gv) (k := k) (ch := ch) hP n (lo + 1) (number * 1000000000 + v) (some (.int lo)) (hh.set r o1) o1 (m + 1) (q + 30) (set_get hr) B1 (by omega) (by omega) hn2 (by omega)
    refine ⟨n3, o3, kv3, ?_, v3, by rw [show q + 30 * (n + 1) = q + 30 + 30 * n by omega]; exact v4, by rw [show m + (n + 1) = m + 1 + n by omega]; exact B3⟩
    unfold bGreatL at e3 ⊢
    walk_at "mph"
    rw [List.set_set]
theorem great_ok {P : List Fn} {gv : Str → Option Val} {i t W k r n ch : Nat} {h : Heap} {o : Obj} (hP : P[i]? = some (fGreat t)) (hT : P[t]? = some fTake) (hr : h[r]? = some o) (hB : IsBox o n) (hn : n + ch + 1 ≤ 1000000000) (hc : ch ≤ 1000000) :
    ∃ v o', callF P W gv (k + 2) i [.ref r, .int ch] h = .ok (.int v) (h.set r o') ∧ 1 ≤ v ∧ v < 2 ^ (4 + 30 * ch) ∧ IsBox o' (n + ch + 1) := by
  rw [callF_go hP (bGreat t) 2]
  unfold bGreat
  obtain ⟨v, o1, e1, v1, v2, B1⟩ := take_ok (W := W) (gv := gv) (k := k) (many := 9) hT hr hB (by omega) (by omega) (by decide +kernel)
  have e2 := rng_i (j := (ch : Int)) (h := h.set r o1) (by omega) (by omega)
  obtain ⟨n3, o3, kv3, e3, v3, v4, B3⟩ := great_loop (P := P) (W := W) (gv := gv) (k := k) (ch := .int ch) hT ch 0 (1 + v) none (h.set r o1) o1 (n + 1) 4 (set_get hr) B1 (by omega) (by omega) (by omega) (by omega)
  rw [Int.toNat_natCast] at e2
  walk_at "mph"
  rw [List.set_set]
  refine ⟨n3, o3, ?_, v3, v4, by rw [show n + ch + 1 = n + 1 + ch by omega]; exact B3⟩
  rw [show h.length = (h.set r o3).length by simp]
  exact finish_i rfl
end MP
namespace MP.G
open PySem L2
def top (i : Nat) : Stmt := PySem.Challenge.pw_heldshapes_k01_words_of_anything.main.body.getD i (.Pass ⟨0, 0, 0, 0⟩)
/-- is_whole -/
def b0_0 : S := .seq (.ret (.and (.bi .isi (.cs (.var 0) (.cs (.bt "int") .nl))) (.not (.bi .isi (.cs (.var 0) (.cs (.bt "bool") .nl)))))) .nop
def b0 : S := b0_0
def f0 : Fn := ⟨1, 1, true, b0⟩
def d0 : Dn := ⟨"is_whole", "is_whole", top 2, ["thing"], ["thing"]⟩
/-- is_within -/
def b1_0 : S := .seq (.ret (.and (.cal 0 (.cs (.var 0) .nl)) (.chn .LtE .LtE (.var 1) (.var 0) (.var 2)))) .nop
def b1 : S := b1_0
def f1 : Fn := ⟨3, 3, true, b1⟩
def d1 : Dn := ⟨"is_within", "is_within", top 3, ["thing", "low", "high"], ["thing", "low", "high"]⟩
/-- is_name -/
def b2_1 : S := .seq (.ret (.cmp .Eq (.lc false (.nm 1) [1] (.iSeq (.var 0)) (.cmp .NotIn (.var 1) (.glo "LETTERS")) (.var 1)) (.lst false .nl))) .nop
def b2_0 : S := .seq (.ite (.or (.not (.tst (.bi .isi (.cs (.var 0) (.cs (.bt "str") .nl))))) (.not (.chn .LtE .LtE (.con (.int 1)) (.bi .len (.cs (.var 0) .nl)) (.con (.int 6))))) (.seq (.ret (.con (.bl false))) .nop) .nop) b2_1
def b2 : S := b2_0
def f2 : Fn := ⟨2, 1, true, b2⟩
def d2 : Dn := ⟨"is_name", "is_name", top 4, ["thing", "sign"], ["thing"]⟩
/-- _law_cell -/
def b3_1 : S := .seq (.ret (.bin .Add (.bin .Mult (.con (.int 7919)) (.var 1)) (.con (.int 13)))) .nop
def b3_0 : S := .seq (.ite (.cmp .Lt (.var 1) (.bi .len (.cs (.var 0) .nl))) (.seq (.ret (.ix (.var 0) (.var 1))) .nop) .nop) b3_1
def b3 : S := b3_0
def f3 : Fn := ⟨2, 2, true, b3⟩
def d3 : Dn := ⟨"_law_cell", "_law_cell", top 6, ["_law_script", "_law_k"], ["_law_script", "_law_k"]⟩
/-- _law_box -/
def b4_0 : S := .seq (.ret (.lst true (.cs (.bi .max2 (.cs (.con (.int 0)) (.cs (.bin .Sub (.var 0) (.bin .Pow (.con (.int 10)) (.con (.int 18)))) .nl))) (.cs (.bin .Mod (.var 0) (.con (.int 2147483629))) (.cs (.con (.int 0)) .nl))))) .nop
def b4 : S := b4_0
def f4 : Fn := ⟨1, 1, false, b4⟩
def d4 : Dn := ⟨"_law_box", "_law_box", top 7, ["_law_cell_here"], ["_law_cell_here"]⟩
/-- _law_take -/
def b5_4 : S := .seq (.ret (.bin .Mod (.bin .FloorDiv (.bin .Mod (.bin .Pow (.var 2) (.con (.int 3))) (.con (.int 2147483587))) (.con (.int 8))) (.var 1))) .nop
def b5_3 : S := .seq (.asg (.nm 2) (.bin .Mod (.bin .Add (.bin .Pow (.var 2) (.con (.int 5))) (.ix (.var 0) (.con (.int 2)))) (.con (.int 2147483629)))) b5_4
def b5_2 : S := .seq (.asg (.nm 2) (.bin .Mod (.bin .Mult (.bin .Add (.ix (.var 0) (.con (.int 1))) (.con (.int 17))) (.bin .Add (.bin .Mult (.con (.int 7919)) (.ix (.var 0) (.con (.int 2)))) (.con (.int 104729)))) (.con (.int 2147483647)))) b5_3
def b5_1 : S := .seq (.setix (.var 0) (.con (.int 2)) (.bin .Add (.ix (.var 0) (.con (.int 2))) (.con (.int 1)))) b5_2
def b5_0 : S := .seq (.ite (.cmp .Gt (.ix (.var 0) (.con (.int 0))) (.con (.int 0))) (.seq (.asg (.nm 3) (.bin .Mod (.ix (.var 0) (.con (.int 0))) (.var 1))) (.seq (.setix (.var 0) (.con (.int 0)) (.bin .FloorDiv (.ix (.var 0) (.con (.int 0))) (.var 1))) (.seq (.ret (.var 3)) .nop))) .nop) b5_1
def b5 : S := b5_0
def f5 : Fn := ⟨4, 2, true, b5⟩
def d5 : Dn := ⟨"_law_take", "_law_take", top 8, ["_law_box_here", "_law_many", "_law_number", "_law_digit"], ["_law_box_here", "_law_many"]⟩
/-- _law_great -/
def b6w1_0 : S := .seq (.asg (.nm 2) (.bin .Add (.bin .Mult (.var 2) (.bin .Pow (.con (.int 10)) (.con (.int 9)))) (.cal 5 (.cs (.var 0) (.cs (.bin .Pow (.con (.int 10)) (.con (.int 9))) .nl))))) .nop
def b6_2 : S := .seq (.ret (.var 2)) .nop
def b6_1 : S := .seq (.for_ (.nm 3) (.iRng (.cs (.var 1) .nl)) b6w1_0) b6_2
def b6_0 : S := .seq (.asg (.nm 2) (.bin .Add (.con (.int 1)) (.cal 5 (.cs (.var 0) (.cs (.con (.int 9)) .nl))))) b6_1
def b6 : S := b6_0
def f6 : Fn := ⟨4, 2, true, b6⟩
def d6 : Dn := ⟨"_law_great", "_law_great", top 9, ["_law_box_here", "_law_chunks", "_law_number", "_law_k"], ["_law_box_here", "_law_chunks"]⟩
/-- _law_page -/
def b7_1 : S := .seq (.ret (.bin .Add (.var 0) (.con (.str "abcdefghijklmnopqrstuvwxyz{|}~\n")))) .nop
def b7_0 : S := .seq (.asg (.nm 0) (.con (.str " !\"#$&'()*+,-./0123456789:;<=>?@ABCDEFGHIJKLMNOPQRSTUVWXYZ[\\]^_`"))) b7_1
def b7 : S := b7_0
def f7 : Fn := ⟨1, 0, true, b7⟩
def d7 : Dn := ⟨"_law_page", "_law_page", top 10, ["_law_page_here"], []⟩
/-- _law_text -/
def b8_7 : S := .seq (.ret (.var 3)) .nop
def b8_6 : S := .seq (.ite (.cmp .Eq (.var 1) (.con (.int 3))) (.seq (.ret (.bin .Add (.bin .Add (.sl (.var 3) .nl (.cs (.var 4) .nl)) (.var 5)) (.sl (.var 3) (.cs (.bin .Add (.var 4) (.con (.int 1))) .nl) .nl))) .nop) .nop) b8_7
def b8_5 : S := .seq (.ite (.cmp .Eq (.var 1) (.con (.int 2))) (.seq (.ret (.bin .Add (.bin .Add (.sl (.var 3) .nl (.cs (.var 4) .nl)) (.var 5)) (.sl (.var 3) (.cs (.var 4) .nl) .nl))) .nop) .nop) b8_6
def b8_4 : S := .seq (.asg (.nm 5) (.ix (.cal 7 .nl) (.cal 5 (.cs (.var 0) (.cs (.con (.int 95)) .nl))))) b8_5
def b8_3 : S := .seq (.asg (.nm 4) (.cal 5 (.cs (.var 0) (.cs (.bin .Add (.bi .len (.cs (.var 3) .nl)) (.con (.int 1))) .nl)))) b8_4
def b8_2 : S := .seq (.asg (.nm 3) (.bm .join (.con (.str "")) (.cs (.lc false (.nm 6) [6] (.iRng (.cs (.cal 5 (.cs (.var 0) (.cs (.con (.int 9)) .nl))) .nl)) .nl (.ix (.var 2) (.cal 5 (.cs (.var 0) (.cs (.con (.int 26)) .nl))))) .nl))) b8_3
def b8_1 : S := .seq (.asg (.nm 2) (.con (.str "abcdefghijklmnopqrstuvwxyz"))) b8_2
def b8_0 : S := .seq (.asg (.nm 1) (.cal 5 (.cs (.var 0) (.cs (.con (.int 4)) .nl)))) b8_1
def b8 : S := b8_0
def f8 : Fn := ⟨7, 1, true, b8⟩
def d8 : Dn := ⟨"_law_text", "_law_text", top 11, ["_law_box_here", "_law_spoil", "_law_letters", "_law_text_here", "_law_at", "_law_sign", "_law_k"], ["_law_box_here"]⟩
/-- _law_thing -/
def b9_6 : S := .seq (.ret (.ix (.var 2) (.cal 5 (.cs (.var 0) (.cs (.con (.int 14)) .nl))))) .nop
def b9_5 : S := .seq (.asg (.nm 2) (.lst false (.cs (.con .non) (.cs (.con (.bl true)) (.cs (.con (.bl false)) (.cs (.lst false .nl) (.cs (.tup .nl) (.cs .d0 (.cs (.lst false (.cs (.con (.str "a")) .nl)) (.cs (.tup (.cs (.con (.str "ab")) .nl)) (.cs (.lst false (.cs (.con (.int 3)) .nl)) (.cs (.tup (.cs (.con (.int 3)) .nl)) (.cs (.d1 (.inr "a") (.int 1)) (.cs (.lst false (.cs (.con .non) .nl)) (.cs (.tup (.cs (.con (.str "a")) (.cs (.con (.int 1)) .nl))) (.cs (.d1 (.inl 3) (.str "a")) .nl)))))))))))))))) b9_6
def b9_4 : S := .seq (.ite (.cmp .Eq (.var 1) (.con (.int 6))) (.seq (.ret (.bin .Mult (.cal 6 (.cs (.var 0) (.cs (.cal 5 (.cs (.var 0) (.cs (.con (.int 12)) .nl))) .nl))) (.ix (.lst false (.cs (.con (.int 1)) (.cs (.neg (.con (.int 1))) .nl))) (.cal 5 (.cs (.var 0) (.cs (.con (.int 2)) .nl)))))) .nop) .nop) b9_5
def b9_3 : S := .seq (.ite (.cmp .Eq (.var 1) (.con (.int 5))) (.seq (.ret (.bin .Sub (.cal 5 (.cs (.var 0) (.cs (.bin .Pow (.con (.int 10)) (.con (.int 10))) .nl))) (.bin .Pow (.con (.int 10)) (.con (.int 9))))) .nop) .nop) b9_4
def b9_2 : S := .seq (.ite (.cmp .Eq (.var 1) (.con (.int 4))) (.seq (.ret (.bin .Sub (.cal 5 (.cs (.var 0) (.cs (.con (.int 41)) .nl))) (.con (.int 20)))) .nop) .nop) b9_3
def b9_1 : S := .seq (.ite (.cmp .Lt (.var 1) (.con (.int 4))) (.seq (.ret (.cal 8 (.cs (.var 0) .nl))) .nop) .nop) b9_2
def b9_0 : S := .seq (.asg (.nm 1) (.cal 5 (.cs (.var 0) (.cs (.con (.int 8)) .nl)))) b9_1
def b9 : S := b9_0
def f9 : Fn := ⟨3, 1, true, b9⟩
def d9 : Dn := ⟨"_law_thing", "_law_thing", top 12, ["_law_box_here", "_law_way", "_law_some"], ["_law_box_here"]⟩
/-- _law_truth -/
def b10_0 : S := .seq (.ret (.and (.bi .isi (.cs (.var 0) (.cs (.bt "bool") .nl))) (.cmp .Eq (.var 0) (.var 1)))) .nop
def b10 : S := b10_0
def f10 : Fn := ⟨2, 2, true, b10⟩
def d10 : Dn := ⟨"_law_truth", "_law_truth", top 13, ["_law_found", "_law_due"], ["_law_found", "_law_due"]⟩
/-- _law_name_due -/
def b11w1_0 : S := .seq (.ite (.or (.cmp .Lt (.var 1) (.con (.str "a"))) (.cmp .Gt (.var 1) (.con (.str "z")))) (.seq (.ret (.con (.bl false))) .nop) .nop) .nop
def b11_2 : S := .seq (.ret (.con (.bl true))) .nop
def b11_1 : S := .seq (.for_ (.nm 1) (.iSeq (.var 0)) b11w1_0) b11_2
def b11_0 : S := .seq (.ite (.or (.not (.tst (.bi .isi (.cs (.var 0) (.cs (.bt "str") .nl))))) (.or (.cmp .Eq (.bi .len (.cs (.var 0) .nl)) (.con (.int 0))) (.cmp .Gt (.bi .len (.cs (.var 0) .nl)) (.con (.int 6))))) (.seq (.ret (.con (.bl false))) .nop) .nop) b11_1
def b11 : S := b11_0
def f11 : Fn := ⟨2, 1, true, b11⟩
def d11 : Dn := ⟨"_law_name_due", "_law_name_due", top 14, ["_law_thing_here", "_law_sign"], ["_law_thing_here"]⟩
/-- _law_bounds -/
def b12_6 : S := .seq (.ret (.tup (.cs (.var 4) (.cs (.var 5) .nl)))) .nop
def b12_5 : S := .seq (.ite (.cmp .Eq (.cal 5 (.cs (.var 0) (.cs (.con (.int 3)) .nl))) (.con (.int 0))) (.seq (.asg (.nm 5) (.bin .Add (.var 3) (.cal 6 (.cs (.var 0) (.cs (.cal 5 (.cs (.var 0) (.cs (.con (.int 23)) .nl))) .nl))))) .nop) .nop) b12_6
def b12_4 : S := .seq (.asg (.nm 5) (.bin .Sub (.bin .Add (.var 4) (.cal 5 (.cs (.var 0) (.cs (.con (.int 6)) .nl)))) (.con (.int 1)))) b12_5
def b12_3 : S := .seq (.ite (.cmp .Eq (.cal 5 (.cs (.var 0) (.cs (.con (.int 3)) .nl))) (.con (.int 0))) (.seq (.asg (.nm 4) (.bin .Sub (.var 3) (.cal 6 (.cs (.var 0) (.cs (.cal 5 (.cs (.var 0) (.cs (.con (.int 23)) .nl))) .nl))))) .nop) .nop) b12_4
def b12_2 : S := .seq (.asg (.nm 4) (.bin .Sub (.bin .Add (.var 3) (.cal 5 (.cs (.var 0) (.cs (.con (.int 5)) .nl)))) (.con (.int 2)))) b12_3
def b12_1 : S := .seq (.ite (.tst (.var 2)) (.seq (.asg (.nm 3) (.var 1)) .nop) .nop) b12_2
def b12_0 : S := .seq (.asg (.nm 3) (.con (.int 0))) b12_1
def b12 : S := b12_0
def f12 : Fn := ⟨6, 3, true, b12⟩
def d12 : Dn := ⟨"_law_bounds", "_law_bounds", top 15, ["_law_box_here", "_law_thing_here", "_law_whole", "_law_middle", "_law_low", "_law_high"], ["_law_box_here", "_law_thing_here", "_law_whole"]⟩
/-- law -/
def b13w2_1 : S := .seq (.ite (.not (.tst (.cal 10 (.cs (.cal 2 (.cs (.var 3) .nl)) (.cs (.cal 11 (.cs (.var 3) .nl)) .nl))))) (.seq (.ret (.con (.bl false))) .nop) .nop) .nop
def b13w2_0 : S := .seq (.ite (.or (.not (.tst (.cal 10 (.cs (.cal 0 (.cs (.var 3) .nl)) (.cs (.var 4) .nl))))) (.not (.tst (.cal 10 (.cs (.cal 1 (.cs (.var 3) (.cs (.var 5) (.cs (.var 6) .nl)))) (.cs (.var 7) .nl)))))) (.seq (.ret (.con (.bl false))) .nop) .nop) b13w2_1
def b13w1_6 : S := .seq (.for_ (.nm 8) (.iRng (.cs (.con (.int 2)) .nl)) b13w2_0) .nop
def b13w1_5 : S := .seq (.ite (.tst (.var 4)) (.seq (.asg (.nm 7) (.and (.cmp .LtE (.var 5) (.var 3)) (.cmp .LtE (.var 3) (.var 6)))) .nop) .nop) b13w1_6
def b13w1_4 : S := .seq (.asg (.nm 7) (.con (.bl false))) b13w1_5
def b13w1_3 : S := .seq (.asg (.tup (.cs (.nm 5) (.cs (.nm 6) .nl))) (.cal 12 (.cs (.var 2) (.cs (.var 3) (.cs (.var 4) .nl))))) b13w1_4
def b13w1_2 : S := .seq (.asg (.nm 4) (.and (.bi .isi (.cs (.var 3) (.cs (.bt "int") .nl))) (.and (.cmp .IsNot (.var 3) (.con (.bl true))) (.cmp .IsNot (.var 3) (.con (.bl false)))))) b13w1_3
def b13w1_1 : S := .seq (.asg (.nm 3) (.cal 9 (.cs (.var 2) .nl))) b13w1_2
def b13w1_0 : S := .seq (.asg (.nm 2) (.cal 4 (.cs (.cal 3 (.cs (.var 0) (.cs (.var 1) .nl))) .nl))) b13w1_1
def b13_1 : S := .seq (.ret (.con (.bl true))) .nop
def b13_0 : S := .seq (.for_ (.nm 1) (.iRng (.cs (.bi .max2 (.cs (.con (.int 2)) (.cs (.bi .min2 (.cs (.con (.int 30)) (.cs (.bi .len (.cs (.var 0) .nl)) .nl))) .nl))) .nl)) (.scope b13w1_0)) b13_1
def b13 : S := b13_0
def f13 : Fn := ⟨9, 1, true, b13⟩
def d13 : Dn := ⟨"law", "law", top 16, ["_law_script", "_law_k", "_law_box_here", "_law_thing_here", "_law_whole", "_law_low", "_law_high", "_law_within", "_law_turn"], ["_law_script"]⟩
def P : List Fn := [f0, f1, f2, f3, f4, f5, f6, f7, f8, f9, f10, f11, f12, f13]
def D : List Dn := [d0, d1, d2, d3, d4, d5, d6, d7, d8, d9, d10, d11, d12, d13]
def fnN : List Str := ["is_whole", "is_within", "is_name", "_law_cell", "_law_box", "_law_take", "_law_great", "_law_page", "_law_text", "_law_thing", "_law_truth", "_law_name_due", "_law_bounds", "law"]
def bn : List Str := ["bool", "int", "isinstance", "len", "max", "min", "range", "str"]
def gl : List Str := ["LETTERS"]
def gvT : List (Str × Val) := [("LETTERS", (.str "abcdefghijklmnopqrstuvwxyz"))]
def gv (x : Str) : Option Val := gvT.lookup x
theorem gv_0 : gv "LETTERS" = some (.str "abcdefghijklmnopqrstuvwxyz") := rr rfl
theorem fnN_eq : D.map (·.name) = fnN := rfl
theorem ok0 : okDef fnN bn gl d0 f0 = true := by decide +kernel
theorem sc0 : FnScope d0.N d0.ps (defScope d0.st) := ⟨rfl, rfl, rfl, by decide +kernel, rfl, by decide +kernel, by decide +kernel⟩
theorem ok1 : okDef fnN bn gl d1 f1 = true := by decide +kernel
theorem sc1 : FnScope d1.N d1.ps (defScope d1.st) := ⟨rfl, rfl, rfl, by decide +kernel, rfl, by decide +kernel, by decide +kernel⟩
theorem ok2 : okDef fnN bn gl d2 f2 = true := by decide +kernel
theorem sc2 : FnScope d2.N d2.ps (defScope d2.st) := ⟨rfl, rfl, rfl, by decide +kernel, rfl, by decide +kernel, by decide +kernel⟩
theorem ok3 : okDef fnN bn gl d3 f3 = true := by decide +kernel
theorem sc3 : FnScope d3.N d3.ps (defScope d3.st) := ⟨rfl, rfl, rfl, by decide +kernel, rfl, by decide +kernel, by decide +kernel⟩
theorem ok4 : okDef fnN bn gl d4 f4 = true := by decide +kernel
theorem sc4 : FnScope d4.N d4.ps (defScope d4.st) := ⟨rfl, rfl, rfl, by decide +kernel, rfl, by decide +kernel, by decide +kernel⟩
theorem ok5 : okDef fnN bn gl d5 f5 = true := by decide +kernel
theorem sc5 : FnScope d5.N d5.ps (defScope d5.st) := ⟨rfl, rfl, rfl, by decide +kernel, rfl, by decide +kernel, by decide +kernel⟩
theorem ok6 : okDef fnN bn gl d6 f6 = true := by decide +kernel
theorem sc6 : FnScope d6.N d6.ps (defScope d6.st) := ⟨rfl, rfl, rfl, by decide +kernel, rfl, by decide +kernel, by decide +kernel⟩
theorem ok7 : okDef fnN bn gl d7 f7 = true := by decide +kernel
theorem sc7 : FnScope d7.N d7.ps (defScope d7.st) := ⟨rfl, rfl, rfl, by decide +kernel, rfl, by decide +kernel, by decide +kernel⟩
theorem ok8 : okDef fnN bn gl d8 f8 = true := by decide +kernel
theorem sc8 : FnScope d8.N d8.ps (defScope d8.st) := ⟨rfl, rfl, rfl, by decide +kernel, rfl, by decide +kernel, by decide +kernel⟩
theorem ok9 : okDef fnN bn gl d9 f9 = true := by decide +kernel
theorem sc9 : FnScope d9.N d9.ps (defScope d9.st) := ⟨rfl, rfl, rfl, by decide +kernel, rfl, by decide +kernel, by decide +kernel⟩
theorem ok10 : okDef fnN bn gl d10 f10 = true := by decide +kernel
theorem sc10 : FnScope d10.N d10.ps (defScope d10.st) := ⟨rfl, rfl, rfl, by decide +kernel, rfl, by decide +kernel, by decide +kernel⟩
theorem ok11 : okDef fnN bn gl d11 f11 = true := by decide +kernel
theorem sc11 : FnScope d11.N d11.ps (defScope d11.st) := ⟨rfl, rfl, rfl, by decide +kernel, rfl, by decide +kernel, by decide +kernel⟩
theorem ok12 : okDef fnN bn gl d12 f12 = true := by decide +kernel
theorem sc12 : FnScope d12.N d12.ps (defScope d12.st) := ⟨rfl, rfl, rfl, by decide +kernel, rfl, by decide +kernel, by decide +kernel⟩
theorem ok13 : okDef fnN bn gl d13 f13 = true := by decide +kernel
theorem sc13 : FnScope d13.N d13.ps (defScope d13.st) := ⟨rfl, rfl, rfl, by decide +kernel, rfl, by decide +kernel, by decide +kernel⟩
def lev : Nat := 8

end MP.G
namespace MP.G
open PySem
local macro_rules | `(tactic| walk_at "mp") => `(tactic| try simp only [e_var, e_con, e_bt, e_glo, e_d0, e_d1, e_tup, e_lst, e_bin, e_neg, e_cmp, e_chn, e_sl, e_lc, e_and, e_or, e_not, e_ife, e_cal, e_bi, e_bm, e_ix, es_nl, es_cs, o_nl, o_cs, t_nl, t_and, t_or, t_not, t_cmp, t_chn, t_tst, i_seq, i_rng, r_nop, r_seq, r_asg, r_asgc, r_par, r_setix, r_ret, r_exp, r_ite, r_whl, r_for, r_scope, st_nm, st_tup, st_nl, st_cs, st_2, bin_ii, bin_add, bin_sub, bin_ss, bin_tt, cmp_ii, cmp_eq, cmp_ne, cmp_lt, cmp_le, cmp_gt, cmp_ge, cmp_ss, cs_eq, cs_ne, cs_lt, cs_gt, cs_in, cs_nin, seq_lst, seq_rol, seq_tup, bi_abs, bi_max, bi_min, bi_int_i, bi_int_b, bi_len_l, bi_len_r, bi_len_t, bi_len_h, bi_isi, ty_non, ty_bl, ty_int, ty_str, ty_tup, ty_lst, ty_rol, ty_dct, bm_bits, bt_bits, bt_rev, bt_app, bt_join, bm_join, kit_int_int, kit_int_bool, kit_int_str, kit_int_list, kit_int_tuple, kit_int_dict, kit_bool_int, kit_bool_bool, kit_bool_str, kit_bool_list, kit_bool_tuple, kit_bool_dict, kit_str_int, kit_str_bool, kit_str_str, kit_str_list, kit_str_tuple, kit_str_dict, kit_none_int, kit_none_bool, kit_none_str, kit_none_list, kit_none_tuple, kit_none_dict, kit_list_int, kit_list_bool, kit_list_str, kit_list_list, kit_list_tuple, kit_list_dict, kit_tuple_int, kit_tuple_bool, kit_tuple_str, kit_tuple_list, kit_tuple_tuple, kit_tuple_dict, kit_dict_int, kit_dict_bool, kit_dict_str, kit_dict_list, kit_dict_tuple, kit_dict_dict, seqI_l, seqI_r, seqI_t, seqI_s, varR_ok, andR_t, andR_f, orR_t, orR_f, notR_b, negR_i, partR_i, tru_b, tru_i, tru_n, ixR_l, ixR_r, ixR_t, ixR_h, at0, at1, at2, at3, at4, at5, at6, at7, at8, at9, at10, at11, at12, at13, bind_ok, bind_exc, bind_bad, noX_ok, noX_bad, opt_some, opt_none, out_ok, out_exc, out_bad, oopt_some, oopt_none, thn_nx, thn_rt, thn_bk, thn_ct, thn_exc, thn_bad, turn_nx, turn_ct, turn_bk, turn_rt, turn_exc, turn_bad, trim_nx, trim_bk, trim_ct, trim_rt, trim_exc, trim_bad, end_nx, end_rt, objL_s, seq_refO, setix_ref, setL_0, setL_1, setL_2, bm_rev, Option.map_some, List.reverse_cons, List.reverse_nil, fl_nil, fl_cons, tupR_v, lstR_v, lstR_h, rl_nil, rl_cons, rv_int, rv_bl, rv_non, rv_str, rv_tup, rv_lst, Bool.and_self, Bool.and_true, Bool.true_and, List.length_cons, List.length_nil, Nat.zero_add, Nat.reduceAdd, Nat.reduceLeDiff, p10_6, p10_9, p10_10, p10_12, p10_18, p10_27, p10_30, List.getElem?_cons_zero, List.getElem?_cons_succ, List.set_cons_zero, List.set_cons_succ, List.map_cons, List.map_nil, List.cons_append, List.nil_append, List.append_nil, List.replicate, Nat.sub_self, Nat.reduceSub, Option.bind_some, decide_true, decide_false, Bool.not_true, Bool.not_false, if_true, if_false, Bool.false_eq_true, ↓reduceIte, reduceCtorEq])
local macro_rules | `(tactic| walk_at "mph") => `(tactic| try simp only [*, bin_mod, bin_mul, ne_eq, Int.reduceEq, not_false_eq_true, e_var, e_con, e_bt, e_glo, e_d0, e_d1, e_tup, e_lst, e_bin, e_neg, e_cmp, e_chn, e_sl, e_lc, e_and, e_or, e_not, e_ife, e_cal, e_bi, e_bm, e_ix, es_nl, es_cs, o_nl, o_cs, t_nl, t_and, t_or, t_not, t_cmp, t_chn, t_tst, i_seq, i_rng, r_nop, r_seq, r_asg, r_asgc, r_par, r_setix, r_ret, r_exp, r_ite, r_whl, r_for, r_scope, st_nm, st_tup, st_nl, st_cs, st_2, bin_ii, bin_add, bin_sub, bin_ss, bin_tt, cmp_ii, cmp_eq, cmp_ne, cmp_lt, cmp_le, cmp_gt, cmp_ge, cmp_ss, cs_eq, cs_ne, cs_lt, cs_gt, cs_in, cs_nin, seq_lst, seq_rol, seq_tup, bi_abs, bi_max, bi_min, bi_int_i, bi_int_b, bi_len_l, bi_len_r, bi_len_t, bi_len_h, bi_isi, ty_non, ty_bl, ty_int, ty_str, ty_tup, ty_lst, ty_rol, ty_dct, bm_bits, bt_bits, bt_rev, bt_app, bt_join, bm_join, kit_int_int, kit_int_bool, kit_int_str, kit_int_list, kit_int_tuple, kit_int_dict, kit_bool_int, kit_bool_bool, kit_bool_str, kit_bool_list, kit_bool_tuple, kit_bool_dict, kit_str_int, kit_str_bool, kit_str_str, kit_str_list, kit_str_tuple, kit_str_dict, kit_none_int, kit_none_bool, kit_none_str, kit_none_list, kit_none_tuple, kit_none_dict, kit_list_int, kit_list_bool, kit_list_str, kit_list_list, kit_list_tuple, kit_list_dict, kit_tuple_int, kit_tuple_bool, kit_tuple_str, kit_tuple_list, kit_tuple_tuple, kit_tuple_dict, kit_dict_int, kit_dict_bool, kit_dict_str, kit_dict_list, kit_dict_tuple, kit_dict_dict, seqI_l, seqI_r, seqI_t, seqI_s, varR_ok, andR_t, andR_f, orR_t, orR_f, notR_b, negR_i, partR_i, tru_b, tru_i, tru_n, ixR_l, ixR_r, ixR_t, ixR_h, at0, at1, at2, at3, at4, at5, at6, at7, at8, at9, at10, at11, at12, at13, bind_ok, bind_exc, bind_bad, noX_ok, noX_bad, opt_some, opt_none, out_ok, out_exc, out_bad, oopt_some, oopt_none, thn_nx, thn_rt, thn_bk, thn_ct, thn_exc, thn_bad, turn_nx, turn_ct, turn_bk, turn_rt, turn_exc, turn_bad, trim_nx, trim_bk, trim_ct, trim_rt, trim_exc, trim_bad, end_nx, end_rt, objL_s, seq_refO, setix_ref, setL_0, setL_1, setL_2, bm_rev, Option.map_some, List.reverse_cons, List.reverse_nil, fl_nil, fl_cons, tupR_v, lstR_v, lstR_h, rl_nil, rl_cons, rv_int, rv_bl, rv_non, rv_str, rv_tup, rv_lst, Bool.and_self, Bool.and_true, Bool.true_and, List.length_cons, List.length_nil, Nat.zero_add, Nat.reduceAdd, Nat.reduceLeDiff, p10_6, p10_9, p10_10, p10_12, p10_18, p10_27, p10_30, List.getElem?_cons_zero, List.getElem?_cons_succ, List.set_cons_zero, List.set_cons_succ, List.map_cons, List.map_nil, List.cons_append, List.nil_append, List.append_nil, List.replicate, Nat.sub_self, Nat.reduceSub, Option.bind_some, decide_true, decide_false, Bool.not_true, Bool.not_false, if_true, if_false, Bool.false_eq_true, ↓reduceIte, reduceCtorEq])
/-! ### what a thing may be -/
def isI : Val → Bool
  | .int _ => true
  | _ => false
def ascii (x : Str) : Prop := ∀ c ∈ x.cps.toList, c < 128
/-- the other things -/
def oth : List Val := [.non, .bl true, .bl false, .lst [], .tup [], .dct [] [], .lst [.str "a"], .tup [.str "ab"], .lst [.int 3], .tup [.int 3], .dct [.inr "a"] [.int 1], .lst [.non], .tup [.str "a", .int 1], .dct [.inl 3] [.str "a"]]
inductive Thing : Val → Prop where
  | str (x : Str) : x.length ≤ 20 → ascii x → Thing (.str x)
  | int (i : Int) : bits i ≤ 400 → Thing (.int i)
  | oth (v : Val) : v ∈ oth → Thing v
theorem oth_cases {p : Val → Prop} {v : Val} (h : v ∈ oth) (h0 : p .non) (h1 : ∀ b, p (.bl b)) (h2 : ∀ xs, pureL xs = true → p (.lst xs)) (h3 : ∀ xs, pureL xs = true → p (.tup xs)) (h4 : ∀ ks xs, pureL xs = true → p (.dct ks xs)) : p v := by
  unfold oth at h
  simp only [List.mem_cons, List.not_mem_nil, or_false] at h
  rcases h with rfl | rfl | rfl | rfl | rfl | rfl | rfl | rfl | rfl | rfl | rfl | rfl | rfl | rfl <;> first | exact h0 | exact h1 _ | exact h2 _ rfl | exact h3 _ rfl | exact h4 _ _ rfl
section
variable {W k : Nat} {h : Heap}
theorem whole_ok {v : Val} (t : Thing v) : callF P W gv (k + 1) 0 [v] h = .ok (.bl (isI v)) h := by
  rw [callF_go (f := f0) rfl b0 0]
  unfold b0 b0_0
  have fin : ∀ b : Bool, finish f0 h.length (.bl b) h = .ok (.bl b) h := fun b => finish_b rfl
  cases t with
  | str x _ _ => walk_at "mp"; exact fin _
  | int i _ => walk_at "mp"; exact fin _
  | oth v hv =>
    refine oth_cases (p := fun v => endF f0 h.length (run _ _ ([v].map some ++ _) h) = .ok (.bl (isI v)) h) hv ?_ ?_ ?_ ?_ ?_
    · walk_at "mp"; exact fin _
    · intro b; walk_at "mp"; exact fin _
    · intro b _; walk_at "mp"; exact fin _
    · intro b _; walk_at "mp"; exact fin _
    · intro b c _; walk_at "mp"; exact fin _
/-- whether it lies within -/
def inB : Val → Int → Int → Bool
  | .int i, a, b => decide (a ≤ i) && decide (i ≤ b)
  | _, _, _ => false
theorem within_ok {v : Val} {a b : Int} (t : Thing v) : callF P W gv (k + 2) 1 [v, .int a, .int b] h = .ok (.bl (inB v a b)) h := by
  rw [callF_go (f := f1) rfl b1 0]
  unfold b1 b1_0
  have w := whole_ok (W := W) (k := k) (h := h) t
  have fin : ∀ b : Bool, finish f1 h.length (.bl b) h = .ok (.bl b) h := fun b => finish_b rfl
  cases t with
  | str x _ _ => unfold isI at w; walk_at "mph"; rfl
  | int i _ =>
    unfold isI at w
    walk_at "mph"
    by_cases c : a ≤ i
    · simp only [c, decide_true, if_true]
      walk_at "mph"
      simp only [inB, c, decide_true, Bool.true_and]
    · simp only [c, decide_false, if_false, Bool.false_eq_true]
      walk_at "mph"
      simp only [inB, c, decide_false, Bool.false_and]
  | oth v hv =>
    have e : isI v = false ∧ inB v a b = false := oth_cases (p := fun v => isI v = false ∧ inB v a b = false) hv ⟨rfl, rfl⟩ (fun _ => ⟨rfl, rfl⟩) (fun _ _ => ⟨rfl, rfl⟩) (fun _ _ => ⟨rfl, rfl⟩) (fun _ _ _ => ⟨rfl, rfl⟩)
    rw [e.1] at w
    rw [e.2]
    walk_at "mph"
theorem cmp_bb (h : Heap) (a b : Bool) : cmpop h .Eq (.bl a) (.bl b) = some (decide (a = b)) := by
  cases a <;> cases b <;> rfl
theorem truth_ok {a : Bool} : callF P W gv (k + 1) 10 [.bl a, .bl a] h = .ok (.bl true) h := by
  rw [callF_go (f := f10) rfl b10 0]
  unfold b10 b10_0
  walk_at "mp"
  rw [cmp_bb]
  walk_at "mp"
  exact finish_b rfl
end
end MP.G
namespace MP
open PySem
/-! ### comprehensions whose parts leave the heap alone -/
theorem app_end {h : Heap} {acc : List Val} {v : Val} (p : pure0 v = true) (l : acc.length < 100000) : appO (h ++ [.lst acc]) h.length v = some (h ++ [.lst (acc ++ [v])]) := by
  rw [app_obj (xs := acc) (by simp) p l]
  simp
theorem comp_pure {tst : Loc → Heap → Res Bool} {el : Loc → Heap → Res Val} {t : T} {l0 : Loc} {h : Heap} (p : Val → Bool) (f : Val → Val) : ∀ (xs acc : List Val),
    (∀ x ∈ xs, ∃ l1, store t x l0 = some l1 ∧ (∀ acc, tst l1 (h ++ [.lst acc]) = .ok (p x) (h ++ [.lst acc])) ∧ (p x = true → (∀ acc, el l1 (h ++ [.lst acc]) = .ok (f x) (h ++ [.lst acc])) ∧ pure0 (f x) = true)) →
    acc.length + xs.length ≤ 100000 → compL tst el t l0 h.length xs (h ++ [.lst acc]) = .ok () (h ++ [.lst (acc ++ (xs.filter p).map f)])
  | [], acc, _, _ => by simp [compL]
  | x :: xs, acc, hx, hl => by
    obtain ⟨l1, e1, e2, e3⟩ := hx x (by simp)
    unfold compL
    rw [e1, opt_some, e2, noX_ok, bind_ok]
    rw [List.length_cons] at hl
    cases q : p x with
    | false =>
      rw [if_neg Bool.false_ne_true, comp_pure p f xs acc (fun y hy => hx y (List.mem_cons_of_mem _ hy)) (by omega), List.filter_cons, q, if_neg Bool.false_ne_true]
    | true =>
      obtain ⟨e4, e5⟩ := e3 q
      rw [if_pos rfl, e4, noX_ok, bind_ok, app_end e5 (by omega), opt_some, comp_pure p f xs (acc ++ [f x]) (fun y hy => hx y (List.mem_cons_of_mem _ hy)) (by rw [List.length_append, List.length_singleton]; omega), List.filter_cons, q, if_pos rfl, List.map_cons]
      simp
theorem compF_v {h : Heap} {ys : List Val} : compF false h.length (h ++ [.lst ys]) = .ok (.lst ys) h := by
  unfold compF
  rw [if_neg Bool.false_ne_true]
  simp
theorem compF_h {h : Heap} {ys : List Val} : compF true h.length (h ++ [.lst ys]) = .ok (.ref h.length) (h ++ [.lst ys]) := rfl
/-! ### data -/
theorem dataL_strs : ∀ zs : List Str, dataL (zs.map .str) = some (zs.map PyData.str)
  | [] => rfl
  | z :: zs => by
    show ((data0 (.str z)).bind fun d => (dataL (zs.map .str)).map fun ds => d :: ds) = _
    rw [dataL_strs zs]
    rfl
theorem lay_strs : ∀ zs : List Str, (∀ z ∈ zs, PyData.strOk z = true) → PyData.canLayAll0 (zs.map PyData.str) = true ∧ PyData.depthAll (zs.map PyData.str) = 0
  | [], _ => ⟨rfl, rfl⟩
  | z :: zs, h => by
    obtain ⟨a, b⟩ := lay_strs zs fun y hy => h y (List.mem_cons_of_mem _ hy)
    refine ⟨?_, ?_⟩
    · show (PyData.strOk z && PyData.canLayAll0 (zs.map PyData.str)) = true
      rw [a, h z (by simp)]
      rfl
    · show max 0 (PyData.depthAll (zs.map PyData.str)) = 0
      rw [b]
      rfl
theorem eq_nil {h : Heap} {zs : List Str} (hz : ∀ z ∈ zs, PyData.strOk z = true) : cmpop h .Eq (.lst (zs.map .str)) (.lst []) = some zs.isEmpty := by
  show eqD h (.lst (zs.map .str)) (.lst []) = _
  have e1 : dataV h (.lst (zs.map .str)) = some (.list (zs.map PyData.str)) := by
    show (dataL (zs.map .str)).map PyData.list = _
    rw [dataL_strs]
    rfl
  have e2 : dataV h (.lst []) = some (.list []) := rfl
  obtain ⟨a, b⟩ := lay_strs zs hz
  have s1 : SeqAt.shaped (.list (zs.map PyData.str)) = true := by
    show (PyData.canLayAll0 (zs.map PyData.str) && decide (PyData.depthAll (zs.map PyData.str) + 1 ≤ 64)) = true
    rw [a, b]
    rfl
  unfold eqD
  rw [e1, e2]
  show (if SeqAt.shaped (.list (zs.map PyData.str)) = true ∧ SeqAt.shaped (.list []) = true then some (PyData.eqv (.list (zs.map PyData.str)) (.list [])) else none) = _
  rw [if_pos ⟨s1, rfl⟩]
  cases zs <;> rfl
theorem ok_sign {c : Nat} (h : c < 128) : PyData.strOk ⟨#[c]⟩ = true := by
  show (#[c].all (· < 0x110000)) = true
  simp
  omega
theorem in_sign (x : Str) (c : Nat) : strIn ⟨#[c]⟩ x = decide (c ∈ x.cps.toList) := PySem.StrLaws.found_one x c
end MP
namespace MP.G
open PySem
local macro_rules | `(tactic| walk_at "mp") => `(tactic| try simp only [e_var, e_con, e_bt, e_glo, e_d0, e_d1, e_tup, e_lst, e_bin, e_neg, e_cmp, e_chn, e_sl, e_lc, e_and, e_or, e_not, e_ife, e_cal, e_bi, e_bm, e_ix, es_nl, es_cs, o_nl, o_cs, t_nl, t_and, t_or, t_not, t_cmp, t_chn, t_tst, i_seq, i_rng, r_nop, r_seq, r_asg, r_asgc, r_par, r_setix, r_ret, r_exp, r_ite, r_whl, r_for, r_scope, st_nm, st_tup, st_nl, st_cs, st_2, bin_ii, bin_add, bin_sub, bin_ss, bin_tt, cmp_ii, cmp_eq, cmp_ne, cmp_lt, cmp_le, cmp_gt, cmp_ge, cmp_ss, cs_eq, cs_ne, cs_lt, cs_gt, cs_in, cs_nin, seq_lst, seq_rol, seq_tup, bi_abs, bi_max, bi_min, bi_int_i, bi_int_b, bi_len_l, bi_len_r, bi_len_t, bi_len_h, bi_isi, ty_non, ty_bl, ty_int, ty_str, ty_tup, ty_lst, ty_rol, ty_dct, bm_bits, bt_bits, bt_rev, bt_app, bt_join, bm_join, kit_int_int, kit_int_bool, kit_int_str, kit_int_list, kit_int_tuple, kit_int_dict, kit_bool_int, kit_bool_bool, kit_bool_str, kit_bool_list, kit_bool_tuple, kit_bool_dict, kit_str_int, kit_str_bool, kit_str_str, kit_str_list, kit_str_tuple, kit_str_dict, kit_none_int, kit_none_bool, kit_none_str, kit_none_list, kit_none_tuple, kit_none_dict, kit_list_int, kit_list_bool, kit_list_str, kit_list_list, kit_list_tuple, kit_list_dict, kit_tuple_int, kit_tuple_bool, kit_tuple_str, kit_tuple_list, kit_tuple_tuple, kit_tuple_dict, kit_dict_int, kit_dict_bool, kit_dict_str, kit_dict_list, kit_dict_tuple, kit_dict_dict, seqI_l, seqI_r, seqI_t, seqI_s, varR_ok, andR_t, andR_f, orR_t, orR_f, notR_b, negR_i, partR_i, tru_b, tru_i, tru_n, ixR_l, ixR_r, ixR_t, ixR_h, at0, at1, at2, at3, at4, at5, at6, at7, at8, at9, at10, at11, at12, at13, bind_ok, bind_exc, bind_bad, noX_ok, noX_bad, opt_some, opt_none, out_ok, out_exc, out_bad, oopt_some, oopt_none, thn_nx, thn_rt, thn_bk, thn_ct, thn_exc, thn_bad, turn_nx, turn_ct, turn_bk, turn_rt, turn_exc, turn_bad, trim_nx, trim_bk, trim_ct, trim_rt, trim_exc, trim_bad, end_nx, end_rt, objL_s, seq_refO, setix_ref, setL_0, setL_1, setL_2, bm_rev, Option.map_some, List.reverse_cons, List.reverse_nil, fl_nil, fl_cons, tupR_v, lstR_v, lstR_h, rl_nil, rl_cons, rv_int, rv_bl, rv_non, rv_str, rv_tup, rv_lst, Bool.and_self, Bool.and_true, Bool.true_and, List.length_cons, List.length_nil, Nat.zero_add, Nat.reduceAdd, Nat.reduceLeDiff, p10_6, p10_9, p10_10, p10_12, p10_18, p10_27, p10_30, List.getElem?_cons_zero, List.getElem?_cons_succ, List.set_cons_zero, List.set_cons_succ, List.map_cons, List.map_nil, List.cons_append, List.nil_append, List.append_nil, List.replicate, Nat.sub_self, Nat.reduceSub, Option.bind_some, decide_true, decide_false, Bool.not_true, Bool.not_false, if_true, if_false, Bool.false_eq_true, ↓reduceIte, reduceCtorEq])
local macro_rules | `(tactic| walk_at "mph") => `(tactic| try simp only [*, bin_mod, bin_mul, ne_eq, Int.reduceEq, not_false_eq_true, e_var, e_con, e_bt, e_glo, e_d0, e_d1, e_tup, e_lst, e_bin, e_neg, e_cmp, e_chn, e_sl, e_lc, e_and, e_or, e_not, e_ife, e_cal, e_bi, e_bm, e_ix, es_nl, es_cs, o_nl, o_cs, t_nl, t_and, t_or, t_not, t_cmp, t_chn, t_tst, i_seq, i_rng, r_nop, r_seq, r_asg, r_asgc, r_par, r_setix, r_ret, r_exp, r_ite, r_whl, r_for, r_scope, st_nm, st_tup, st_nl, st_cs, st_2, bin_ii, bin_add, bin_sub, bin_ss, bin_tt, cmp_ii, cmp_eq, cmp_ne, cmp_lt, cmp_le, cmp_gt, cmp_ge, cmp_ss, cs_eq, cs_ne, cs_lt, cs_gt, cs_in, cs_nin, seq_lst, seq_rol, seq_tup, bi_abs, bi_max, bi_min, bi_int_i, bi_int_b, bi_len_l, bi_len_r, bi_len_t, bi_len_h, bi_isi, ty_non, ty_bl, ty_int, ty_str, ty_tup, ty_lst, ty_rol, ty_dct, bm_bits, bt_bits, bt_rev, bt_app, bt_join, bm_join, kit_int_int, kit_int_bool, kit_int_str, kit_int_list, kit_int_tuple, kit_int_dict, kit_bool_int, kit_bool_bool, kit_bool_str, kit_bool_list, kit_bool_tuple, kit_bool_dict, kit_str_int, kit_str_bool, kit_str_str, kit_str_list, kit_str_tuple, kit_str_dict, kit_none_int, kit_none_bool, kit_none_str, kit_none_list, kit_none_tuple, kit_none_dict, kit_list_int, kit_list_bool, kit_list_str, kit_list_list, kit_list_tuple, kit_list_dict, kit_tuple_int, kit_tuple_bool, kit_tuple_str, kit_tuple_list, kit_tuple_tuple, kit_tuple_dict, kit_dict_int, kit_dict_bool, kit_dict_str, kit_dict_list, kit_dict_tuple, kit_dict_dict, seqI_l, seqI_r, seqI_t, seqI_s, varR_ok, andR_t, andR_f, orR_t, orR_f, notR_b, negR_i, partR_i, tru_b, tru_i, tru_n, ixR_l, ixR_r, ixR_t, ixR_h, at0, at1, at2, at3, at4, at5, at6, at7, at8, at9, at10, at11, at12, at13, bind_ok, bind_exc, bind_bad, noX_ok, noX_bad, opt_some, opt_none, out_ok, out_exc, out_bad, oopt_some, oopt_none, thn_nx, thn_rt, thn_bk, thn_ct, thn_exc, thn_bad, turn_nx, turn_ct, turn_bk, turn_rt, turn_exc, turn_bad, trim_nx, trim_bk, trim_ct, trim_rt, trim_exc, trim_bad, end_nx, end_rt, objL_s, seq_refO, setix_ref, setL_0, setL_1, setL_2, bm_rev, Option.map_some, List.reverse_cons, List.reverse_nil, fl_nil, fl_cons, tupR_v, lstR_v, lstR_h, rl_nil, rl_cons, rv_int, rv_bl, rv_non, rv_str, rv_tup, rv_lst, Bool.and_self, Bool.and_true, Bool.true_and, List.length_cons, List.length_nil, Nat.zero_add, Nat.reduceAdd, Nat.reduceLeDiff, p10_6, p10_9, p10_10, p10_12, p10_18, p10_27, p10_30, List.getElem?_cons_zero, List.getElem?_cons_succ, List.set_cons_zero, List.set_cons_succ, List.map_cons, List.map_nil, List.cons_append, List.nil_append, List.append_nil, List.replicate, Nat.sub_self, Nat.reduceSub, Option.bind_some, decide_true, decide_false, Bool.not_true, Bool.not_false, if_true, if_false, Bool.false_eq_true, ↓reduceIte, reduceCtorEq])
def okC (c : Nat) : Bool := decide (97 ≤ c) && decide (c ≤ 122)
def nameV : Val → Bool
  | .str x => decide (1 ≤ x.length) && decide (x.length ≤ 6) && x.cps.toList.all okC
  | _ => false
theorem letters_in (c : Nat) : decide (c ∈ ("abcdefghijklmnopqrstuvwxyz" : Str).cps.toList) = okC c := by
  have e : ("abcdefghijklmnopqrstuvwxyz" : Str).cps.toList = (List.range 26).map (· + 97) := by decide +kernel
  rw [e]
  unfold okC
  rw [Bool.eq_iff_iff, decide_eq_true_eq, Bool.and_eq_true, decide_eq_true_eq, decide_eq_true_eq, List.mem_map]
  constructor
  · rintro ⟨a, ha, rfl⟩
    have := List.mem_range.mp ha
    omega
  · rintro ⟨a, b⟩
    exact ⟨c - 97, List.mem_range.mpr (by omega), by omega⟩
section
variable {W k : Nat} {h : Heap}
theorem name_ok {v : Val} (t : Thing v) : callF P W gv (k + 1) 2 [v] h = .ok (.bl (nameV v)) h := by
  rw [callF_go (f := f2) rfl b2 1]
  unfold b2 b2_0
  have fin : ∀ b : Bool, finish f2 h.length (.bl b) h = .ok (.bl b) h := fun b => finish_b rfl
  cases t with
  | str x hx ha =>
    walk_at "mp"
    rw [bi_len_s _ (by omega)]
    walk_at "mp"
    by_cases c1 : 1 ≤ x.length
    · have d1 : (1 : Int) ≤ (x.length : Int) := by omega
      simp only [d1, decide_true, if_true]
      walk_at "mp"
      by_cases c2 : x.length ≤ 6
      · have d2 : (x.length : Int) ≤ 6 := by omega
        simp only [d2, decide_true, if_true, Bool.not_true, Bool.false_eq_true, if_false]
        walk_at "mp"
        unfold b2_1
        walk_at "mp"
        have q : (x.cps.toList.map fun d => Val.str ⟨#[d]⟩).filter (fun v => match v with | .str z => !strIn z "abcdefghijklmnopqrstuvwxyz" | _ => false) = ((x.cps.toList.filter fun c => !okC c).map fun c => (⟨#[c]⟩ : Str)).map Val.str := by
          rw [List.filter_map, List.map_map]
          congr 1
          refine List.filter_congr fun c _ => ?_
          show (!strIn ⟨#[c]⟩ "abcdefghijklmnopqrstuvwxyz") = _
          rw [in_sign, letters_in]
        have hl : (x.cps.toList.map fun d => Val.str ⟨#[d]⟩).length ≤ 100000 := by
          rw [List.length_map, Array.length_toList]
          have : x.cps.size = x.length := rfl
          omega
        rw [comp_pure (fun v => match v with | .str z => !strIn z "abcdefghijklmnopqrstuvwxyz" | _ => false) id _ [] (fun v hv => ?_) (by simpa using hl), bind_ok, compF_v, List.nil_append, List.map_id, q]
        · walk_at "mp"
          rw [eq_nil]
          · walk_at "mp"
            rw [fin]
            congr 2
            unfold nameV
            simp only [c1, c2, decide_true, Bool.true_and]
            rw [List.isEmpty_map, Bool.eq_iff_iff, List.isEmpty_iff, List.filter_eq_nil_iff, List.all_eq_true]
            simp
          · intro z hz
            obtain ⟨c, hc, rfl⟩ := List.mem_map.mp hz
            exact ok_sign (ha c (List.mem_filter.mp hc).1)
        · obtain ⟨c, hc, rfl⟩ := List.mem_map.mp hv
          refine ⟨_, rfl, fun acc => ?_, fun _ => ⟨fun acc => ?_, rfl⟩⟩
          · show evalT _ _ [some (Val.str x), some (Val.str ⟨#[c]⟩)] _ = _
            walk_at "mp"
            rw [gv_0]
            walk_at "mp"
          · show evalE _ _ [some (Val.str x), some (Val.str ⟨#[c]⟩)] _ = _
            walk_at "mp"
            rfl
      · have d2 : ¬ ((x.length : Int) ≤ 6) := by omega
        simp only [d2, decide_false, if_false, Bool.false_eq_true, Bool.not_false, if_true]
        walk_at "mp"
        rw [fin]
        unfold nameV
        simp [c2]
    · have d1 : ¬ ((1 : Int) ≤ (x.length : Int)) := by omega
      simp only [d1, decide_false, if_false, Bool.false_eq_true]
      walk_at "mp"
      rw [fin]
      unfold nameV
      simp [c1]
  | int i _ => walk_at "mp"; exact fin _
  | oth v hv =>
    refine oth_cases (p := fun v => endF f2 h.length (run _ _ ([v].map some ++ _) h) = .ok (.bl (nameV v)) h) hv ?_ ?_ ?_ ?_ ?_
    · walk_at "mp"; exact fin _
    · intro b; walk_at "mp"; exact fin _
    · intro b _; walk_at "mp"; exact fin _
    · intro b _; walk_at "mp"; exact fin _
    · intro b c _; walk_at "mp"; exact fin _
end
end MP.G
namespace MP.G
open PySem
local macro_rules | `(tactic| walk_at "mp") => `(tactic| try simp only [e_var, e_con, e_bt, e_glo, e_d0, e_d1, e_tup, e_lst, e_bin, e_neg, e_cmp, e_chn, e_sl, e_lc, e_and, e_or, e_not, e_ife, e_cal, e_bi, e_bm, e_ix, es_nl, es_cs, o_nl, o_cs, t_nl, t_and, t_or, t_not, t_cmp, t_chn, t_tst, i_seq, i_rng, r_nop, r_seq, r_asg, r_asgc, r_par, r_setix, r_ret, r_exp, r_ite, r_whl, r_for, r_scope, st_nm, st_tup, st_nl, st_cs, st_2, bin_ii, bin_add, bin_sub, bin_ss, bin_tt, cmp_ii, cmp_eq, cmp_ne, cmp_lt, cmp_le, cmp_gt, cmp_ge, cmp_ss, cs_eq, cs_ne, cs_lt, cs_gt, cs_in, cs_nin, seq_lst, seq_rol, seq_tup, bi_abs, bi_max, bi_min, bi_int_i, bi_int_b, bi_len_l, bi_len_r, bi_len_t, bi_len_h, bi_isi, ty_non, ty_bl, ty_int, ty_str, ty_tup, ty_lst, ty_rol, ty_dct, bm_bits, bt_bits, bt_rev, bt_app, bt_join, bm_join, kit_int_int, kit_int_bool, kit_int_str, kit_int_list, kit_int_tuple, kit_int_dict, kit_bool_int, kit_bool_bool, kit_bool_str, kit_bool_list, kit_bool_tuple, kit_bool_dict, kit_str_int, kit_str_bool, kit_str_str, kit_str_list, kit_str_tuple, kit_str_dict, kit_none_int, kit_none_bool, kit_none_str, kit_none_list, kit_none_tuple, kit_none_dict, kit_list_int, kit_list_bool, kit_list_str, kit_list_list, kit_list_tuple, kit_list_dict, kit_tuple_int, kit_tuple_bool, kit_tuple_str, kit_tuple_list, kit_tuple_tuple, kit_tuple_dict, kit_dict_int, kit_dict_bool, kit_dict_str, kit_dict_list, kit_dict_tuple, kit_dict_dict, seqI_l, seqI_r, seqI_t, seqI_s, varR_ok, andR_t, andR_f, orR_t, orR_f, notR_b, negR_i, partR_i, tru_b, tru_i, tru_n, ixR_l, ixR_r, ixR_t, ixR_h, at0, at1, at2, at3, at4, at5, at6, at7, at8, at9, at10, at11, at12, at13, bind_ok, bind_exc, bind_bad, noX_ok, noX_bad, opt_some, opt_none, out_ok, out_exc, out_bad, oopt_some, oopt_none, thn_nx, thn_rt, thn_bk, thn_ct, thn_exc, thn_bad, turn_nx, turn_ct, turn_bk, turn_rt, turn_exc, turn_bad, trim_nx, trim_bk, trim_ct, trim_rt, trim_exc, trim_bad, end_nx, end_rt, objL_s, seq_refO, setix_ref, setL_0, setL_1, setL_2, bm_rev, Option.map_some, List.reverse_cons, List.reverse_nil, fl_nil, fl_cons, tupR_v, lstR_v, lstR_h, rl_nil, rl_cons, rv_int, rv_bl, rv_non, rv_str, rv_tup, rv_lst, Bool.and_self, Bool.and_true, Bool.true_and, List.length_cons, List.length_nil, Nat.zero_add, Nat.reduceAdd, Nat.reduceLeDiff, p10_6, p10_9, p10_10, p10_12, p10_18, p10_27, p10_30, List.getElem?_cons_zero, List.getElem?_cons_succ, List.set_cons_zero, List.set_cons_succ, List.map_cons, List.map_nil, List.cons_append, List.nil_append, List.append_nil, List.replicate, Nat.sub_self, Nat.reduceSub, Option.bind_some, decide_true, decide_false, Bool.not_true, Bool.not_false, if_true, if_false, Bool.false_eq_true, ↓reduceIte, reduceCtorEq])
local macro_rules | `(tactic| walk_at "mph") => `(tactic| try simp only [*, bin_mod, bin_mul, ne_eq, Int.reduceEq, not_false_eq_true, e_var, e_con, e_bt, e_glo, e_d0, e_d1, e_tup, e_lst, e_bin, e_neg, e_cmp, e_chn, e_sl, e_lc, e_and, e_or, e_not, e_ife, e_cal, e_bi, e_bm, e_ix, es_nl, es_cs, o_nl, o_cs, t_nl, t_and, t_or, t_not, t_cmp, t_chn, t_tst, i_seq, i_rng, r_nop, r_seq, r_asg, r_asgc, r_par, r_setix, r_ret, r_exp, r_ite, r_whl, r_for, r_scope, st_nm, st_tup, st_nl, st_cs, st_2, bin_ii, bin_add, bin_sub, bin_ss, bin_tt, cmp_ii, cmp_eq, cmp_ne, cmp_lt, cmp_le, cmp_gt, cmp_ge, cmp_ss, cs_eq, cs_ne, cs_lt, cs_gt, cs_in, cs_nin, seq_lst, seq_rol, seq_tup, bi_abs, bi_max, bi_min, bi_int_i, bi_int_b, bi_len_l, bi_len_r, bi_len_t, bi_len_h, bi_isi, ty_non, ty_bl, ty_int, ty_str, ty_tup, ty_lst, ty_rol, ty_dct, bm_bits, bt_bits, bt_rev, bt_app, bt_join, bm_join, kit_int_int, kit_int_bool, kit_int_str, kit_int_list, kit_int_tuple, kit_int_dict, kit_bool_int, kit_bool_bool, kit_bool_str, kit_bool_list, kit_bool_tuple, kit_bool_dict, kit_str_int, kit_str_bool, kit_str_str, kit_str_list, kit_str_tuple, kit_str_dict, kit_none_int, kit_none_bool, kit_none_str, kit_none_list, kit_none_tuple, kit_none_dict, kit_list_int, kit_list_bool, kit_list_str, kit_list_list, kit_list_tuple, kit_list_dict, kit_tuple_int, kit_tuple_bool, kit_tuple_str, kit_tuple_list, kit_tuple_tuple, kit_tuple_dict, kit_dict_int, kit_dict_bool, kit_dict_str, kit_dict_list, kit_dict_tuple, kit_dict_dict, seqI_l, seqI_r, seqI_t, seqI_s, varR_ok, andR_t, andR_f, orR_t, orR_f, notR_b, negR_i, partR_i, tru_b, tru_i, tru_n, ixR_l, ixR_r, ixR_t, ixR_h, at0, at1, at2, at3, at4, at5, at6, at7, at8, at9, at10, at11, at12, at13, bind_ok, bind_exc, bind_bad, noX_ok, noX_bad, opt_some, opt_none, out_ok, out_exc, out_bad, oopt_some, oopt_none, thn_nx, thn_rt, thn_bk, thn_ct, thn_exc, thn_bad, turn_nx, turn_ct, turn_bk, turn_rt, turn_exc, turn_bad, trim_nx, trim_bk, trim_ct, trim_rt, trim_exc, trim_bad, end_nx, end_rt, objL_s, seq_refO, setix_ref, setL_0, setL_1, setL_2, bm_rev, Option.map_some, List.reverse_cons, List.reverse_nil, fl_nil, fl_cons, tupR_v, lstR_v, lstR_h, rl_nil, rl_cons, rv_int, rv_bl, rv_non, rv_str, rv_tup, rv_lst, Bool.and_self, Bool.and_true, Bool.true_and, List.length_cons, List.length_nil, Nat.zero_add, Nat.reduceAdd, Nat.reduceLeDiff, p10_6, p10_9, p10_10, p10_12, p10_18, p10_27, p10_30, List.getElem?_cons_zero, List.getElem?_cons_succ, List.set_cons_zero, List.set_cons_succ, List.map_cons, List.map_nil, List.cons_append, List.nil_append, List.append_nil, List.replicate, Nat.sub_self, Nat.reduceSub, Option.bind_some, decide_true, decide_false, Bool.not_true, Bool.not_false, if_true, if_false, Bool.false_eq_true, ↓reduceIte, reduceCtorEq])
theorem sign_lt (c d : Nat) : decide ([c] < [d]) = decide (c < d) := by
  rw [Bool.eq_iff_iff, decide_eq_true_eq, decide_eq_true_eq]
  simp [List.cons_lt_cons_iff]
section
variable {W k : Nat} {h : Heap}
theorem due_loop (c : Cf) (a : Val) : ∀ (cs : List Nat) (o : Option Val), (∃ o', forL (.nm 1) (run c b11w1_0) (cs.map fun d => Val.str ⟨#[d]⟩) [some a, o] h = .nx [some a, o'] h ∧ cs.all okC = true) ∨
    (forL (.nm 1) (run c b11w1_0) (cs.map fun d => Val.str ⟨#[d]⟩) [some a, o] h = .rt (.bl false) h ∧ cs.all okC = false)
  | [], o => .inl ⟨o, rfl, rfl⟩
  | d :: cs, o => by
    have step : (run c b11w1_0 [some a, some (Val.str ⟨#[d]⟩)] h) = if okC d then .nx [some a, some (Val.str ⟨#[d]⟩)] h else .rt (.bl false) h := by
      unfold b11w1_0
      walk_at "mp"
      have e1 : ("a" : Str).cps.toList = [97] := by decide +kernel
      have e2 : ("z" : Str).cps.toList = [122] := by decide +kernel
      rw [e1, e2]
      show (Res.out (if decide ([d] < [97]) = true then _ else Res.ok (decide ([122] < [d])) h) _ _).thn _ = _
      rw [sign_lt, sign_lt]
      unfold okC
      by_cases c1 : d < 97
      · have c2 : ¬ 97 ≤ d := by omega
        simp only [c1, c2, decide_true, decide_false, if_true, Bool.false_and, Bool.false_eq_true, if_false]
        walk_at "mp"
      · have c2 : 97 ≤ d := by omega
        by_cases c3 : 122 < d
        · have c4 : ¬ d ≤ 122 := by omega
          simp only [c1, c2, c3, c4, decide_true, decide_false, if_true, if_false, Bool.false_eq_true]
          walk_at "mp"
        · have c4 : d ≤ 122 := by omega
          simp only [c1, c2, c3, c4, decide_true, decide_false, if_true, if_false, Bool.false_eq_true]
          walk_at "mp"
    rw [List.map_cons, fl_cons]
    walk_at "mp"
    rw [step]
    cases q : okC d with
    | false =>
      right
      refine ⟨?_, by simp [q]⟩
      walk_at "mp"
    | true =>
      rw [if_pos rfl, turn_nx]
      rcases due_loop c a cs (some (Val.str ⟨#[d]⟩)) with ⟨o', e, f⟩ | ⟨e, f⟩
      · exact .inl ⟨o', e, by simp [q, f]⟩
      · exact .inr ⟨e, by simp [q, f]⟩
theorem due_ok {v : Val} (t : Thing v) : callF P W gv (k + 1) 11 [v] h = .ok (.bl (nameV v)) h := by
  rw [callF_go (f := f11) rfl b11 1]
  unfold b11 b11_0
  have fin : ∀ b : Bool, finish f11 h.length (.bl b) h = .ok (.bl b) h := fun b => finish_b rfl
  cases t with
  | str x hx ha =>
    have ln := bi_len_s (x := x) h (by omega)
    by_cases c1 : x.length = 0
    · have d1 : (x.length : Int) = 0 := by omega
      walk_at "mp"
      rw [ln]
      walk_at "mp"
      simp only [d1, decide_true, if_true]
      walk_at "mp"
      rw [fin]
      unfold nameV
      simp [c1]
    · have d1 : ¬ ((x.length : Int) = 0) := by omega
      by_cases c2 : 6 < x.length
      · have d2 : (6 : Int) < (x.length : Int) := by omega
        have c3 : ¬ x.length ≤ 6 := by omega
        walk_at "mp"
        simp only [ln]
        walk_at "mp"
        simp only [d1, ln, decide_true, decide_false, if_true, if_false, Bool.false_eq_true]
        walk_at "mp"
        simp only [d1, d2, decide_true, decide_false, if_true, if_false, Bool.false_eq_true]
        walk_at "mp"
        rw [fin]
        unfold nameV
        simp [c3]
      · have d2 : ¬ ((6 : Int) < (x.length : Int)) := by omega
        have c3 : x.length ≤ 6 := by omega
        have c4 : 1 ≤ x.length := by omega
        walk_at "mp"
        simp only [ln]
        walk_at "mp"
        simp only [d1, ln, decide_true, decide_false, if_true, if_false, Bool.false_eq_true]
        walk_at "mp"
        simp only [d1, d2, decide_true, decide_false, if_true, if_false, Bool.false_eq_true]
        walk_at "mp"
        unfold b11_1
        walk_at "mp"
        rcases due_loop (h := h) ⟨callF P W gv k, W, gv⟩ (.str x) x.cps.toList none with ⟨o', e, f⟩ | ⟨e, f⟩
        · rw [e]
          unfold b11_2
          walk_at "mp"
          rw [fin]
          unfold nameV
          simp only [c3, c4, f, decide_true, Bool.true_and]
        · rw [e]
          walk_at "mp"
          rw [fin]
          unfold nameV
          simp only [c3, c4, f, decide_true, Bool.true_and]
  | int i _ => walk_at "mp"; exact fin _
  | oth v hv =>
    refine oth_cases (p := fun v => endF f11 h.length (run _ _ ([v].map some ++ _) h) = .ok (.bl (nameV v)) h) hv ?_ ?_ ?_ ?_ ?_
    · walk_at "mp"; exact fin _
    · intro b; walk_at "mp"; exact fin _
    · intro b _; walk_at "mp"; exact fin _
    · intro b _; walk_at "mp"; exact fin _
    · intro b c _; walk_at "mp"; exact fin _
/-! ### texts -/
def pg : Str := (" !\"#$&'()*+,-./0123456789:;<=>?@ABCDEFGHIJKLMNOPQRSTUVWXYZ[\\]^_`" : Str) ++ ("abcdefghijklmnopqrstuvwxyz{|}~\n" : Str)
theorem pg_len : pg.length = 95 := by decide +kernel
theorem pg_ascii : ascii pg := by
  have e : (pg.cps.toList.all fun c => decide (c < 128)) = true := by decide +kernel
  intro c hc
  exact of_decide_eq_true (List.all_eq_true.mp e c hc)
theorem page_ok : callF P W gv (k + 1) 7 [] h = .ok (.str pg) h := by
  rw [callF_go (f := f7) rfl b7 1]
  unfold b7 b7_0 b7_1
  walk_at "mp"
  have e : (" !\"#$&'()*+,-./0123456789:;<=>?@ABCDEFGHIJKLMNOPQRSTUVWXYZ[\\]^_`" : Str).length + ("abcdefghijklmnopqrstuvwxyz{|}~\n" : Str).length ≤ 16777216 := by decide +kernel
  rw [if_pos e]
  walk_at "mp"
  exact finish_s rfl
theorem at_str {z : Str} {v : Int} (h0 : 0 ≤ v) (h1 : v < z.length) : ∃ c, c ∈ z.cps.toList ∧ L2.atI z.cps.toList v = some c := by
  obtain ⟨j, rfl⟩ := Int.eq_ofNat_of_zero_le h0
  have hj : j < z.cps.toList.length := by
    rw [Array.length_toList]
    have : z.cps.size = z.length := rfl
    omega
  exact ⟨z.cps.toList[j], List.getElem_mem hj, L2.atI_nat (List.getElem?_eq_getElem hj)⟩
theorem strsOf_map : ∀ ys : List Str, strsOf (ys.map .str) = some ys
  | [] => rfl
  | y :: ys => by
    show (strsOf (ys.map .str)).map (fun zs => y :: zs) = _
    rw [strsOf_map ys]
    rfl
theorem joinL_nil : ∀ ps : List (List Nat), TL.joinL [] ps = ps.flatten
  | [] => rfl
  | [p] => by simp [TL.joinL]
  | p :: q :: r => by
    show p ++ ([] ++ TL.joinL [] (q :: r)) = _
    rw [joinL_nil (q :: r)]
    simp
theorem join_tl (ys : List Str) : (Txt.join "" ys).cps.toList = (ys.map fun y => y.cps.toList).flatten := by
  have e := TL.tl_join "" ys
  rw [← TL.join_eq] at e
  have e2 : TL.tl "" = [] := by decide +kernel
  rw [e2, joinL_nil] at e
  exact e
theorem app_cps (x y : Str) : (x ++ y).cps.toList = x.cps.toList ++ y.cps.toList := by
  show (x.cps ++ y.cps).toList = _
  simp
theorem app_len (x y : Str) : (x ++ y).length = x.length + y.length := by
  show (x.cps ++ y.cps).size = x.cps.size + y.cps.size
  simp
theorem app_ascii {x y : Str} (hx : ascii x) (hy : ascii y) : ascii (x ++ y) := by
  intro c hc
  rw [app_cps] at hc
  rcases List.mem_append.mp hc with z | z
  · exact hx c z
  · exact hy c z
theorem cut_ascii {x : Str} {i j : Option Int} (hx : ascii x) : ascii (L2.cutS x i j) := by
  intro c hc
  have hc : c ∈ ((x.cps.toList.drop (HT.sIx x.length 0 i)).take (HT.sIx x.length x.length j - HT.sIx x.length 0 i)) := by
    simpa [L2.cutS] using hc
  exact hx c (List.mem_of_mem_drop (List.mem_of_mem_take hc))
end
end MP.G
namespace MP.G
open PySem
local macro_rules | `(tactic| walk_at "mp") => `(tactic| try simp only [e_var, e_con, e_bt, e_glo, e_d0, e_d1, e_tup, e_lst, e_bin, e_neg, e_cmp, e_chn, e_sl, e_lc, e_and, e_or, e_not, e_ife, e_cal, e_bi, e_bm, e_ix, es_nl, es_cs, o_nl, o_cs, t_nl, t_and, t_or, t_not, t_cmp, t_chn, t_tst, i_seq, i_rng, r_nop, r_seq, r_asg, r_asgc, r_par, r_setix, r_ret, r_exp, r_ite, r_whl, r_for, r_scope, st_nm, st_tup, st_nl, st_cs, st_2, bin_ii, bin_add, bin_sub, bin_ss, bin_tt, cmp_ii, cmp_eq, cmp_ne, cmp_lt, cmp_le, cmp_gt, cmp_ge, cmp_ss, cs_eq, cs_ne, cs_lt, cs_gt, cs_in, cs_nin, seq_lst, seq_rol, seq_tup, bi_abs, bi_max, bi_min, bi_int_i, bi_int_b, bi_len_l, bi_len_r, bi_len_t, bi_len_h, bi_isi, ty_non, ty_bl, ty_int, ty_str, ty_tup, ty_lst, ty_rol, ty_dct, bm_bits, bt_bits, bt_rev, bt_app, bt_join, bm_join, kit_int_int, kit_int_bool, kit_int_str, kit_int_list, kit_int_tuple, kit_int_dict, kit_bool_int, kit_bool_bool, kit_bool_str, kit_bool_list, kit_bool_tuple, kit_bool_dict, kit_str_int, kit_str_bool, kit_str_str, kit_str_list, kit_str_tuple, kit_str_dict, kit_none_int, kit_none_bool, kit_none_str, kit_none_list, kit_none_tuple, kit_none_dict, kit_list_int, kit_list_bool, kit_list_str, kit_list_list, kit_list_tuple, kit_list_dict, kit_tuple_int, kit_tuple_bool, kit_tuple_str, kit_tuple_list, kit_tuple_tuple, kit_tuple_dict, kit_dict_int, kit_dict_bool, kit_dict_str, kit_dict_list, kit_dict_tuple, kit_dict_dict, seqI_l, seqI_r, seqI_t, seqI_s, varR_ok, andR_t, andR_f, orR_t, orR_f, notR_b, negR_i, partR_i, tru_b, tru_i, tru_n, ixR_l, ixR_r, ixR_t, ixR_h, at0, at1, at2, at3, at4, at5, at6, at7, at8, at9, at10, at11, at12, at13, bind_ok, bind_exc, bind_bad, noX_ok, noX_bad, opt_some, opt_none, out_ok, out_exc, out_bad, oopt_some, oopt_none, thn_nx, thn_rt, thn_bk, thn_ct, thn_exc, thn_bad, turn_nx, turn_ct, turn_bk, turn_rt, turn_exc, turn_bad, trim_nx, trim_bk, trim_ct, trim_rt, trim_exc, trim_bad, end_nx, end_rt, objL_s, seq_refO, setix_ref, setL_0, setL_1, setL_2, bm_rev, Option.map_some, List.reverse_cons, List.reverse_nil, fl_nil, fl_cons, tupR_v, lstR_v, lstR_h, rl_nil, rl_cons, rv_int, rv_bl, rv_non, rv_str, rv_tup, rv_lst, Bool.and_self, Bool.and_true, Bool.true_and, List.length_cons, List.length_nil, Nat.zero_add, Nat.reduceAdd, Nat.reduceLeDiff, p10_6, p10_9, p10_10, p10_12, p10_18, p10_27, p10_30, List.getElem?_cons_zero, List.getElem?_cons_succ, List.set_cons_zero, List.set_cons_succ, List.map_cons, List.map_nil, List.cons_append, List.nil_append, List.append_nil, List.replicate, Nat.sub_self, Nat.reduceSub, Option.bind_some, decide_true, decide_false, Bool.not_true, Bool.not_false, if_true, if_false, Bool.false_eq_true, ↓reduceIte, reduceCtorEq])
local macro_rules | `(tactic| walk_at "mph") => `(tactic| try simp only [*, bin_mod, bin_mul, ne_eq, Int.reduceEq, not_false_eq_true, e_var, e_con, e_bt, e_glo, e_d0, e_d1, e_tup, e_lst, e_bin, e_neg, e_cmp, e_chn, e_sl, e_lc, e_and, e_or, e_not, e_ife, e_cal, e_bi, e_bm, e_ix, es_nl, es_cs, o_nl, o_cs, t_nl, t_and, t_or, t_not, t_cmp, t_chn, t_tst, i_seq, i_rng, r_nop, r_seq, r_asg, r_asgc, r_par, r_setix, r_ret, r_exp, r_ite, r_whl, r_for, r_scope, st_nm, st_tup, st_nl, st_cs, st_2, bin_ii, bin_add, bin_sub, bin_ss, bin_tt, cmp_ii, cmp_eq, cmp_ne, cmp_lt, cmp_le, cmp_gt, cmp_ge, cmp_ss, cs_eq, cs_ne, cs_lt, cs_gt, cs_in, cs_nin, seq_lst, seq_rol, seq_tup, bi_abs, bi_max, bi_min, bi_int_i, bi_int_b, bi_len_l, bi_len_r, bi_len_t, bi_len_h, bi_isi, ty_non, ty_bl, ty_int, ty_str, ty_tup, ty_lst, ty_rol, ty_dct, bm_bits, bt_bits, bt_rev, bt_app, bt_join, bm_join, kit_int_int, kit_int_bool, kit_int_str, kit_int_list, kit_int_tuple, kit_int_dict, kit_bool_int, kit_bool_bool, kit_bool_str, kit_bool_list, kit_bool_tuple, kit_bool_dict, kit_str_int, kit_str_bool, kit_str_str, kit_str_list, kit_str_tuple, kit_str_dict, kit_none_int, kit_none_bool, kit_none_str, kit_none_list, kit_none_tuple, kit_none_dict, kit_list_int, kit_list_bool, kit_list_str, kit_list_list, kit_list_tuple, kit_list_dict, kit_tuple_int, kit_tuple_bool, kit_tuple_str, kit_tuple_list, kit_tuple_tuple, kit_tuple_dict, kit_dict_int, kit_dict_bool, kit_dict_str, kit_dict_list, kit_dict_tuple, kit_dict_dict, seqI_l, seqI_r, seqI_t, seqI_s, varR_ok, andR_t, andR_f, orR_t, orR_f, notR_b, negR_i, partR_i, tru_b, tru_i, tru_n, ixR_l, ixR_r, ixR_t, ixR_h, at0, at1, at2, at3, at4, at5, at6, at7, at8, at9, at10, at11, at12, at13, bind_ok, bind_exc, bind_bad, noX_ok, noX_bad, opt_some, opt_none, out_ok, out_exc, out_bad, oopt_some, oopt_none, thn_nx, thn_rt, thn_bk, thn_ct, thn_exc, thn_bad, turn_nx, turn_ct, turn_bk, turn_rt, turn_exc, turn_bad, trim_nx, trim_bk, trim_ct, trim_rt, trim_exc, trim_bad, end_nx, end_rt, objL_s, seq_refO, setix_ref, setL_0, setL_1, setL_2, bm_rev, Option.map_some, List.reverse_cons, List.reverse_nil, fl_nil, fl_cons, tupR_v, lstR_v, lstR_h, rl_nil, rl_cons, rv_int, rv_bl, rv_non, rv_str, rv_tup, rv_lst, Bool.and_self, Bool.and_true, Bool.true_and, List.length_cons, List.length_nil, Nat.zero_add, Nat.reduceAdd, Nat.reduceLeDiff, p10_6, p10_9, p10_10, p10_12, p10_18, p10_27, p10_30, List.getElem?_cons_zero, List.getElem?_cons_succ, List.set_cons_zero, List.set_cons_succ, List.map_cons, List.map_nil, List.cons_append, List.nil_append, List.append_nil, List.replicate, Nat.sub_self, Nat.reduceSub, Option.bind_some, decide_true, decide_false, Bool.not_true, Bool.not_false, if_true, if_false, Bool.false_eq_true, ↓reduceIte, reduceCtorEq])
section
variable {W k r : Nat} {h : Heap} {o : Obj} {m : Nat}
theorem take5 (many : Int) (hr : h[r]? = some o) (hB : IsBox o m) (hm : m ≤ 1000000) (h1 : 1 ≤ many) (h2 : many < 2 ^ 64) : ∃ v o', callF P W gv (k + 1) 5 [.ref r, .int many] h = .ok (.int v) (h.set r o') ∧ 0 ≤ v ∧ v < many ∧ IsBox o' (m + 1) :=
  take_ok (P := P) (i := 5) rfl hr hB (by omega) h1 (Nat.le_trans (bits_lt (by omega) h2) (by decide))
def lett : Str := "abcdefghijklmnopqrstuvwxyz"
theorem lett_ascii : ascii lett := by
  intro c hc
  have z : decide (c ∈ lett.cps.toList) = true := decide_eq_true hc
  have e := letters_in c
  have z2 : okC c = true := e.symm.trans z
  unfold okC at z2
  simp only [Bool.and_eq_true, decide_eq_true_eq] at z2
  omega
theorem text_comp (c : Cf) (hc : c.call = callF P W gv (k + 1)) {a1 a3 a4 a5 a6 : Option Val} : ∀ (n : Nat) (lo : Int) (h : Heap) (o : Obj) (m : Nat) (acc : List Val), h[r]? = some o → IsBox o m → m + n ≤ 1000000 → acc.length + n ≤ 1000 →
    ∃ (o' : Obj) (ys : List Str), compL (evalT c .nl) (evalE c (.ix (.var 2) (.cal 5 (.cs (.var 0) (.cs (.con (.int 26)) .nl))))) (.nm 6) [some (.ref r), a1, some (.str lett), a3, a4, a5, a6] h.length (rangeL lo n) (h ++ [.lst acc]) = .ok () (h.set r o' ++ [.lst (acc ++ ys.map .str)]) ∧ IsBox o' (m + n) ∧ ys.length = n ∧ ∀ y ∈ ys, ∃ d, d < 128 ∧ y = ⟨#[d]⟩
  | 0, lo, h, o, m, acc, hr, hB, _, _ => ⟨o, [], by rw [set_same hr, List.map_nil, List.append_nil]; rfl, hB, rfl, fun _ z => by cases z⟩
  | n + 1, lo, h, o, m, acc, hr, hB, hm, ha => by
    have hl : r < h.length := (List.getElem?_eq_some_iff.mp hr).1
    obtain ⟨v, o1, e1, v1, v2, B1⟩ := take5 (W := W) (k := k) (h := h ++ [.lst acc]) 26 (by rw [List.getElem?_append_left hl]; exact hr) hB (by omega) (by decide) (by decide)
    rw [List.set_append_left _ _ hl] at e1
    obtain ⟨d, hd, ed⟩ := at_str (z := lett) v1 (by have : lett.length = 26 := by decide +kernel
                                                    omega)
    have hd2 := lett_ascii d hd
    have sl := ixR_s (z := lett) v (h.set r o1 ++ [.lst acc]) (by decide +kernel)
    obtain ⟨o2, ys, e2, B2, l2, p2⟩ := text_comp c hc (a1 := a1) (a3 := a3) (a4 := a4) (a5 := a5) (a6 := a6) n (lo + 1) (h.set r o1) o1 (m + 1) (acc ++ [.str ⟨#[d]⟩]) (set_get hr) B1 (by omega) (by rw [List.length_append, List.length_singleton]; omega)
    refine ⟨o2, ⟨#[d]⟩ :: ys, ?_, by rw [show m + (n + 1) = m + 1 + n by omega]; exact B2, by rw [List.length_cons, l2], fun y hy => ?_⟩
    · rw [rangeL_succ]
      unfold compL
      walk_at "mp"
      rw [hc, e1]
      walk_at "mp"
      rw [sl, ed]
      walk_at "mp"
      rw [show h.length = (h.set r o1).length by simp, app_end rfl (by omega)]
      walk_at "mp"
      rw [e2, List.set_set]
      simp
    · rcases List.mem_cons.mp hy with z | z
      · exact ⟨d, hd2, z⟩
      · exact p2 y z
theorem text_ok (hr : h[r]? = some o) (hB : IsBox o m) (hm : m ≤ 100000) : ∃ x o', callF P W gv (k + 2) 8 [.ref r] h = .ok (.str x) (h.set r o') ∧ x.length ≤ 20 ∧ ascii x ∧ IsBox o' (m + 12) := by
  rw [callF_go (f := f8) rfl b8 6]
  unfold b8 b8_0
  obtain ⟨v1, o1, e1, p1, q1, B1⟩ := take5 (W := W) (k := k) 4 hr hB (by omega) (by decide) (by decide)
  walk_at "mp"
  rw [e1]
  walk_at "mp"
  unfold b8_1
  walk_at "mp"
  unfold b8_2
  walk_at "mp"
  obtain ⟨v2, o2, e2, p2, q2, B2⟩ := take5 (W := W) (k := k) 9 (set_get (o' := o1) hr) B1 (by omega) (by decide) (by decide)
  rw [e2, List.set_set]
  walk_at "mp"
  obtain ⟨n, rfl⟩ := Int.eq_ofNat_of_zero_le p2
  rw [rng_i (by omega) (by omega), Int.toNat_natCast]
  walk_at "mp"
  have hr2 := set_get (o' := o2) hr
  obtain ⟨o3, ys, e3, B3, l3, p3⟩ := text_comp (W := W) (k := k) (r := r) ⟨callF P W gv (k + 1), W, gv⟩ rfl (a1 := some (.int v1)) (a3 := none) (a4 := none) (a5 := none) (a6 := none) n 0 (h.set r o2) o2 (m + 1 + 1) [] hr2 B2 (by omega) (by simp; omega)
  have ew : wipeL [some (Val.ref r), some (Val.int v1), some (Val.str "abcdefghijklmnopqrstuvwxyz"), none, none, none, none] [6] = [some (.ref r), some (.int v1), some (.str lett), none, none, none, none] := rfl
  rw [ew, e3, bind_ok, List.set_set, List.nil_append, show (h.set r o2).length = (h.set r o3).length by simp, compF_v]
  walk_at "mp"
  rw [strsOf_map]
  walk_at "mp"
  have hj : ∀ c ∈ (Txt.join "" ys).cps.toList, c < 128 := by
    rw [join_tl]
    intro c hc
    obtain ⟨l, hl, hcl⟩ := List.mem_flatten.mp hc
    obtain ⟨y, hy, rfl⟩ := List.mem_map.mp hl
    obtain ⟨d, hd, rfl⟩ := p3 y hy
    have : c = d := by simpa using hcl
    omega
  have hs : (ys.map (·.length)).sum = ys.length := by
    clear e3 l3 hj
    induction ys with
    | nil => rfl
    | cons y ys ih =>
      obtain ⟨d, _, rfl⟩ := p3 y (by simp)
      rw [List.map_cons, List.sum_cons, ih fun z hz => p3 z (List.mem_cons_of_mem _ hz), List.length_cons]
      show 1 + _ = _
      omega
  have hjl : (Txt.join "" ys).length = ys.length := by
    show (Txt.join "" ys).cps.size = _
    rw [← Array.length_toList, join_tl, List.length_flatten, List.map_map, ← hs]
    congr 1
  have e0 : ("" : Str).length = 0 := by decide +kernel
  rw [if_pos (by rw [hs, l3, e0]; omega)]
  walk_at "mp"
  generalize Txt.join "" ys = x at hj hjl
  unfold b8_3
  walk_at "mp"
  rw [bi_len_s _ (by omega)]
  walk_at "mp"
  obtain ⟨v4, o4, e4, p4, q4, B4⟩ := take5 (W := W) (k := k) ((x.length : Int) + 1) (set_get (o' := o3) hr) B3 (by omega) (by omega) (by omega)
  rw [e4, List.set_set]
  walk_at "mp"
  unfold b8_4
  walk_at "mp"
  rw [page_ok]
  walk_at "mp"
  obtain ⟨v5, o5, e5, p5, q5, B5⟩ := take5 (W := W) (k := k) 95 (set_get (o' := o4) hr) B4 (by omega) (by decide) (by decide)
  rw [e5, List.set_set]
  walk_at "mp"
  rw [ixR_s _ _ (by rw [pg_len]; decide)]
  obtain ⟨d, hd, ed⟩ := at_str (z := pg) p5 (by rw [pg_len]; exact q5)
  rw [ed]
  walk_at "mp"
  have B6 := B5.mono (show m + 1 + 1 + n + 1 + 1 ≤ m + 12 by omega)
  have hd2 := pg_ascii d hd
  have ha : ascii (⟨#[d]⟩ : Str) := fun c hc => by
    have : c = d := by simpa using hc
    omega
  have l1 : (⟨#[d]⟩ : Str).length = 1 := rfl
  have fin : ∀ z : Str, finish f8 h.length (.str z) (h.set r o5) = .ok (.str z) (h.set r o5) := fun z => finish_p rfl rfl (List.take_of_length_le (by simp))
  have sl : ∀ i j, slO (h.set r o5) (.str x) i j = some (.str (L2.cutS x i j)) := fun i j => if_pos (by omega)
  have cl := fun i j => L2.cutS_length x i j
  unfold b8_5
  walk_at "mp"
  by_cases c2 : v1 = 2
  · simp only [c2, decide_true, if_true]
    walk_at "mp"
    rw [sl]
    walk_at "mp"
    rw [if_pos (by have := cl none (some v4); omega)]
    walk_at "mp"
    rw [sl]
    walk_at "mp"
    rw [if_pos (by have := cl none (some v4); have := cl (some v4) none; rw [app_len]; omega)]
    walk_at "mp"
    refine ⟨_, o5, fin _, ?_, app_ascii (app_ascii (cut_ascii hj) ha) (cut_ascii hj), B6⟩
    have := cl none (some v4)
    have := cl (some v4) none
    rw [app_len, app_len]
    omega
  · simp only [c2, decide_false, if_false, Bool.false_eq_true]
    walk_at "mp"
    unfold b8_6
    walk_at "mp"
    by_cases c3 : v1 = 3
    · simp only [c3, decide_true, if_true]
      walk_at "mp"
      rw [sl]
      walk_at "mp"
      rw [if_pos (by have := cl none (some v4); omega)]
      walk_at "mp"
      rw [sl]
      walk_at "mp"
      rw [if_pos (by have := cl none (some v4); have := cl (some (v4 + 1)) none; rw [app_len]; omega)]
      walk_at "mp"
      refine ⟨_, o5, fin _, ?_, app_ascii (app_ascii (cut_ascii hj) ha) (cut_ascii hj), B6⟩
      have := cl none (some v4)
      have := cl (some (v4 + 1)) none
      rw [app_len, app_len]
      omega
    · simp only [c3, decide_false, if_false, Bool.false_eq_true]
      walk_at "mp"
      unfold b8_7
      walk_at "mp"
      exact ⟨x, o5, fin _, by omega, hj, B6⟩
end
end MP.G
namespace MP.G
open PySem
local macro_rules | `(tactic| walk_at "mp") => `(tactic| try simp only [e_var, e_con, e_bt, e_glo, e_d0, e_d1, e_tup, e_lst, e_bin, e_neg, e_cmp, e_chn, e_sl, e_lc, e_and, e_or, e_not, e_ife, e_cal, e_bi, e_bm, e_ix, es_nl, es_cs, o_nl, o_cs, t_nl, t_and, t_or, t_not, t_cmp, t_chn, t_tst, i_seq, i_rng, r_nop, r_seq, r_asg, r_asgc, r_par, r_setix, r_ret, r_exp, r_ite, r_whl, r_for, r_scope, st_nm, st_tup, st_nl, st_cs, st_2, bin_ii, bin_add, bin_sub, bin_ss, bin_tt, cmp_ii, cmp_eq, cmp_ne, cmp_lt, cmp_le, cmp_gt, cmp_ge, cmp_ss, cs_eq, cs_ne, cs_lt, cs_gt, cs_in, cs_nin, seq_lst, seq_rol, seq_tup, bi_abs, bi_max, bi_min, bi_int_i, bi_int_b, bi_len_l, bi_len_r, bi_len_t, bi_len_h, bi_isi, ty_non, ty_bl, ty_int, ty_str, ty_tup, ty_lst, ty_rol, ty_dct, bm_bits, bt_bits, bt_rev, bt_app, bt_join, bm_join, kit_int_int, kit_int_bool, kit_int_str, kit_int_list, kit_int_tuple, kit_int_dict, kit_bool_int, kit_bool_bool, kit_bool_str, kit_bool_list, kit_bool_tuple, kit_bool_dict, kit_str_int, kit_str_bool, kit_str_str, kit_str_list, kit_str_tuple, kit_str_dict, kit_none_int, kit_none_bool, kit_none_str, kit_none_list, kit_none_tuple, kit_none_dict, kit_list_int, kit_list_bool, kit_list_str, kit_list_list, kit_list_tuple, kit_list_dict, kit_tuple_int, kit_tuple_bool, kit_tuple_str, kit_tuple_list, kit_tuple_tuple, kit_tuple_dict, kit_dict_int, kit_dict_bool, kit_dict_str, kit_dict_list, kit_dict_tuple, kit_dict_dict, seqI_l, seqI_r, seqI_t, seqI_s, varR_ok, andR_t, andR_f, orR_t, orR_f, notR_b, negR_i, partR_i, tru_b, tru_i, tru_n, ixR_l, ixR_r, ixR_t, ixR_h, at0, at1, at2, at3, at4, at5, at6, at7, at8, at9, at10, at11, at12, at13, bind_ok, bind_exc, bind_bad, noX_ok, noX_bad, opt_some, opt_none, out_ok, out_exc, out_bad, oopt_some, oopt_none, thn_nx, thn_rt, thn_bk, thn_ct, thn_exc, thn_bad, turn_nx, turn_ct, turn_bk, turn_rt, turn_exc, turn_bad, trim_nx, trim_bk, trim_ct, trim_rt, trim_exc, trim_bad, end_nx, end_rt, objL_s, seq_refO, setix_ref, setL_0, setL_1, setL_2, bm_rev, Option.map_some, List.reverse_cons, List.reverse_nil, fl_nil, fl_cons, tupR_v, lstR_v, lstR_h, rl_nil, rl_cons, rv_int, rv_bl, rv_non, rv_str, rv_tup, rv_lst, Bool.and_self, Bool.and_true, Bool.true_and, List.length_cons, List.length_nil, Nat.zero_add, Nat.reduceAdd, Nat.reduceLeDiff, p10_6, p10_9, p10_10, p10_12, p10_18, p10_27, p10_30, List.getElem?_cons_zero, List.getElem?_cons_succ, List.set_cons_zero, List.set_cons_succ, List.map_cons, List.map_nil, List.cons_append, List.nil_append, List.append_nil, List.replicate, Nat.sub_self, Nat.reduceSub, Option.bind_some, decide_true, decide_false, Bool.not_true, Bool.not_false, if_true, if_false, Bool.false_eq_true, ↓reduceIte, reduceCtorEq])
local macro_rules | `(tactic| walk_at "mph") => `(tactic| try simp only [*, bin_mod, bin_mul, ne_eq, Int.reduceEq, not_false_eq_true, e_var, e_con, e_bt, e_glo, e_d0, e_d1, e_tup, e_lst, e_bin, e_neg, e_cmp, e_chn, e_sl, e_lc, e_and, e_or, e_not, e_ife, e_cal, e_bi, e_bm, e_ix, es_nl, es_cs, o_nl, o_cs, t_nl, t_and, t_or, t_not, t_cmp, t_chn, t_tst, i_seq, i_rng, r_nop, r_seq, r_asg, r_asgc, r_par, r_setix, r_ret, r_exp, r_ite, r_whl, r_for, r_scope, st_nm, st_tup, st_nl, st_cs, st_2, bin_ii, bin_add, bin_sub, bin_ss, bin_tt, cmp_ii, cmp_eq, cmp_ne, cmp_lt, cmp_le, cmp_gt, cmp_ge, cmp_ss, cs_eq, cs_ne, cs_lt, cs_gt, cs_in, cs_nin, seq_lst, seq_rol, seq_tup, bi_abs, bi_max, bi_min, bi_int_i, bi_int_b, bi_len_l, bi_len_r, bi_len_t, bi_len_h, bi_isi, ty_non, ty_bl, ty_int, ty_str, ty_tup, ty_lst, ty_rol, ty_dct, bm_bits, bt_bits, bt_rev, bt_app, bt_join, bm_join, kit_int_int, kit_int_bool, kit_int_str, kit_int_list, kit_int_tuple, kit_int_dict, kit_bool_int, kit_bool_bool, kit_bool_str, kit_bool_list, kit_bool_tuple, kit_bool_dict, kit_str_int, kit_str_bool, kit_str_str, kit_str_list, kit_str_tuple, kit_str_dict, kit_none_int, kit_none_bool, kit_none_str, kit_none_list, kit_none_tuple, kit_none_dict, kit_list_int, kit_list_bool, kit_list_str, kit_list_list, kit_list_tuple, kit_list_dict, kit_tuple_int, kit_tuple_bool, kit_tuple_str, kit_tuple_list, kit_tuple_tuple, kit_tuple_dict, kit_dict_int, kit_dict_bool, kit_dict_str, kit_dict_list, kit_dict_tuple, kit_dict_dict, seqI_l, seqI_r, seqI_t, seqI_s, varR_ok, andR_t, andR_f, orR_t, orR_f, notR_b, negR_i, partR_i, tru_b, tru_i, tru_n, ixR_l, ixR_r, ixR_t, ixR_h, at0, at1, at2, at3, at4, at5, at6, at7, at8, at9, at10, at11, at12, at13, bind_ok, bind_exc, bind_bad, noX_ok, noX_bad, opt_some, opt_none, out_ok, out_exc, out_bad, oopt_some, oopt_none, thn_nx, thn_rt, thn_bk, thn_ct, thn_exc, thn_bad, turn_nx, turn_ct, turn_bk, turn_rt, turn_exc, turn_bad, trim_nx, trim_bk, trim_ct, trim_rt, trim_exc, trim_bad, end_nx, end_rt, objL_s, seq_refO, setix_ref, setL_0, setL_1, setL_2, bm_rev, Option.map_some, List.reverse_cons, List.reverse_nil, fl_nil, fl_cons, tupR_v, lstR_v, lstR_h, rl_nil, rl_cons, rv_int, rv_bl, rv_non, rv_str, rv_tup, rv_lst, Bool.and_self, Bool.and_true, Bool.true_and, List.length_cons, List.length_nil, Nat.zero_add, Nat.reduceAdd, Nat.reduceLeDiff, p10_6, p10_9, p10_10, p10_12, p10_18, p10_27, p10_30, List.getElem?_cons_zero, List.getElem?_cons_succ, List.set_cons_zero, List.set_cons_succ, List.map_cons, List.map_nil, List.cons_append, List.nil_append, List.append_nil, List.replicate, Nat.sub_self, Nat.reduceSub, Option.bind_some, decide_true, decide_false, Bool.not_true, Bool.not_false, if_true, if_false, Bool.false_eq_true, ↓reduceIte, reduceCtorEq])
section
variable {W k r : Nat} {h : Heap} {o : Obj} {m : Nat}
theorem great6 (ch : Nat) (hr : h[r]? = some o) (hB : IsBox o m) (hm : m ≤ 1000000) (hc : ch ≤ 100) : ∃ v o', callF P W gv (k + 2) 6 [.ref r, .int ch] h = .ok (.int v) (h.set r o') ∧ 1 ≤ v ∧ v < 2 ^ (4 + 30 * ch) ∧ IsBox o' (m + 200) := by
  obtain ⟨v, o', e, a, b, B⟩ := great_ok (P := P) (gv := gv) (W := W) (k := k) (i := 6) (t := 5) rfl rfl hr hB (by omega) (show ch ≤ 1000000 by omega)
  exact ⟨v, o', e, a, b, B.mono (by omega)⟩
theorem nat_of {v : Int} (h : 0 ≤ v) : ∃ n : Nat, v = n := ⟨v.toNat, by omega⟩
theorem sgn_at {v : Int} (h0 : 0 ≤ v) (h1 : v < 2) : ∃ s, L2.atI [Val.int 1, .int (-1)] v = some (.int s) ∧ (s = 1 ∨ s = -1) := by
  rcases (show v = 0 ∨ v = 1 by omega) with rfl | rfl
  · exact ⟨1, rfl, .inl rfl⟩
  · exact ⟨-1, rfl, .inr rfl⟩
theorem oth_at {v : Int} (h0 : 0 ≤ v) (h1 : v < 14) : ∃ w, L2.atI oth v = some w ∧ w ∈ oth := by
  obtain ⟨n, rfl⟩ := nat_of h0
  have hn : n < oth.length := by
    show n < 14
    omega
  exact ⟨oth[n], L2.atI_nat (List.getElem?_eq_getElem hn), List.getElem_mem hn⟩
theorem oth_pure {v : Val} (hv : v ∈ oth) : pure0 v = true := oth_cases (p := fun v => pure0 v = true) hv rfl (fun _ => rfl) (fun _ p => p) (fun _ p => p) (fun _ _ p => p)
mutual
theorem refs_mono {b : Nat} : ∀ {v : Val}, refsLt 0 v = true → refsLt b v = true
  | .non, _ => rfl
  | .bl _, _ => rfl
  | .int _, _ => rfl
  | .str _, _ => rfl
  | .ty _, _ => rfl
  | .ref n, p => absurd (show n < 0 from of_decide_eq_true (p := n < 0) p) (Nat.not_lt_zero n)
  | .lst xs, p => refsL_mono (xs := xs) p
  | .rol xs, p => refsL_mono (xs := xs) p
  | .dct _ xs, p => refsL_mono (xs := xs) p
  | .tup xs, p => refsL_mono (xs := xs) p
theorem refsL_mono {b : Nat} : ∀ {xs : List Val}, refsLtL 0 xs = true → refsLtL b xs = true
  | [], _ => rfl
  | x :: xs, p => by
    have p2 : (refsLt 0 x && refsLtL 0 xs) = true := p
    rw [Bool.and_eq_true] at p2
    show (refsLt b x && refsLtL b xs) = true
    rw [refs_mono p2.1, refsL_mono p2.2]
    rfl
end
theorem thing_pure {v : Val} (t : Thing v) : pure0 v = true := by
  cases t with
  | str x _ _ => rfl
  | int i _ => rfl
  | oth v hv => exact oth_pure hv
theorem fin9 {v : Val} {h h' : Heap} (t : Thing v) (e : h'.length = h.length) : finish f9 h.length v h' = .ok v h' := finish_p rfl (refs_mono (thing_pure t)) (List.take_of_length_le (by omega))
theorem thing_ok (hr : h[r]? = some o) (hB : IsBox o m) (hm : m ≤ 10000) : ∃ v o', callF P W gv (k + 3) 9 [.ref r] h = .ok v (h.set r o') ∧ Thing v ∧ IsBox o' (m + 300) := by
  rw [callF_go (f := f9) rfl b9 2]
  unfold b9 b9_0
  obtain ⟨v1, o1, e1, p1, q1, B1⟩ := take5 (W := W) (k := k + 1) 8 hr hB (by omega) (by decide) (by decide)
  have hr1 := set_get (o' := o1) hr
  walk_at "mph"
  unfold b9_1
  by_cases c1 : v1 < 4
  · obtain ⟨x, o2, e2, l2, a2, B2⟩ := text_ok (W := W) (k := k) hr1 B1 (by omega)
    walk_at "mph"
    rw [List.set_set]
    exact ⟨_, o2, fin9 (.str x l2 a2) (by simp), .str x l2 a2, B2.mono (by omega)⟩
  · walk_at "mph"
    unfold b9_2
    by_cases c2 : v1 = 4
    · obtain ⟨v2, o2, e2, p2, q2, B2⟩ := take5 (W := W) (k := k + 1) 41 hr1 B1 (by omega) (by decide) (by decide)
      subst c2
      walk_at "mph"
      rw [List.set_set]
      have t : Thing (.int (v2 - 20)) := .int _ (bits_le (Nat.lt_trans (show (v2 - 20).natAbs < 2 ^ 10 by omega) (by decide)))
      exact ⟨_, o2, fin9 t (by simp), t, B2.mono (by omega)⟩
    · walk_at "mph"
      unfold b9_3
      by_cases c3 : v1 = 5
      · obtain ⟨v2, o2, e2, p2, q2, B2⟩ := take5 (W := W) (k := k + 1) 10000000000 hr1 B1 (by omega) (by decide) (by decide)
        subst c3
        walk_at "mph"
        rw [List.set_set]
        have t : Thing (.int (v2 - 1000000000)) := .int _ (bits_le (Nat.lt_trans (show (v2 - 1000000000).natAbs < 2 ^ 40 by omega) (by decide)))
        exact ⟨_, o2, fin9 t (by simp), t, B2.mono (by omega)⟩
      · walk_at "mph"
        unfold b9_4
        by_cases c4 : v1 = 6
        · obtain ⟨v2, o2, e2, p2, q2, B2⟩ := take5 (W := W) (k := k + 1) 12 hr1 B1 (by omega) (by decide) (by decide)
          obtain ⟨ch, rfl⟩ := nat_of p2
          have hr2 := set_get (o' := o2) hr
          obtain ⟨v3, o3, e3, p3, q3, B3⟩ := great6 (W := W) (k := k) ch hr2 B2 (by omega) (by omega)
          have hr3 := set_get (o' := o3) hr
          obtain ⟨v4, o4, e4, p4, q4, B4⟩ := take5 (W := W) (k := k + 1) 2 hr3 B3 (by omega) (by decide) (by decide)
          obtain ⟨s, es, hs⟩ := sgn_at p4 q4
          have b3 : bits v3 ≤ 390 := Nat.le_trans (bits_lt (by omega) q3) (by omega)
          have b4 : bits s ≤ 1 := by rcases hs with rfl | rfl <;> decide +kernel
          have g1 : bits v3 + bits s ≤ 134217728 := by omega
          subst c4
          clear q3
          simp only [List.set_set] at e3 e4
          walk_at "mph"
          simp only [List.set_set]
          walk_at "mph"
          have t : Thing (.int (v3 * s)) := .int _ (Nat.le_trans (bits_mul v3 s) (by omega))
          exact ⟨_, o4, fin9 t (by simp), t, B4.mono (by omega)⟩
        · walk_at "mph"
          unfold b9_5
          obtain ⟨v2, o2, e2, p2, q2, B2⟩ := take5 (W := W) (k := k + 1) 14 hr1 B1 (by omega) (by decide) (by decide)
          obtain ⟨w, ew, hw⟩ := oth_at p2 q2
          unfold oth at ew
          unfold b9_6
          walk_at "mph"
          rw [List.set_set]
          exact ⟨_, o2, fin9 (.oth _ hw) (by simp), .oth _ hw, B2.mono (by omega)⟩
def whole (v : Val) : Bool := isI v
def midOf : Val → Int
  | .int i => i
  | _ => 0
theorem mid_ok (v : Val) (l : Loc) : True := trivial
theorem bounds_ok {v : Val} (t : Thing v) (hr : h[r]? = some o) (hB : IsBox o m) (hm : m ≤ 10000) : ∃ a b o', callF P W gv (k + 3) 12 [.ref r, v, .bl (isI v)] h = .ok (.tup [.int a, .int b]) (h.set r o') ∧ IsBox o' (m + 500) := by
  rw [callF_go (f := f12) rfl b12 3]
  unfold b12 b12_0
  walk_at "mph"
  unfold b12_1
  have main : ∀ mid : Int, ∃ a b o', endF f12 h.length (run ⟨callF P W gv (k + 2), W, gv⟩ b12_2 [some (.ref r), some v, some (.bl (isI v)), some (.int mid), none, none] h) = .ok (.tup [.int a, .int b]) (h.set r o') ∧ IsBox o' (m + 500) := by
    intro mid
    obtain ⟨v1, o1, e1, p1, q1, B1⟩ := take5 (W := W) (k := k + 1) 5 hr hB (by omega) (by decide) (by decide)
    have hr1 := set_get (o' := o1) hr
    obtain ⟨v2, o2, e2, p2, q2, B2⟩ := take5 (W := W) (k := k + 1) 3 hr1 B1 (by omega) (by decide) (by decide)
    simp only [List.set_set] at e2
    have tail : ∀ (lo : Int) (o2 : Obj), IsBox o2 (m + 210) → ∃ a b o', endF f12 h.length (run ⟨callF P W gv (k + 2), W, gv⟩ b12_4 [some (.ref r), some v, some (.bl (isI v)), some (.int mid), some (.int lo), none] (h.set r o2)) = .ok (.tup [.int a, .int b]) (h.set r o') ∧ IsBox o' (m + 500) := by
      intro lo o2 B2
      have hr2 := set_get (o' := o2) hr
      obtain ⟨v3, o3, e3, p3, q3, B3⟩ := take5 (W := W) (k := k + 1) 6 hr2 B2 (by omega) (by decide) (by decide)
      have hr3 := set_get (o' := o3) hr
      obtain ⟨v4, o4, e4, p4, q4, B4⟩ := take5 (W := W) (k := k + 1) 3 hr3 B3 (by omega) (by decide) (by decide)
      have hr4 := set_get (o' := o4) hr
      simp only [List.set_set] at e3 e4
      unfold b12_4
      walk_at "mph"
      unfold b12_5
      by_cases c : v4 = 0
      · subst c
        obtain ⟨v5, o5, e5, p5, q5, B5⟩ := take5 (W := W) (k := k + 1) 23 hr4 B4 (by omega) (by decide) (by decide)
        obtain ⟨ch, rfl⟩ := nat_of p5
        have hr5 := set_get (o' := o5) hr
        obtain ⟨v6, o6, e6, p6, q6, B6⟩ := great6 (W := W) (k := k) ch hr5 B5 (by omega) (by omega)
        simp only [List.set_set] at e5 e6
        clear q6
        unfold b12_6
        walk_at "mph"
        exact ⟨_, _, o6, finish_p rfl rfl (List.take_of_length_le (by simp)), B6.mono (by omega)⟩
      · unfold b12_6
        walk_at "mph"
        exact ⟨_, _, o4, finish_p rfl rfl (List.take_of_length_le (by simp)), B4.mono (by omega)⟩
    unfold b12_2
    walk_at "mph"
    unfold b12_3
    by_cases c : v2 = 0
    · subst c
      have hr2 := set_get (o' := o2) hr
      obtain ⟨v5, o5, e5, p5, q5, B5⟩ := take5 (W := W) (k := k + 1) 23 hr2 B2 (by omega) (by decide) (by decide)
      obtain ⟨ch, rfl⟩ := nat_of p5
      have hr5 := set_get (o' := o5) hr
      obtain ⟨v6, o6, e6, p6, q6, B6⟩ := great6 (W := W) (k := k) ch hr5 B5 (by omega) (by omega)
      simp only [List.set_set] at e5 e6
      clear q6
      walk_at "mph"
      exact tail _ o6 (B6.mono (by omega))
    · walk_at "mph"
      exact tail _ o2 (B2.mono (by omega))
  cases t with
  | str x _ _ => unfold isI at main ⊢; walk_at "mp"; exact main 0
  | int i _ => unfold isI at main ⊢; walk_at "mp"; exact main i
  | oth v hv =>
    have e : isI v = false := oth_cases (p := fun v => isI v = false) hv rfl (fun _ => rfl) (fun _ _ => rfl) (fun _ _ => rfl) (fun _ _ _ => rfl)
    rw [e] at main ⊢
    walk_at "mp"
    exact main 0
end

end MP.G
namespace MP.G
open PySem
local macro_rules | `(tactic| walk_at "mp") => `(tactic| try simp only [e_var, e_con, e_bt, e_glo, e_d0, e_d1, e_tup, e_lst, e_bin, e_neg, e_cmp, e_chn, e_sl, e_lc, e_and, e_or, e_not, e_ife, e_cal, e_bi, e_bm, e_ix, es_nl, es_cs, o_nl, o_cs, t_nl, t_and, t_or, t_not, t_cmp, t_chn, t_tst, i_seq, i_rng, r_nop, r_seq, r_asg, r_asgc, r_par, r_setix, r_ret, r_exp, r_ite, r_whl, r_for, r_scope, st_nm, st_tup, st_nl, st_cs, st_2, bin_ii, bin_add, bin_sub, bin_ss, bin_tt, cmp_ii, cmp_eq, cmp_ne, cmp_lt, cmp_le, cmp_gt, cmp_ge, cmp_ss, cs_eq, cs_ne, cs_lt, cs_gt, cs_in, cs_nin, seq_lst, seq_rol, seq_tup, bi_abs, bi_max, bi_min, bi_int_i, bi_int_b, bi_len_l, bi_len_r, bi_len_t, bi_len_h, bi_isi, ty_non, ty_bl, ty_int, ty_str, ty_tup, ty_lst, ty_rol, ty_dct, bm_bits, bt_bits, bt_rev, bt_app, bt_join, bm_join, kit_int_int, kit_int_bool, kit_int_str, kit_int_list, kit_int_tuple, kit_int_dict, kit_bool_int, kit_bool_bool, kit_bool_str, kit_bool_list, kit_bool_tuple, kit_bool_dict, kit_str_int, kit_str_bool, kit_str_str, kit_str_list, kit_str_tuple, kit_str_dict, kit_none_int, kit_none_bool, kit_none_str, kit_none_list, kit_none_tuple, kit_none_dict, kit_list_int, kit_list_bool, kit_list_str, kit_list_list, kit_list_tuple, kit_list_dict, kit_tuple_int, kit_tuple_bool, kit_tuple_str, kit_tuple_list, kit_tuple_tuple, kit_tuple_dict, kit_dict_int, kit_dict_bool, kit_dict_str, kit_dict_list, kit_dict_tuple, kit_dict_dict, seqI_l, seqI_r, seqI_t, seqI_s, varR_ok, andR_t, andR_f, orR_t, orR_f, notR_b, negR_i, partR_i, tru_b, tru_i, tru_n, ixR_l, ixR_r, ixR_t, ixR_h, at0, at1, at2, at3, at4, at5, at6, at7, at8, at9, at10, at11, at12, at13, bind_ok, bind_exc, bind_bad, noX_ok, noX_bad, opt_some, opt_none, out_ok, out_exc, out_bad, oopt_some, oopt_none, thn_nx, thn_rt, thn_bk, thn_ct, thn_exc, thn_bad, turn_nx, turn_ct, turn_bk, turn_rt, turn_exc, turn_bad, trim_nx, trim_bk, trim_ct, trim_rt, trim_exc, trim_bad, end_nx, end_rt, objL_s, seq_refO, setix_ref, setL_0, setL_1, setL_2, bm_rev, Option.map_some, List.reverse_cons, List.reverse_nil, fl_nil, fl_cons, tupR_v, lstR_v, lstR_h, rl_nil, rl_cons, rv_int, rv_bl, rv_non, rv_str, rv_tup, rv_lst, Bool.and_self, Bool.and_true, Bool.true_and, List.length_cons, List.length_nil, Nat.zero_add, Nat.reduceAdd, Nat.reduceLeDiff, p10_6, p10_9, p10_10, p10_12, p10_18, p10_27, p10_30, List.getElem?_cons_zero, List.getElem?_cons_succ, List.set_cons_zero, List.set_cons_succ, List.map_cons, List.map_nil, List.cons_append, List.nil_append, List.append_nil, List.replicate, Nat.sub_self, Nat.reduceSub, Option.bind_some, decide_true, decide_false, Bool.not_true, Bool.not_false, if_true, if_false, Bool.false_eq_true, ↓reduceIte, reduceCtorEq])
local macro_rules | `(tactic| walk_at "mph") => `(tactic| try simp only [*, bin_mod, bin_mul, ne_eq, Int.reduceEq, not_false_eq_true, e_var, e_con, e_bt, e_glo, e_d0, e_d1, e_tup, e_lst, e_bin, e_neg, e_cmp, e_chn, e_sl, e_lc, e_and, e_or, e_not, e_ife, e_cal, e_bi, e_bm, e_ix, es_nl, es_cs, o_nl, o_cs, t_nl, t_and, t_or, t_not, t_cmp, t_chn, t_tst, i_seq, i_rng, r_nop, r_seq, r_asg, r_asgc, r_par, r_setix, r_ret, r_exp, r_ite, r_whl, r_for, r_scope, st_nm, st_tup, st_nl, st_cs, st_2, bin_ii, bin_add, bin_sub, bin_ss, bin_tt, cmp_ii, cmp_eq, cmp_ne, cmp_lt, cmp_le, cmp_gt, cmp_ge, cmp_ss, cs_eq, cs_ne, cs_lt, cs_gt, cs_in, cs_nin, seq_lst, seq_rol, seq_tup, bi_abs, bi_max, bi_min, bi_int_i, bi_int_b, bi_len_l, bi_len_r, bi_len_t, bi_len_h, bi_isi, ty_non, ty_bl, ty_int, ty_str, ty_tup, ty_lst, ty_rol, ty_dct, bm_bits, bt_bits, bt_rev, bt_app, bt_join, bm_join, kit_int_int, kit_int_bool, kit_int_str, kit_int_list, kit_int_tuple, kit_int_dict, kit_bool_int, kit_bool_bool, kit_bool_str, kit_bool_list, kit_bool_tuple, kit_bool_dict, kit_str_int, kit_str_bool, kit_str_str, kit_str_list, kit_str_tuple, kit_str_dict, kit_none_int, kit_none_bool, kit_none_str, kit_none_list, kit_none_tuple, kit_none_dict, kit_list_int, kit_list_bool, kit_list_str, kit_list_list, kit_list_tuple, kit_list_dict, kit_tuple_int, kit_tuple_bool, kit_tuple_str, kit_tuple_list, kit_tuple_tuple, kit_tuple_dict, kit_dict_int, kit_dict_bool, kit_dict_str, kit_dict_list, kit_dict_tuple, kit_dict_dict, seqI_l, seqI_r, seqI_t, seqI_s, varR_ok, andR_t, andR_f, orR_t, orR_f, notR_b, negR_i, partR_i, tru_b, tru_i, tru_n, ixR_l, ixR_r, ixR_t, ixR_h, at0, at1, at2, at3, at4, at5, at6, at7, at8, at9, at10, at11, at12, at13, bind_ok, bind_exc, bind_bad, noX_ok, noX_bad, opt_some, opt_none, out_ok, out_exc, out_bad, oopt_some, oopt_none, thn_nx, thn_rt, thn_bk, thn_ct, thn_exc, thn_bad, turn_nx, turn_ct, turn_bk, turn_rt, turn_exc, turn_bad, trim_nx, trim_bk, trim_ct, trim_rt, trim_exc, trim_bad, end_nx, end_rt, objL_s, seq_refO, setix_ref, setL_0, setL_1, setL_2, bm_rev, Option.map_some, List.reverse_cons, List.reverse_nil, fl_nil, fl_cons, tupR_v, lstR_v, lstR_h, rl_nil, rl_cons, rv_int, rv_bl, rv_non, rv_str, rv_tup, rv_lst, Bool.and_self, Bool.and_true, Bool.true_and, List.length_cons, List.length_nil, Nat.zero_add, Nat.reduceAdd, Nat.reduceLeDiff, p10_6, p10_9, p10_10, p10_12, p10_18, p10_27, p10_30, List.getElem?_cons_zero, List.getElem?_cons_succ, List.set_cons_zero, List.set_cons_succ, List.map_cons, List.map_nil, List.cons_append, List.nil_append, List.append_nil, List.replicate, Nat.sub_self, Nat.reduceSub, Option.bind_some, decide_true, decide_false, Bool.not_true, Bool.not_false, if_true, if_false, Bool.false_eq_true, ↓reduceIte, reduceCtorEq])
section
variable {W k : Nat}
theorem rng2 (h : Heap) : rngItems [.int 2] h = .ok [.int 0, .int 1] h := by
  rw [rng_i (by decide) (by decide)]
  rfl
theorem turns_ok {h : Heap} {v : Val} {a b : Int} {p0 p1 p2 p8 : Option Val} (t : Thing v) :
    ∃ q, run ⟨callF P W gv (k + 3), W, gv⟩ b13w1_6 [p0, p1, p2, some v, some (.bl (isI v)), some (.int a), some (.int b), some (.bl (inB v a b)), p8] h = .nx [p0, p1, p2, some v, some (.bl (isI v)), some (.int a), some (.int b), some (.bl (inB v a b)), q] h := by
  have e1 := whole_ok (W := W) (k := k + 2) (h := h) t
  have e2 := within_ok (W := W) (k := k + 1) (h := h) (a := a) (b := b) t
  have e3 := name_ok (W := W) (k := k + 2) (h := h) t
  have e4 := due_ok (W := W) (k := k + 2) (h := h) t
  have e5 := fun a => truth_ok (W := W) (k := k + 2) (h := h) (a := a)
  have r2 := rng2
  unfold b13w1_6 b13w2_0 b13w2_1
  walk_at "mph"
  exact ⟨_, rfl⟩
theorem whole_e {v : Val} (c : Cf) (t : Thing v) {p0 p1 p2 p4 p5 p6 p7 p8 : Option Val} (h : Heap) : evalE c (.and (.bi .isi (.cs (.var 3) (.cs (.bt "int") .nl))) (.and (.cmp .IsNot (.var 3) (.con (.bl true))) (.cmp .IsNot (.var 3) (.con (.bl false))))) [p0, p1, p2, some v, p4, p5, p6, p7, p8] h = .ok (.bl (isI v)) h := by
  cases t with
  | str x _ _ => walk_at "mp"; rfl
  | int i _ => walk_at "mp"; rfl
  | oth v hv =>
    refine oth_cases (p := fun v => evalE c _ [p0, p1, p2, some v, p4, p5, p6, p7, p8] h = .ok (.bl (isI v)) h) hv ?_ ?_ ?_ ?_ ?_
    · walk_at "mp"; rfl
    · intro b; cases b <;> (walk_at "mp"; rfl)
    · intro b _; walk_at "mp"; rfl
    · intro b _; walk_at "mp"; rfl
    · intro b c _; walk_at "mp"; rfl
theorem within_e {v : Val} {a b : Int} (c : Cf) (t : Thing v) {p0 p1 p2 p7 p8 : Option Val} (h : Heap) : (run c b13w1_4 [p0, p1, p2, some v, some (.bl (isI v)), some (.int a), some (.int b), p7, p8] h) = (run c b13w1_6 [p0, p1, p2, some v, some (.bl (isI v)), some (.int a), some (.int b), some (.bl (inB v a b)), p8] h) := by
  unfold b13w1_4 b13w1_5
  cases t with
  | str x _ _ => unfold isI inB; walk_at "mp"
  | int i _ =>
    unfold isI inB
    walk_at "mp"
    by_cases c1 : a ≤ i
    · simp only [c1, decide_true]
      walk_at "mp"
    · simp only [c1, decide_false]
      walk_at "mp"
      rfl
  | oth v hv =>
    have e : isI v = false ∧ inB v a b = false := oth_cases (p := fun v => isI v = false ∧ inB v a b = false) hv ⟨rfl, rfl⟩ (fun _ => ⟨rfl, rfl⟩) (fun _ _ => ⟨rfl, rfl⟩) (fun _ _ => ⟨rfl, rfl⟩) (fun _ _ _ => ⟨rfl, rfl⟩)
    rw [e.1, e.2]
    walk_at "mp"
theorem turn_ok {ns : List Int} {j : Nat} {p2 p3 p4 p5 p6 p7 p8 : Option Val} (hj : j < 1000) :
    ∃ q1 q2 q3 q4 q5 q6 q7 q8, run ⟨callF P W gv (k + 3), W, gv⟩ (.scope b13w1_0) [some (.rol (ns.map .int)), some (.int j), p2, p3, p4, p5, p6, p7, p8] [] = .nx [some (.rol (ns.map .int)), q1, q2, q3, q4, q5, q6, q7, q8] [] := by
  obtain ⟨c, ec⟩ := cell_ok (P := P) (gv := gv) (i := 3) (W := W) (k := k + 2) (ns := ns) (j := j) (h := []) rfl hj
  obtain ⟨o, eb, B0⟩ := box_ok (P := P) (gv := gv) (i := 4) (W := W) (k := k + 2) (v := c) (h := []) rfl
  have hr : ([] ++ [o] : Heap)[0]? = some o := rfl
  obtain ⟨v, o1, e1, t, B1⟩ := thing_ok (W := W) (k := k) hr B0 (by omega)
  have hr1 := set_get (o' := o1) hr
  obtain ⟨a, b, o2, e2, B2⟩ := bounds_ok (W := W) (k := k) t hr1 B1 (by omega)
  obtain ⟨q, eq⟩ := turns_ok (W := W) (k := k) (h := [o2]) (a := a) (b := b) (p0 := some (.rol (ns.map .int))) (p1 := some (.int j)) (p2 := some (.ref 0)) (p8 := p8) t
  have main : run ⟨callF P W gv (k + 3), W, gv⟩ b13w1_0 [some (.rol (ns.map .int)), some (.int j), p2, p3, p4, p5, p6, p7, p8] [] = .nx [some (.rol (ns.map .int)), some (.int j), some (.ref 0), some v, some (.bl (isI v)), some (.int a), some (.int b), some (.bl (inB v a b)), q] [o2] := by
    unfold b13w1_0
    walk_at "mp"
    rw [ec]
    walk_at "mp"
    rw [eb]
    unfold b13w1_1
    walk_at "mp"
    rw [show ([o] : Heap) = [] ++ [o] from rfl, e1]
    walk_at "mp"
    unfold b13w1_2
    rw [r_seq, r_asg, whole_e _ t]
    walk_at "mp"
    unfold b13w1_3
    walk_at "mp"
    rw [show ([o1] : Heap) = ([] ++ [o] : Heap).set 0 o1 from rfl, e2]
    walk_at "mp"
    rw [within_e _ t, eq]
  rw [r_scope, main, trim_nx]
  simp only [trimL_cons, trimL_nil]
  rw [trim1_s (v := .rol (ns.map .int)) (refsLtL_ints _ ns)]
  exact ⟨_, _, _, _, _, _, _, _, rfl⟩
theorem law_loop {ns : List Int} : ∀ (n lo : Nat) (p1 p2 p3 p4 p5 p6 p7 p8 : Option Val), lo + n ≤ 1000 →
    ∃ q1 q2 q3 q4 q5 q6 q7 q8, forL (.nm 1) (run ⟨callF P W gv (k + 3), W, gv⟩ (.scope b13w1_0)) (rangeL lo n) [some (.rol (ns.map .int)), p1, p2, p3, p4, p5, p6, p7, p8] [] = .nx [some (.rol (ns.map .int)), q1, q2, q3, q4, q5, q6, q7, q8] []
  | 0, lo, p1, p2, p3, p4, p5, p6, p7, p8, _ => ⟨_, _, _, _, _, _, _, _, rfl⟩
  | n + 1, lo, p1, p2, p3, p4, p5, p6, p7, p8, h => by
    rw [rangeL_succ, fl_cons, st_nm]
    obtain ⟨q1, q2, q3, q4, q5, q6, q7, q8, e⟩ := turn_ok (W := W) (k := k) (ns := ns) (j := lo) (p2 := p2) (p3 := p3) (p4 := p4) (p5 := p5) (p6 := p6) (p7 := p7) (p8 := p8) (by omega)
    rw [oopt_some]
    simp only [List.set_cons_succ, List.set_cons_zero]
    rw [e, turn_nx]
    exact law_loop n (lo + 1) q1 q2 q3 q4 q5 q6 q7 q8 (by omega)
end
theorem law_holds (ns : List Int) (hl : ns.length ≤ 63) (hb : ∀ z ∈ ns, Builtin.Int.intBits z ≤ 1048576) : ∃ W h', callF P W gv lev 13 [.rol (ns.map .int)] [] = .ok (.bl true) h' := by
  refine ⟨0, [], ?_⟩
  show callF P 0 gv (7 + 1) 13 _ _ = _
  rw [callF_go (f := f13) rfl b13 8]
  unfold b13 b13_0
  walk_at "mp"
  have e : max (2 : Int) (min 30 ((ns.map Val.int).length : Int)) = ((max 2 (min 30 ns.length) : Nat) : Int) := by
    rw [List.length_map]
    omega
  rw [e, rng_i (by omega) (by omega), Int.toNat_natCast]
  walk_at "mp"
  obtain ⟨q1, q2, q3, q4, q5, q6, q7, q8, e2⟩ := law_loop (W := 0) (k := 4) (ns := ns) (max 2 (min 30 ns.length)) 0 none none none none none none none none (by omega)
  rw [show ((0 : Nat) : Int) = 0 from rfl] at e2
  rw [e2]
  unfold b13_1
  walk_at "mp"
  exact finish_b rfl

end MP.G
namespace MP.G
open PySem L2
section
variable {K : PySem.W.Frag} {h : PySem.Heap} {mg : Str → Option Value}
/-- all defs as they stand -/
structure All (K : PySem.W.Frag) (mg : Str → Option Value) : Prop where
  a0 : ∃ fa fd, DefAt K mg d0 fa fd
  a1 : ∃ fa fd, DefAt K mg d1 fa fd
  a2 : ∃ fa fd, DefAt K mg d2 fa fd
  a3 : ∃ fa fd, DefAt K mg d3 fa fd
  a4 : ∃ fa fd, DefAt K mg d4 fa fd
  a5 : ∃ fa fd, DefAt K mg d5 fa fd
  a6 : ∃ fa fd, DefAt K mg d6 fa fd
  a7 : ∃ fa fd, DefAt K mg d7 fa fd
  a8 : ∃ fa fd, DefAt K mg d8 fa fd
  a9 : ∃ fa fd, DefAt K mg d9 fa fd
  a10 : ∃ fa fd, DefAt K mg d10 fa fd
  a11 : ∃ fa fd, DefAt K mg d11 fa fd
  a12 : ∃ fa fd, DefAt K mg d12 fa fd
  a13 : ∃ fa fd, DefAt K mg d13 fa fd
  nob : ∀ x, bn.contains x = true → mg x = none
  glo : ∀ x v, gl.contains x = true → gv x = some v → GlOk ⟨K, fun _ => (0, "")⟩ mg x v
theorem All.at (A : All K mg) : ∀ (i : Nat) (d : Dn), D[i]? = some d → ∃ f fa fd, P[i]? = some f ∧ okDef (D.map (·.name)) bn gl d f = true ∧ DefAt K mg d fa fd := by
  intro i d e
  rw [fnN_eq]
  match i, e with
  | 0, e => cases (show d0 = d from Option.some.inj e); obtain ⟨fa, fd, z⟩ := A.a0; exact ⟨f0, fa, fd, rfl, ok0, z⟩
  | 1, e => cases (show d1 = d from Option.some.inj e); obtain ⟨fa, fd, z⟩ := A.a1; exact ⟨f1, fa, fd, rfl, ok1, z⟩
  | 2, e => cases (show d2 = d from Option.some.inj e); obtain ⟨fa, fd, z⟩ := A.a2; exact ⟨f2, fa, fd, rfl, ok2, z⟩
  | 3, e => cases (show d3 = d from Option.some.inj e); obtain ⟨fa, fd, z⟩ := A.a3; exact ⟨f3, fa, fd, rfl, ok3, z⟩
  | 4, e => cases (show d4 = d from Option.some.inj e); obtain ⟨fa, fd, z⟩ := A.a4; exact ⟨f4, fa, fd, rfl, ok4, z⟩
  | 5, e => cases (show d5 = d from Option.some.inj e); obtain ⟨fa, fd, z⟩ := A.a5; exact ⟨f5, fa, fd, rfl, ok5, z⟩
  | 6, e => cases (show d6 = d from Option.some.inj e); obtain ⟨fa, fd, z⟩ := A.a6; exact ⟨f6, fa, fd, rfl, ok6, z⟩
  | 7, e => cases (show d7 = d from Option.some.inj e); obtain ⟨fa, fd, z⟩ := A.a7; exact ⟨f7, fa, fd, rfl, ok7, z⟩
  | 8, e => cases (show d8 = d from Option.some.inj e); obtain ⟨fa, fd, z⟩ := A.a8; exact ⟨f8, fa, fd, rfl, ok8, z⟩
  | 9, e => cases (show d9 = d from Option.some.inj e); obtain ⟨fa, fd, z⟩ := A.a9; exact ⟨f9, fa, fd, rfl, ok9, z⟩
  | 10, e => cases (show d10 = d from Option.some.inj e); obtain ⟨fa, fd, z⟩ := A.a10; exact ⟨f10, fa, fd, rfl, ok10, z⟩
  | 11, e => cases (show d11 = d from Option.some.inj e); obtain ⟨fa, fd, z⟩ := A.a11; exact ⟨f11, fa, fd, rfl, ok11, z⟩
  | 12, e => cases (show d12 = d from Option.some.inj e); obtain ⟨fa, fd, z⟩ := A.a12; exact ⟨f12, fa, fd, rfl, ok12, z⟩
  | 13, e => cases (show d13 = d from Option.some.inj e); obtain ⟨fa, fd, z⟩ := A.a13; exact ⟨f13, fa, fd, rfl, ok13, z⟩
  | _ + 14, e => simp [D] at e
theorem mk0 {f : Addr} {oc : Value} {od an : Option Addr} {osl : Array (Option Value)} {kV doc pm cdv ct : Value} (X : K.In h) (G : h.Ns mainGlobals mg) (a : PySem.W.nsIn K mainGlobals "is_whole" = some (some (.ref f))) (l : K.lookup f = some ⟨oc, od, .func (PySem.W.fnOf "is_whole" "is_whole" (defArgs (top 2)) (defBody (top 2)) (defScope (top 2)) .none kV doc pm an cdv ct), osl⟩) (c : PySem.W.codeIn K cdv "is_whole" = true) (k : PySem.W.keepIn K (.ref f) = true) : ∃ fa fd, DefAt K mg d0 fa fd :=
  ⟨f, defAt_mk X G sc0 (fun _ _ _ _ _ _ us hl => match us, hl with | [_], _ => rfl) a l c k⟩
theorem mk1 {f : Addr} {oc : Value} {od an : Option Addr} {osl : Array (Option Value)} {kV doc pm cdv ct : Value} (X : K.In h) (G : h.Ns mainGlobals mg) (a : PySem.W.nsIn K mainGlobals "is_within" = some (some (.ref f))) (l : K.lookup f = some ⟨oc, od, .func (PySem.W.fnOf "is_within" "is_within" (defArgs (top 3)) (defBody (top 3)) (defScope (top 3)) .none kV doc pm an cdv ct), osl⟩) (c : PySem.W.codeIn K cdv "is_within" = true) (k : PySem.W.keepIn K (.ref f) = true) : ∃ fa fd, DefAt K mg d1 fa fd :=
  ⟨f, defAt_mk X G sc1 (fun _ _ _ _ _ _ us hl => match us, hl with | [_, _, _], _ => rfl) a l c k⟩
theorem mk2 {f : Addr} {oc : Value} {od an : Option Addr} {osl : Array (Option Value)} {kV doc pm cdv ct : Value} (X : K.In h) (G : h.Ns mainGlobals mg) (a : PySem.W.nsIn K mainGlobals "is_name" = some (some (.ref f))) (l : K.lookup f = some ⟨oc, od, .func (PySem.W.fnOf "is_name" "is_name" (defArgs (top 4)) (defBody (top 4)) (defScope (top 4)) .none kV doc pm an cdv ct), osl⟩) (c : PySem.W.codeIn K cdv "is_name" = true) (k : PySem.W.keepIn K (.ref f) = true) : ∃ fa fd, DefAt K mg d2 fa fd :=
  ⟨f, defAt_mk X G sc2 (fun _ _ _ _ _ _ us hl => match us, hl with | [_], _ => rfl) a l c k⟩
theorem mk3 {f : Addr} {oc : Value} {od an : Option Addr} {osl : Array (Option Value)} {kV doc pm cdv ct : Value} (X : K.In h) (G : h.Ns mainGlobals mg) (a : PySem.W.nsIn K mainGlobals "_law_cell" = some (some (.ref f))) (l : K.lookup f = some ⟨oc, od, .func (PySem.W.fnOf "_law_cell" "_law_cell" (defArgs (top 6)) (defBody (top 6)) (defScope (top 6)) .none kV doc pm an cdv ct), osl⟩) (c : PySem.W.codeIn K cdv "_law_cell" = true) (k : PySem.W.keepIn K (.ref f) = true) : ∃ fa fd, DefAt K mg d3 fa fd :=
  ⟨f, defAt_mk X G sc3 (fun _ _ _ _ _ _ us hl => match us, hl with | [_, _], _ => rfl) a l c k⟩
theorem mk4 {f : Addr} {oc : Value} {od an : Option Addr} {osl : Array (Option Value)} {kV doc pm cdv ct : Value} (X : K.In h) (G : h.Ns mainGlobals mg) (a : PySem.W.nsIn K mainGlobals "_law_box" = some (some (.ref f))) (l : K.lookup f = some ⟨oc, od, .func (PySem.W.fnOf "_law_box" "_law_box" (defArgs (top 7)) (defBody (top 7)) (defScope (top 7)) .none kV doc pm an cdv ct), osl⟩) (c : PySem.W.codeIn K cdv "_law_box" = true) (k : PySem.W.keepIn K (.ref f) = true) : ∃ fa fd, DefAt K mg d4 fa fd :=
  ⟨f, defAt_mk X G sc4 (fun _ _ _ _ _ _ us hl => match us, hl with | [_], _ => rfl) a l c k⟩
theorem mk5 {f : Addr} {oc : Value} {od an : Option Addr} {osl : Array (Option Value)} {kV doc pm cdv ct : Value} (X : K.In h) (G : h.Ns mainGlobals mg) (a : PySem.W.nsIn K mainGlobals "_law_take" = some (some (.ref f))) (l : K.lookup f = some ⟨oc, od, .func (PySem.W.fnOf "_law_take" "_law_take" (defArgs (top 8)) (defBody (top 8)) (defScope (top 8)) .none kV doc pm an cdv ct), osl⟩) (c : PySem.W.codeIn K cdv "_law_take" = true) (k : PySem.W.keepIn K (.ref f) = true) : ∃ fa fd, DefAt K mg d5 fa fd :=
  ⟨f, defAt_mk X G sc5 (fun _ _ _ _ _ _ us hl => match us, hl with | [_, _], _ => rfl) a l c k⟩
theorem mk6 {f : Addr} {oc : Value} {od an : Option Addr} {osl : Array (Option Value)} {kV doc pm cdv ct : Value} (X : K.In h) (G : h.Ns mainGlobals mg) (a : PySem.W.nsIn K mainGlobals "_law_great" = some (some (.ref f))) (l : K.lookup f = some ⟨oc, od, .func (PySem.W.fnOf "_law_great" "_law_great" (defArgs (top 9)) (defBody (top 9)) (defScope (top 9)) .none kV doc pm an cdv ct), osl⟩) (c : PySem.W.codeIn K cdv "_law_great" = true) (k : PySem.W.keepIn K (.ref f) = true) : ∃ fa fd, DefAt K mg d6 fa fd :=
  ⟨f, defAt_mk X G sc6 (fun _ _ _ _ _ _ us hl => match us, hl with | [_, _], _ => rfl) a l c k⟩
theorem mk7 {f : Addr} {oc : Value} {od an : Option Addr} {osl : Array (Option Value)} {kV doc pm cdv ct : Value} (X : K.In h) (G : h.Ns mainGlobals mg) (a : PySem.W.nsIn K mainGlobals "_law_page" = some (some (.ref f))) (l : K.lookup f = some ⟨oc, od, .func (PySem.W.fnOf "_law_page" "_law_page" (defArgs (top 10)) (defBody (top 10)) (defScope (top 10)) .none kV doc pm an cdv ct), osl⟩) (c : PySem.W.codeIn K cdv "_law_page" = true) (k : PySem.W.keepIn K (.ref f) = true) : ∃ fa fd, DefAt K mg d7 fa fd :=
  ⟨f, defAt_mk X G sc7 (fun _ _ _ _ _ _ us hl => match us, hl with | [], _ => rfl) a l c k⟩
theorem mk8 {f : Addr} {oc : Value} {od an : Option Addr} {osl : Array (Option Value)} {kV doc pm cdv ct : Value} (X : K.In h) (G : h.Ns mainGlobals mg) (a : PySem.W.nsIn K mainGlobals "_law_text" = some (some (.ref f))) (l : K.lookup f = some ⟨oc, od, .func (PySem.W.fnOf "_law_text" "_law_text" (defArgs (top 11)) (defBody (top 11)) (defScope (top 11)) .none kV doc pm an cdv ct), osl⟩) (c : PySem.W.codeIn K cdv "_law_text" = true) (k : PySem.W.keepIn K (.ref f) = true) : ∃ fa fd, DefAt K mg d8 fa fd :=
  ⟨f, defAt_mk X G sc8 (fun _ _ _ _ _ _ us hl => match us, hl with | [_], _ => rfl) a l c k⟩
theorem mk9 {f : Addr} {oc : Value} {od an : Option Addr} {osl : Array (Option Value)} {kV doc pm cdv ct : Value} (X : K.In h) (G : h.Ns mainGlobals mg) (a : PySem.W.nsIn K mainGlobals "_law_thing" = some (some (.ref f))) (l : K.lookup f = some ⟨oc, od, .func (PySem.W.fnOf "_law_thing" "_law_thing" (defArgs (top 12)) (defBody (top 12)) (defScope (top 12)) .none kV doc pm an cdv ct), osl⟩) (c : PySem.W.codeIn K cdv "_law_thing" = true) (k : PySem.W.keepIn K (.ref f) = true) : ∃ fa fd, DefAt K mg d9 fa fd :=
  ⟨f, defAt_mk X G sc9 (fun _ _ _ _ _ _ us hl => match us, hl with | [_], _ => rfl) a l c k⟩
theorem mk10 {f : Addr} {oc : Value} {od an : Option Addr} {osl : Array (Option Value)} {kV doc pm cdv ct : Value} (X : K.In h) (G : h.Ns mainGlobals mg) (a : PySem.W.nsIn K mainGlobals "_law_truth" = some (some (.ref f))) (l : K.lookup f = some ⟨oc, od, .func (PySem.W.fnOf "_law_truth" "_law_truth" (defArgs (top 13)) (defBody (top 13)) (defScope (top 13)) .none kV doc pm an cdv ct), osl⟩) (c : PySem.W.codeIn K cdv "_law_truth" = true) (k : PySem.W.keepIn K (.ref f) = true) : ∃ fa fd, DefAt K mg d10 fa fd :=
  ⟨f, defAt_mk X G sc10 (fun _ _ _ _ _ _ us hl => match us, hl with | [_, _], _ => rfl) a l c k⟩
theorem mk11 {f : Addr} {oc : Value} {od an : Option Addr} {osl : Array (Option Value)} {kV doc pm cdv ct : Value} (X : K.In h) (G : h.Ns mainGlobals mg) (a : PySem.W.nsIn K mainGlobals "_law_name_due" = some (some (.ref f))) (l : K.lookup f = some ⟨oc, od, .func (PySem.W.fnOf "_law_name_due" "_law_name_due" (defArgs (top 14)) (defBody (top 14)) (defScope (top 14)) .none kV doc pm an cdv ct), osl⟩) (c : PySem.W.codeIn K cdv "_law_name_due" = true) (k : PySem.W.keepIn K (.ref f) = true) : ∃ fa fd, DefAt K mg d11 fa fd :=
  ⟨f, defAt_mk X G sc11 (fun _ _ _ _ _ _ us hl => match us, hl with | [_], _ => rfl) a l c k⟩
theorem mk12 {f : Addr} {oc : Value} {od an : Option Addr} {osl : Array (Option Value)} {kV doc pm cdv ct : Value} (X : K.In h) (G : h.Ns mainGlobals mg) (a : PySem.W.nsIn K mainGlobals "_law_bounds" = some (some (.ref f))) (l : K.lookup f = some ⟨oc, od, .func (PySem.W.fnOf "_law_bounds" "_law_bounds" (defArgs (top 15)) (defBody (top 15)) (defScope (top 15)) .none kV doc pm an cdv ct), osl⟩) (c : PySem.W.codeIn K cdv "_law_bounds" = true) (k : PySem.W.keepIn K (.ref f) = true) : ∃ fa fd, DefAt K mg d12 fa fd :=
  ⟨f, defAt_mk X G sc12 (fun _ _ _ _ _ _ us hl => match us, hl with | [_, _, _], _ => rfl) a l c k⟩
theorem mk13 {f : Addr} {oc : Value} {od an : Option Addr} {osl : Array (Option Value)} {kV doc pm cdv ct : Value} (X : K.In h) (G : h.Ns mainGlobals mg) (a : PySem.W.nsIn K mainGlobals "law" = some (some (.ref f))) (l : K.lookup f = some ⟨oc, od, .func (PySem.W.fnOf "law" "law" (defArgs (top 16)) (defBody (top 16)) (defScope (top 16)) .none kV doc pm an cdv ct), osl⟩) (c : PySem.W.codeIn K cdv "law" = true) (k : PySem.W.keepIn K (.ref f) = true) : ∃ fa fd, DefAt K mg d13 fa fd :=
  ⟨f, defAt_mk X G sc13 (fun _ _ _ _ _ _ us hl => match us, hl with | [_], _ => rfl) a l c k⟩
theorem bnone (z0 : PySem.W.nsIn K mainGlobals "bool" = some none) (z1 : PySem.W.nsIn K mainGlobals "int" = some none) (z2 : PySem.W.nsIn K mainGlobals "isinstance" = some none) (z3 : PySem.W.nsIn K mainGlobals "len" = some none) (z4 : PySem.W.nsIn K mainGlobals "max" = some none) (z5 : PySem.W.nsIn K mainGlobals "min" = some none) (z6 : PySem.W.nsIn K mainGlobals "range" = some none) (z7 : PySem.W.nsIn K mainGlobals "str" = some none) (X : K.In h) (G : h.Ns mainGlobals mg) : ∀ x, bn.contains x = true → mg x = none := by
  intro x hx
  simp only [bn, List.contains_cons, List.contains_nil, Bool.or_eq_true, beq_iff_eq, Bool.or_false] at hx
  rcases hx with rfl | rfl | rfl | rfl | rfl | rfl | rfl | rfl
  · exact PySem.W.mg_none_of X G z0
  · exact PySem.W.mg_none_of X G z1
  · exact PySem.W.mg_none_of X G z2
  · exact PySem.W.mg_none_of X G z3
  · exact PySem.W.mg_none_of X G z4
  · exact PySem.W.mg_none_of X G z5
  · exact PySem.W.mg_none_of X G z6
  · exact PySem.W.mg_none_of X G z7
theorem globs {t0 : Tok} (y0 : PySem.W.nsIn K mainGlobals "LETTERS" = some (some (.str "abcdefghijklmnopqrstuvwxyz" t0))) (X : K.In h) (G : h.Ns mainGlobals mg) : ∀ x v, gl.contains x = true → gv x = some v → GlOk ⟨K, fun _ => (0, "")⟩ mg x v := by
  intro x v hx hv
  simp only [gl, List.contains_cons, List.contains_nil, Bool.or_eq_true, beq_iff_eq, Bool.or_false] at hx
  subst hx
  · cases (gv_0.symm.trans hv)
    exact ⟨(.str "abcdefghijklmnopqrstuvwxyz"), _, PySem.W.mg_of X G y0, ⟨_, rfl⟩, fun _ _ _ _ => rfl⟩
end
theorem walk {l : PySem.W.OpenLaw} {q : Program} {loose : List Str} {XP : (Str → Option Value) → PySem.Heap → Prop} {YP : World → PySem.Heap → Prop} {d : DefRec} {K : Params → PySem.W.Frag} (hn : l.most = some 63) (hdf : d.params.defaults = []) (hdn : d.name = "law")
    (hY : ∀ (w : World) (h : PySem.Heap), YP w h → (K w.params).In h)
    (F : ∀ (w : World) (mg : Str → Option Value) (h : PySem.Heap), (K w.params).In h → h.Ns mainGlobals mg → All (K w.params) mg) :
    PySem.W.WalkO q loose XP YP l.row.toRowW d [] (fun f vs => PySem.call f vs) := by
  refine L2.walk_ofB (n := 63) (k := lev) (x := "_law_script") (K := K) (CX := fun w => L2.CX l.prog w) (sp := fun w => spW ⟨K w.params, fun _ => (0, "")⟩ P gv lev 13 1) hn (by decide) hdf ⟨rfl, by decide, by decide⟩ hY ?_ ?_ fun _ _ _ _ _ z => cx_no z
  · intro w mg fa h KX G hmg
    have A := F w mg h KX G
    obtain ⟨fa2, fd, z⟩ := A.a13
    have e : fa2 = fa := by
      have e1 := z.mg
      rw [hdn] at hmg
      have e2 := e1.symm.trans hmg
      cases e2
      rfl
    subst e
    refine ⟨fd, fun s u => ?_, fun base KB GB => fnW rfl fun W => defs_ok (C := ⟨K w.params, fun _ => (0, "")⟩) (F w mg base KB GB).at A.nob A.glo lev 13 d13 f13 fa2 fd rfl rfl (by rw [fnN_eq]; exact ok13) z⟩
    obtain ⟨oc, od, kV, doc, pm, an, cdv, ct, osl, rfl, lk, hcd⟩ := z.fn.ex
    exact .of_eq rfl
  · intro w H a ns hl hb hO hS
    obtain ⟨W, h', e⟩ := law_holds ns hl hb
    exact ⟨W, law_sp hS ⟨h', e⟩⟩
end MP.G
open PySem PySem.W PyProof.Rows in
set_option maxRecDepth 100000 in
set_option maxHeartbeats 0 in
theorem PySem.Challenge.cw_heldshapes_k01_words_of_anything_holds : PySem.Challenge.rw_heldshapes_k01_words_of_anything.Holds := by
  w_on; o_law; k_head; (case hw => w_witness2)
  k_fill
  refine MP.G.walk (l := PySem.Challenge.rw_heldshapes_k01_words_of_anything) rfl rfl rfl (fun w h Y => PySem.W.kIn_of Y) ?F
  case F =>
    intro w mg h KX G0
    refine ⟨?dg0, ?dg1, ?dg2, ?dg3, ?dg4, ?dg5, ?dg6, ?dg7, ?dg8, ?dg9, ?dg10, ?dg11, ?dg12, ?dg13, ?dbn, ?dgl⟩
    (case dg0 => refine' MP.G.mk0 KX G0 ?a ?l ?c ?k; (case a => k_is); (case l => k_is); (case c => k_is); (case k => k_is))
    (case dg1 => refine' MP.G.mk1 KX G0 ?a ?l ?c ?k; (case a => k_is); (case l => k_is); (case c => k_is); (case k => k_is))
    (case dg2 => refine' MP.G.mk2 KX G0 ?a ?l ?c ?k; (case a => k_is); (case l => k_is); (case c => k_is); (case k => k_is))
    (case dg3 => refine' MP.G.mk3 KX G0 ?a ?l ?c ?k; (case a => k_is); (case l => k_is); (case c => k_is); (case k => k_is))
    (case dg4 => refine' MP.G.mk4 KX G0 ?a ?l ?c ?k; (case a => k_is); (case l => k_is); (case c => k_is); (case k => k_is))
    (case dg5 => refine' MP.G.mk5 KX G0 ?a ?l ?c ?k; (case a => k_is); (case l => k_is); (case c => k_is); (case k => k_is))
    (case dg6 => refine' MP.G.mk6 KX G0 ?a ?l ?c ?k; (case a => k_is); (case l => k_is); (case c => k_is); (case k => k_is))
    (case dg7 => refine' MP.G.mk7 KX G0 ?a ?l ?c ?k; (case a => k_is); (case l => k_is); (case c => k_is); (case k => k_is))
    (case dg8 => refine' MP.G.mk8 KX G0 ?a ?l ?c ?k; (case a => k_is); (case l => k_is); (case c => k_is); (case k => k_is))
    (case dg9 => refine' MP.G.mk9 KX G0 ?a ?l ?c ?k; (case a => k_is); (case l => k_is); (case c => k_is); (case k => k_is))
    (case dg10 => refine' MP.G.mk10 KX G0 ?a ?l ?c ?k; (case a => k_is); (case l => k_is); (case c => k_is); (case k => k_is))
    (case dg11 => refine' MP.G.mk11 KX G0 ?a ?l ?c ?k; (case a => k_is); (case l => k_is); (case c => k_is); (case k => k_is))
    (case dg12 => refine' MP.G.mk12 KX G0 ?a ?l ?c ?k; (case a => k_is); (case l => k_is); (case c => k_is); (case k => k_is))
    (case dg13 => refine' MP.G.mk13 KX G0 ?a ?l ?c ?k; (case a => k_is); (case l => k_is); (case c => k_is); (case k => k_is))
    (case dbn => refine' MP.G.bnone ?z0 ?z1 ?z2 ?z3 ?z4 ?z5 ?z6 ?z7 KX G0; (case z0 => k_is); (case z1 => k_is); (case z2 => k_is); (case z3 => k_is); (case z4 => k_is); (case z5 => k_is); (case z6 => k_is); (case z7 => k_is))
    (case dgl => refine' MP.G.globs ?y0 KX G0; (case y0 => k_is))
