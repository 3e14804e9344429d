import PyProof.Rows.All
import Wide.All
import OpenK.AllK
import Wide.FinOn
import HandS.ForMost
import HandS.ForExc
import HandS.Wide
import HandS.WideBits
import HandS.IsInst
import HandS.CallSlots
import HandS.EndBits
import PySem.Challenge.RW_heldshapes_k02_whole_roots_and_common
set_option Elab.async false
set_option linter.all false
set_option maxRecDepth 100000
set_option maxHeartbeats 4000000
/-! MP: a small deterministic language that the given program's defs are read as; its run is a plain total function. -/
namespace MP
open PySem

/-- values; lists (lst) are values that nobody changes any more, ref n is the n-th object of the small heap -/
inductive Val where
  | non | bl (b : Bool) | int (i : Int) | str (s : Str)
  | tup (xs : List Val) | lst (xs : List Val) | ref (n : Nat) | ty (s : String)

/-- what may be changed: a list -/
inductive Obj where
  | lst (xs : List Val)

abbrev Heap := List Obj
abbrev Loc := List (Option Val)

theorem rr {A : Sort _} {a b : A} (h : a = b) : a = b := h
/-- a result: a value and the heap; an error of the class c with its field; or no word -/
inductive Res (T : Type) where
  | ok (a : T) (h : Heap)
  | exc (c : Nat) (v : Val) (h : Heap)
  | bad

def Res.bind {S T : Type} (r : Res S) (k : S → Heap → Res T) : Res T :=
  match r with
  | .ok a h => k a h
  | .exc c v h => .exc c v h
  | .bad => .bad
@[simp] theorem bind_ok {S T : Type} (a : S) (h : Heap) (k : S → Heap → Res T) : (Res.ok a h).bind k = k a h := rr rfl
@[simp] theorem bind_exc {S T : Type} (c : Nat) (v : Val) (h : Heap) (k : S → Heap → Res T) : (Res.exc c v h : Res S).bind k = .exc c v h := rr rfl
@[simp] theorem bind_bad {S T : Type} (k : S → Heap → Res T) : (Res.bad : Res S).bind k = .bad := rr rfl
def Res.opt {S T : Type} (o : Option S) (k : S → Res T) : Res T :=
  match o with
  | some a => k a
  | none => .bad
@[simp] theorem opt_some {S T : Type} (a : S) (k : S → Res T) : Res.opt (some a) k = k a := rr rfl
@[simp] theorem opt_none {S T : Type} (k : S → Res T) : Res.opt (none : Option S) k = .bad := rr rfl

mutual
/-- no object of the heap from b on is met -/
def refsLt (b : Nat) : Val → Bool
  | .ref n => decide (n < b)
  | .tup xs => refsLtL b xs
  | .lst xs => refsLtL b xs
  | _ => true
def refsLtL (b : Nat) : List Val → Bool
  | [] => true
  | x :: xs => refsLt b x && refsLtL b xs
end
/-- no object of the heap is met at all -/
abbrev pure0 (v : Val) : Bool := refsLt 0 v
abbrev pureL (vs : List Val) : Bool := refsLtL 0 vs

/-- the built-in functions -/
inductive Bi where
  | abs | max2 | min2 | len | int | isi

/-- the methods of built-in types -/
inductive Bm where
  | bits | reverse

inductive E where
  | var (i : Nat)
  | con (v : Val)
  | bt (n : String)
  | nl | cs (a r : E)
  | tup (es : E)
  | lst (k : Bool) (es : E)
  | bin (op : Operator) (a b : E)
  | neg (a : E)
  | cmp (op : CmpOp) (a b : E)
  | and (a b : E) | or (a b : E) | not (a : E)
  | tst (e : E)
  | ife (c a b : E)
  | cal (f : Nat) (es : E)
  | bi (f : Bi) (es : E)
  | bm (m : Bm) (o es : E)
  | ix (a b : E)
  | iSeq (e : E)
  | iRng (es : E)

inductive T where
  | nm (i : Nat)
  | nl | cs (t r : T)
  | tup (ts : T)

inductive S where
  | nop
  | seq (s r : S)
  | asg (t : T) (e : E)
  | par (i j : Nat) (es : E)
  | setix (o i e : E)
  | ret (e : E)
  | exp (e : E)
  | ite (c : E) (a b : S)
  | whl (c : E) (b : S)
  | for_ (t : T) (it : E) (b : S)
  | scope (b : S)

abbrev bits (i : Int) : Nat := Builtin.Int.intBits i

/-- the list that a value reads as -/
def asL (h : Heap) : Val → Option (List Val)
  | .lst xs => some xs
  | .ref n => match h[n]? with
    | some (.lst xs) => some xs
    | none => none
  | _ => none
def asSeq (h : Heap) : Val → Option (List Val)
  | .tup xs => some xs
  | v => asL h v

def binI : Operator → Int → Int → Option Val
  | .Add, i, j => some (.int (i + j))
  | .Sub, i, j => some (.int (i - j))
  | .Mult, i, j => if bits i + bits j ≤ 134217728 then some (.int (i * j)) else none
  | .FloorDiv, i, j => if j ≠ 0 ∧ Builtin.divisionGoesByPylong i j = false then some (.int (i.fdiv j)) else none
  | .Mod, i, j => if j ≠ 0 then some (.int (i.fmod j)) else none
  | .Pow, i, j => if 0 ≤ j ∧ (bits i : Int) * j ≤ 2 ^ 27 then some (.int (i ^ j.toNat)) else none
  | .LShift, i, j => if 0 ≤ j ∧ (bits i : Int) + j ≤ 2 ^ 27 then some (.int (i * 2 ^ j.toNat)) else none
  | _, _, _ => none
def binop (op : Operator) (a b : Val) : Option Val :=
  match a, b with
  | .int i, .int j => binI op i j
  | _, _ => none

def cmpI : CmpOp → Int → Int → Option Bool
  | .Eq, i, j => some (decide (i = j))
  | .NotEq, i, j => some (!decide (i = j))
  | .Lt, i, j => some (decide (i < j))
  | .LtE, i, j => some (decide (i ≤ j))
  | .Gt, i, j => some (decide (j < i))
  | .GtE, i, j => some (decide (j ≤ i))
  | _, _, _ => none
def cmpop (op : CmpOp) (a b : Val) : Option Bool :=
  match a, b with
  | .int i, .int j => cmpI op i j
  | _, _ => none

/-- the name of a value's type -/
def tyName (h : Heap) : Val → Option String
  | .non => some "NoneType"
  | .bl _ => some "bool"
  | .int _ => some "int"
  | .str _ => some "str"
  | .tup _ => some "tuple"
  | .lst _ => some "list"
  | .ref n => match h[n]? with
    | some (.lst _) => some "list"
    | none => none
  | .ty _ => none

def biF (h : Heap) : Bi → List Val → Option Val
  | .abs, [.int i] => some (.int (if i < 0 then -i else i))
  | .max2, [.int i, .int j] => some (.int (if j > i then j else i))
  | .min2, [.int i, .int j] => some (.int (if j < i then j else i))
  | .len, [v] => match asSeq h v with
    | some xs => some (.int xs.length)
    | none => none
  | .int, [.int i] => some (.int i)
  | .int, [.bl b] => some (.int (if b then 1 else 0))
  | .isi, [v, .ty n] => match tyName h v with
    | some t => (L2.kitB t n).map .bl
    | none => none
  | _, _ => none

/-- a method of a built-in type: the value and the heap behind it -/
def bmF (h : Heap) : Bm → Val → List Val → Option (Val × Heap)
  | .bits, .int i, [] => some (.int (bits i : Nat), h)
  | .reverse, .ref n, [] => match h[n]? with
    | some (.lst xs) => some (.non, h.set n (.lst xs.reverse))
    | none => none
  | _, _, _ => none

/-- where one stands: the calls of defs, the measure of a while -/
structure Cf where
  call : Nat → List Val → Heap → Res Val
  W : Nat

/-- items of a range -/
def rangeL (lo : Int) : Nat → List Val
  | 0 => []
  | n + 1 => .int lo :: rangeL (lo + 1) n

mutual
def evalE (c : Cf) : E → Loc → Heap → Res Val
  | .var i, l, h => match l[i]? with
    | some (some v) => .ok v h
    | _ => .bad
  | .con v, _, h => .ok v h
  | .bt n, _, h => .ok (.ty n) h
  | .tup es, l, h => (evalEs c es l h).bind fun vs h1 => if vs.length ≤ 1000 then .ok (.tup vs) h1 else .bad
  | .lst k es, l, h => (evalEs c es l h).bind fun vs h1 =>
      if vs.length ≤ 1000 then (if k then (if pureL vs then .ok (.ref h1.length) (h1 ++ [.lst vs]) else .bad) else .ok (.lst vs) h1) else .bad
  | .bin op a b, l, h => (evalE c a l h).bind fun x h1 => (evalE c b l h1).bind fun y h2 => Res.opt (binop op x y) fun v => .ok v h2
  | .neg a, l, h => (evalE c a l h).bind fun x h1 => match x with
    | .int i => .ok (.int (-i)) h1
    | _ => .bad
  | .cmp op a b, l, h => (evalE c a l h).bind fun x h1 => (evalE c b l h1).bind fun y h2 => Res.opt (cmpop op x y) fun v => .ok (.bl v) h2
  | .and a b, l, h => (evalE c a l h).bind fun x h1 => match x with
    | .bl true => evalE c b l h1
    | .bl false => .ok (.bl false) h1
    | _ => .bad
  | .or a b, l, h => (evalE c a l h).bind fun x h1 => match x with
    | .bl true => .ok (.bl true) h1
    | .bl false => evalE c b l h1
    | _ => .bad
  | .not a, l, h => (evalE c a l h).bind fun x h1 => match x with
    | .bl b => .ok (.bl (!b)) h1
    | _ => .bad
  | .ife t a b, l, h => (evalT c t l h).bind fun x h1 => if x then evalE c a l h1 else evalE c b l h1
  | .cal f es, l, h => (evalEs c es l h).bind fun vs h1 => c.call f vs h1
  | .bi f es, l, h => (evalEs c es l h).bind fun vs h1 => Res.opt (biF h1 f vs) fun v => .ok v h1
  | .bm m o es, l, h => (evalE c o l h).bind fun x h1 => (evalEs c es l h1).bind fun vs h2 => Res.opt (bmF h2 m x vs) fun p => .ok p.1 p.2
  | .ix a b, l, h => (evalE c a l h).bind fun x h1 => (evalE c b l h1).bind fun y h2 => match y with
    | .int i => Res.opt ((asSeq h2 x).bind fun xs => L2.atI xs i) fun v => .ok v h2
    | _ => .bad
  | _, _, _ => .bad
def evalEs (c : Cf) : E → Loc → Heap → Res (List Val)
  | .nl, _, h => .ok [] h
  | .cs a r, l, h => (evalE c a l h).bind fun x h1 => (evalEs c r l h1).bind fun xs h2 => .ok (x :: xs) h2
  | _, _, _ => .bad
/-- as a test -/
def evalT (c : Cf) : E → Loc → Heap → Res Bool
  | .and a b, l, h => (evalT c a l h).bind fun x h1 => if x then evalT c b l h1 else .ok false h1
  | .or a b, l, h => (evalT c a l h).bind fun x h1 => if x then .ok true h1 else evalT c b l h1
  | .not a, l, h => (evalT c a l h).bind fun x h1 => .ok (!x) h1
  | .cmp op a b, l, h => (evalE c a l h).bind fun x h1 => (evalE c b l h1).bind fun y h2 => Res.opt (cmpop op x y) fun v => .ok v h2
  | .tst e, l, h => (evalE c e l h).bind fun x h1 => match x with
    | .bl b => .ok b h1
    | _ => .bad
  | _, _, _ => .bad
end
/-- the items of a value that is walked -/
def seqItems (x : Val) (h : Heap) : Res (List Val) := match x with
  | .lst xs => .ok xs h
  | .tup xs => .ok xs h
  | _ => .bad
def rngItems (vs : List Val) (h : Heap) : Res (List Val) := match vs with
  | [.int j] => if j < 2 ^ 62 ∧ -(2 ^ 62) ≤ j then .ok (rangeL 0 j.toNat) h else .bad
  | _ => .bad
/-- what a for walks -/
def evalI (c : Cf) (e : E) (l : Loc) (h : Heap) : Res (List Val) := match e with
  | .iSeq e => (evalE c e l h).bind seqItems
  | .iRng es => (evalEs c es l h).bind rngItems
  | _ => .bad

mutual
/-- a value to a target -/
def store : T → Val → Loc → Option Loc
  | .nm i, v, l => some (l.set i (some v))
  | .tup ts, v, l => match v with
    | .tup xs => storeL ts xs l
    | _ => none
  | _, _, _ => none
def storeL : T → List Val → Loc → Option Loc
  | .nl, [], l => some l
  | .cs t r, x :: xs, l => (store t x l).bind fun l1 => storeL r xs l1
  | _, _, _ => none
end

/-- two values to two names -/
def store2 (i j : Nat) (vs : List Val) (l : Loc) : Option Loc := match vs with
  | [x, y] => some ((l.set i (some x)).set j (some y))
  | _ => none
/-- how a statement ends -/
inductive Out where
  | nx (l : Loc) (h : Heap)
  | rt (v : Val) (h : Heap)
  | bk (l : Loc) (h : Heap)
  | ct (l : Loc) (h : Heap)
  | exc (c : Nat) (v : Val) (l : Loc) (h : Heap)
  | bad

def Res.out {S : Type} (r : Res S) (l : Loc) (k : S → Heap → Out) : Out :=
  match r with
  | .ok a h => k a h
  | .exc c v h => .exc c v l h
  | .bad => .bad
@[simp] theorem out_ok {S : Type} (a : S) (h : Heap) (l : Loc) (k : S → Heap → Out) : (Res.ok a h).out l k = k a h := rr rfl
@[simp] theorem out_exc {S : Type} (c : Nat) (v : Val) (h : Heap) (l : Loc) (k : S → Heap → Out) : (Res.exc c v h : Res S).out l k = .exc c v l h := rr rfl
@[simp] theorem out_bad {S : Type} (l : Loc) (k : S → Heap → Out) : (Res.bad : Res S).out l k = .bad := rr rfl
def Out.opt {S : Type} (o : Option S) (k : S → Out) : Out :=
  match o with
  | some a => k a
  | none => .bad
@[simp] theorem oopt_some {S : Type} (a : S) (k : S → Out) : Out.opt (some a) k = k a := rr rfl
@[simp] theorem oopt_none {S : Type} (k : S → Out) : Out.opt (none : Option S) k = .bad := rr rfl
/-- what follows -/
def Out.thn (o : Out) (k : Loc → Heap → Out) : Out :=
  match o with
  | .nx l h => k l h
  | o => o
@[simp] theorem thn_nx (l : Loc) (h : Heap) (k : Loc → Heap → Out) : (Out.nx l h).thn k = k l h := rr rfl
@[simp] theorem thn_rt (v : Val) (h : Heap) (k : Loc → Heap → Out) : (Out.rt v h).thn k = .rt v h := rr rfl
@[simp] theorem thn_bk (l : Loc) (h : Heap) (k : Loc → Heap → Out) : (Out.bk l h).thn k = .bk l h := rr rfl
@[simp] theorem thn_ct (l : Loc) (h : Heap) (k : Loc → Heap → Out) : (Out.ct l h).thn k = .ct l h := rr rfl
@[simp] theorem thn_exc (c : Nat) (v : Val) (l : Loc) (h : Heap) (k : Loc → Heap → Out) : (Out.exc c v l h).thn k = .exc c v l h := rr rfl
@[simp] theorem thn_bad (k : Loc → Heap → Out) : (Out.bad).thn k = .bad := rr rfl
/-- behind a loop's turn -/
def Out.turn (o : Out) (k : Loc → Heap → Out) : Out :=
  match o with
  | .nx l h => k l h
  | .ct l h => k l h
  | .bk l h => .nx l h
  | o => o
@[simp] theorem turn_nx (l : Loc) (h : Heap) (k : Loc → Heap → Out) : (Out.nx l h).turn k = k l h := rr rfl
@[simp] theorem turn_ct (l : Loc) (h : Heap) (k : Loc → Heap → Out) : (Out.ct l h).turn k = k l h := rr rfl
@[simp] theorem turn_bk (l : Loc) (h : Heap) (k : Loc → Heap → Out) : (Out.bk l h).turn k = .nx l h := rr rfl
@[simp] theorem turn_rt (v : Val) (h : Heap) (k : Loc → Heap → Out) : (Out.rt v h).turn k = .rt v h := rr rfl
@[simp] theorem turn_exc (c : Nat) (v : Val) (l : Loc) (h : Heap) (k : Loc → Heap → Out) : (Out.exc c v l h).turn k = .exc c v l h := rr rfl
@[simp] theorem turn_bad (k : Loc → Heap → Out) : (Out.bad).turn k = .bad := rr rfl

def whileN (t : Loc → Heap → Res Bool) (b : Loc → Heap → Out) : Nat → Loc → Heap → Out
  | 0, _, _ => .bad
  | n + 1, l, h => (t l h).out l fun x h1 => if x then (b l h1).turn (whileN t b n) else .nx l h1
def forL (t : T) (b : Loc → Heap → Out) : List Val → Loc → Heap → Out
  | [], l, h => .nx l h
  | x :: xs, l, h => Out.opt (store t x l) fun l1 => (b l1 h).turn (forL t b xs)

/-- slots that hold objects from b on are forgotten -/
def trimL (b : Nat) (l : Loc) : Loc := l.map fun o => match o with
  | some v => if refsLt b v then some v else none
  | none => none

def setixO (h : Heap) (o i e : Val) : Option Heap :=
  match o, i with
  | .ref n, .int k => match h[n]? with
    | some (.lst xs) => match L2.ixN xs.length k with
      | some j => if pure0 e then some (h.set n (.lst (xs.set j e))) else none
      | none => none
    | none => none
  | _, _ => none

/-- behind a block of statements: what it made is forgotten -/
def Out.trim (b : Nat) (o : Out) : Out :=
  match o with
  | .nx l h => .nx (trimL b l) (h.take b)
  | .bk l h => .bk (trimL b l) (h.take b)
  | .ct l h => .ct (trimL b l) (h.take b)
  | o => o
@[simp] theorem trim_nx (b : Nat) (l : Loc) (h : Heap) : (Out.nx l h).trim b = .nx (trimL b l) (h.take b) := rr rfl
@[simp] theorem trim_bk (b : Nat) (l : Loc) (h : Heap) : (Out.bk l h).trim b = .bk (trimL b l) (h.take b) := rr rfl
@[simp] theorem trim_ct (b : Nat) (l : Loc) (h : Heap) : (Out.ct l h).trim b = .ct (trimL b l) (h.take b) := rr rfl
@[simp] theorem trim_rt (b : Nat) (v : Val) (h : Heap) : (Out.rt v h).trim b = .rt v h := rr rfl
@[simp] theorem trim_exc (b c : Nat) (v : Val) (l : Loc) (h : Heap) : (Out.exc c v l h).trim b = .exc c v l h := rr rfl
@[simp] theorem trim_bad (b : Nat) : (Out.bad).trim b = .bad := rr rfl

def run (c : Cf) : S → Loc → Heap → Out
  | .nop, l, h => .nx l h
  | .seq s r, l, h => (run c s l h).thn (run c r)
  | .asg t e, l, h => (evalE c e l h).out l fun v h1 => Out.opt (store t v l) fun l1 => .nx l1 h1
  | .par i j es, l, h => (evalEs c es l h).out l fun vs h1 => Out.opt (store2 i j vs l) fun l1 => .nx l1 h1
  | .setix o i e, l, h => (evalE c e l h).out l fun v h1 => (evalE c o l h1).out l fun x h2 => (evalE c i l h2).out l fun y h3 => Out.opt (setixO h3 x y v) fun h4 => .nx l h4
  | .ret e, l, h => (evalE c e l h).out l fun v h1 => .rt v h1
  | .exp e, l, h => (evalE c e l h).out l fun _ h1 => .nx l h1
  | .ite t a b, l, h => (evalT c t l h).out l fun x h1 => if x then run c a l h1 else run c b l h1
  | .whl t b, l, h => whileN (evalT c t) (run c b) c.W l h
  | .for_ t it b, l, h => (evalI c it l h).out l fun xs h1 => forL t (run c b) xs l h1
  | .scope b, l, h => (run c b l h).trim h.length

mutual
/-- a value that leaves: objects from b on become values -/
def fz (h : Heap) (b : Nat) : Val → Option Val
  | .ref n => if n < b then some (.ref n) else match h[n]? with
    | some (.lst xs) => some (.lst xs)
    | none => none
  | .tup xs => match fzL h b xs with
    | some ys => some (.tup ys)
    | none => none
  | .lst xs => if refsLtL b xs then some (.lst xs) else none
  | v => some v
def fzL (h : Heap) (b : Nat) : List Val → Option (List Val)
  | [] => some []
  | x :: xs => match fz h b x, fzL h b xs with
    | some y, some ys => some (y :: ys)
    | _, _ => none
end

/-- a def: how many slots, how many parameters, whether its objects become values, its body -/
structure Fn where
  n : Nat
  np : Nat
  frz : Bool
  body : S

def finish (f : Fn) (b : Nat) (v : Val) (h : Heap) : Res Val :=
  if f.frz then Res.opt (fz h b v) fun w => .ok w (h.take b) else .ok v h
def callF (P : List Fn) (W : Nat) : Nat → Nat → List Val → Heap → Res Val
  | 0, _, _, _ => .bad
  | k + 1, i, vs, h => match P[i]? with
    | none => .bad
    | some f => if vs.length = f.np then
        match run ⟨callF P W k, W⟩ f.body (vs.map some ++ List.replicate (f.n - f.np) none) h with
        | .nx _ h1 => finish f h.length .non h1
        | .rt v h1 => finish f h.length v h1
        | .exc c v _ h1 => Res.opt (fz h1 h.length v) fun w => .exc c w (h1.take h.length)
        | _ => .bad
      else .bad
end MP
/-! MP, how values and the small heap lie in the layer's heap. -/
namespace MP
open PySem L2

/-- the written part, and the classes of errors: where each stands, its field -/
structure Gc where
  K : PySem.W.Frag
  cl : Nat → Addr × Str

/-- a list, a tuple of the written part -/
def KL (K : PySem.W.Frag) (a : Addr) (xs : List V) : Prop := ∃ (o : PySem.Obj) (its : Array Value) (n : Nat), K.lookup a = some o ∧ o.cls = .type "list" ∧ o.dict = none ∧ o.data = .seq its n ∧ its.size ≤ sizeLine ∧ Vals xs its.toList
def KT (K : PySem.W.Frag) (a : Addr) (xs : List V) : Prop := ∃ (o : PySem.Obj) (its : Array Value) (n : Nat), K.lookup a = some o ∧ o.cls = .type "tuple" ∧ o.data = .seq its n ∧ its.size ≤ sizeLine ∧ Vals xs its.toList
/-- a list, a tuple that is read at a and is no object of the small heap -/
def LAt (C : Gc) (m : List Addr) (H : Hp) (a : Addr) (vs : List V) : Prop := (a ∉ m ∧ Rd H a (.lst vs)) ∨ KL C.K a vs
def TAt (C : Gc) (m : List Addr) (H : Hp) (a : Addr) (vs : List V) : Prop := (a ∉ m ∧ H a = some (.tup vs)) ∨ KT C.K a vs

mutual
def RepV (C : Gc) (m : List Addr) (H : Hp) : Val → V → Prop
  | .non, x => x = .non
  | .bl b, x => x = .bl b
  | .int i, x => x = .int i
  | .str s, x => x = .str s
  | .ty n, x => x = .ty n
  | .tup xs, x => ∃ a vs, x = .ref a ∧ TAt C m H a vs ∧ RepL C m H xs vs
  | .lst xs, x => ∃ a vs, x = .ref a ∧ LAt C m H a vs ∧ RepL C m H xs vs
  | .ref n, x => ∃ a, x = .ref a ∧ m[n]? = some a
def RepL (C : Gc) (m : List Addr) (H : Hp) : List Val → List V → Prop
  | [], vs => vs = []
  | x :: xs, vs => ∃ v r, vs = v :: r ∧ RepV C m H x v ∧ RepL C m H xs r
end

/-- what happens to the layer's heap: objects come behind; what is no object of the small heap stays -/
structure Evo (m : List Addr) (H : Hp) (m' : List Addr) (H' : Hp) : Prop where
  pre : ∃ n, m' = m ++ n
  new : ∀ a ∈ m', a ∉ m → H a = none
  keep : ∀ a o, a ∉ m → H a = some o → H' a = some o
theorem Evo.refl (m : List Addr) (H : Hp) : Evo m H m H := ⟨⟨[], by simp⟩, fun _ h n => absurd h n, fun _ _ _ h => h⟩
theorem Evo.trans {m m1 m2 : List Addr} {H H1 H2 : Hp} (a : Evo m H m1 H1) (b : Evo m1 H1 m2 H2) : Evo m H m2 H2 := by
  obtain ⟨n1, e1⟩ := a.pre
  obtain ⟨n2, e2⟩ := b.pre
  refine ⟨⟨n1 ++ n2, by rw [e2, e1, List.append_assoc]⟩, fun p hp np => ?_, fun p o np e => ?_⟩
  · by_cases h1 : p ∈ m1
    · exact a.new p h1 np
    · have z := b.new p hp h1
      cases q : H p with
      | none => rfl
      | some o =>
        rw [a.keep p o np q] at z
        cases z
  · have n1 : p ∉ m1 := fun h1 => by
      rw [a.new p h1 np] at e
      cases e
    exact b.keep p o n1 (a.keep p o np e)
theorem Evo.out {m m' : List Addr} {H H' : Hp} (a : Evo m H m' H') {p : Addr} {o : HO} (np : p ∉ m) (e : H p = some o) : p ∉ m' := fun h => by
  rw [a.new p h np] at e
  cases e
theorem Evo.ix {m m' : List Addr} {H H' : Hp} (a : Evo m H m' H') {n : Nat} {p : Addr} (e : m[n]? = some p) : m'[n]? = some p := by
  obtain ⟨r, rfl⟩ := a.pre
  rw [List.getElem?_append_left (List.getElem?_eq_some_iff.mp e).1]
  exact e
theorem rd_there {H : Hp} {a : Addr} {u : HO} (h : Rd H a u) : ∃ o, H a = some o := by
  rcases h with h | ⟨o, h⟩
  · exact ⟨_, h⟩
  · exact ⟨_, h⟩
theorem Evo.rd {m m' : List Addr} {H H' : Hp} (e : Evo m H m' H') {a : Addr} {u : HO} (na : a ∉ m) (h : Rd H a u) : Rd H' a u := by
  rcases h with h | ⟨o, h⟩
  · exact .inl (e.keep _ _ na h)
  · exact .inr ⟨o, e.keep _ _ na h⟩
variable {C : Gc}
theorem LAt.sq {m : List Addr} {H : Hp} {a : Addr} {vs : List V} (h : LAt C m H a vs) : SqL C.K H a vs := by
  rcases h with h | h
  · exact .inl h.2
  · exact .inr h
theorem TAt.sq {m : List Addr} {H : Hp} {a : Addr} {vs : List V} (h : TAt C m H a vs) : SqT C.K H a vs := by
  rcases h with h | h
  · exact .inl (.inl h.2)
  · exact .inr h
theorem Evo.lat {m m' : List Addr} {H H' : Hp} (e : Evo m H m' H') {a : Addr} {vs : List V} (h : LAt C m H a vs) : LAt C m' H' a vs := by
  rcases h with ⟨na, h⟩ | h
  · obtain ⟨o, ho⟩ := rd_there h
    exact .inl ⟨e.out na ho, e.rd na h⟩
  · exact .inr h
theorem Evo.tat {m m' : List Addr} {H H' : Hp} (e : Evo m H m' H') {a : Addr} {vs : List V} (h : TAt C m H a vs) : TAt C m' H' a vs := by
  rcases h with ⟨na, h⟩ | h
  · exact .inl ⟨e.out na h, e.keep _ _ na h⟩
  · exact .inr h

mutual
theorem RepV.mono {m m' : List Addr} {H H' : Hp} (e : Evo m H m' H') : ∀ {v : Val} {x : V}, RepV C m H v x → RepV C m' H' v x
  | .non, x, h => h
  | .bl b, x, h => h
  | .int i, x, h => h
  | .str s, x, h => h
  | .ty n, x, h => h
  | .tup xs, x, h => by
    obtain ⟨a, vs, rfl, ha, hr⟩ := h
    exact ⟨a, vs, rfl, e.tat ha, RepL.mono e hr⟩
  | .lst xs, x, h => by
    obtain ⟨a, vs, rfl, ha, hr⟩ := h
    exact ⟨a, vs, rfl, e.lat ha, RepL.mono e hr⟩
  | .ref n, x, h => by
    obtain ⟨a, rfl, ha⟩ := h
    exact ⟨a, rfl, e.ix ha⟩
theorem RepL.mono {m m' : List Addr} {H H' : Hp} (e : Evo m H m' H') : ∀ {vs : List Val} {xs : List V}, RepL C m H vs xs → RepL C m' H' vs xs
  | [], xs, h => h
  | v :: vs, xs, h => by
    obtain ⟨y, r, rfl, h1, h2⟩ := h
    exact ⟨y, r, rfl, RepV.mono e h1, RepL.mono e h2⟩
end
theorem RepL.length {m : List Addr} {H : Hp} : ∀ {vs : List Val} {xs : List V}, RepL C m H vs xs → xs.length = vs.length
  | [], xs, h => by cases h; rfl
  | v :: vs, xs, h => by
    obtain ⟨y, r, rfl, _, h2⟩ := h
    show r.length + 1 = vs.length + 1
    rw [RepL.length h2]
theorem RepL.get {m : List Addr} {H : Hp} : ∀ {vs : List Val} {xs : List V} {i : Nat} {v : Val}, RepL C m H vs xs → vs[i]? = some v → ∃ x, xs[i]? = some x ∧ RepV C m H v x
  | [], xs, i, v, h, e => by simp at e
  | w :: vs, xs, 0, v, h, e => by
    obtain ⟨y, r, rfl, h1, _⟩ := h
    have q : w = v := by simpa using e
    subst q
    exact ⟨y, by simp, h1⟩
  | w :: vs, xs, i + 1, v, h, e => by
    obtain ⟨y, r, rfl, _, h2⟩ := h
    obtain ⟨x, h3, h4⟩ := RepL.get (i := i) (v := v) h2 (by simpa using e)
    exact ⟨x, by simpa using h3, h4⟩
theorem RepL.append {m : List Addr} {H : Hp} : ∀ {vs ws : List Val} {xs ys : List V}, RepL C m H vs xs → RepL C m H ws ys → RepL C m H (vs ++ ws) (xs ++ ys)
  | [], _, xs, _, h, h' => by cases h; exact h'
  | v :: vs, _, xs, _, h, h' => by
    obtain ⟨y, r, rfl, h1, h2⟩ := h
    exact ⟨y, _, rfl, h1, RepL.append h2 h'⟩
theorem RepL.reverse {m : List Addr} {H : Hp} : ∀ {vs : List Val} {xs : List V}, RepL C m H vs xs → RepL C m H vs.reverse xs.reverse
  | [], xs, h => by cases h; exact rfl
  | v :: vs, xs, h => by
    obtain ⟨y, r, rfl, h1, h2⟩ := h
    rw [List.reverse_cons, List.reverse_cons]
    exact RepL.append (RepL.reverse h2) ⟨y, [], rfl, h1, rfl⟩
theorem RepL.set {m : List Addr} {H : Hp} {v : Val} {x : V} (hv : RepV C m H v x) : ∀ {vs : List Val} {xs : List V} (i : Nat), RepL C m H vs xs → RepL C m H (vs.set i v) (xs.set i x)
  | [], xs, i, h => by cases h; exact rfl
  | w :: vs, xs, 0, h => by
    obtain ⟨y, r, rfl, _, h2⟩ := h
    exact ⟨x, r, rfl, hv, h2⟩
  | w :: vs, xs, i + 1, h => by
    obtain ⟨y, r, rfl, h1, h2⟩ := h
    exact ⟨y, r.set i x, rfl, h1, RepL.set hv i h2⟩

/-- an object of the small heap at a -/
def RepO (C : Gc) (m : List Addr) (H : Hp) (a : Addr) : Obj → Prop
  | .lst xs => ∃ vs, H a = some (.lst vs) ∧ RepL C m H xs vs ∧ pureL xs = true

structure HpOk (C : Gc) (m : List Addr) (h : Heap) (H : Hp) : Prop where
  len : m.length = h.length
  nd : m.Nodup
  obj : ∀ (n : Nat) (o : Obj) (a : Addr), h[n]? = some o → m[n]? = some a → RepO C m H a o
theorem RepO.out {m : List Addr} {H : Hp} {a : Addr} {o : Obj} (h : RepO C m H a o) : ∃ u, H a = some u := by
  cases o with
  | lst xs =>
    obtain ⟨vs, e, _⟩ := h
    exact ⟨_, e⟩
theorem HpOk.at {m : List Addr} {h : Heap} {H : Hp} (p : HpOk C m h H) {n : Nat} {o : Obj} (e : h[n]? = some o) : ∃ a, m[n]? = some a ∧ RepO C m H a o := by
  have l : n < m.length := by
    rw [p.len]
    exact (List.getElem?_eq_some_iff.mp e).1
  exact ⟨m[n], List.getElem?_eq_getElem l, p.obj n o _ e (List.getElem?_eq_getElem l)⟩
theorem HpOk.there {m : List Addr} {h : Heap} {H : Hp} (p : HpOk C m h H) {a : Addr} (ha : a ∈ m) : ∃ u, H a = some u := by
  obtain ⟨n, hn, rfl⟩ := List.mem_iff_getElem.mp ha
  have l : n < h.length := by
    rw [← p.len]
    exact hn
  exact (p.obj n h[n] m[n] (List.getElem?_eq_getElem l) (List.getElem?_eq_getElem hn)).out
theorem HpOk.notIn {m : List Addr} {h : Heap} {H : Hp} (p : HpOk C m h H) {a : Addr} (e : H a = none) : a ∉ m := fun ha => by
  obtain ⟨u, hu⟩ := p.there ha
  rw [e] at hu
  cases hu

theorem refsLtL_mem {b : Nat} : ∀ {xs : List Val}, refsLtL b xs = true ↔ ∀ x ∈ xs, refsLt b x = true
  | [] => by simp [refsLtL]
  | x :: xs => by simp [refsLtL, refsLtL_mem (xs := xs)]
mutual
/-- what meets no object of the heap does not hang on the heap's places -/
theorem RepV.place {m m' : List Addr} {H : Hp} {b : Nat} (hm : ∀ a o, H a = some o → a ∉ m → a ∉ m') (hb : ∀ n a, n < b → m[n]? = some a → m'[n]? = some a) : ∀ {v : Val} {x : V}, refsLt b v = true → RepV C m H v x → RepV C m' H v x
  | .non, x, _, h => h
  | .bl _, x, _, h => h
  | .int i, x, _, h => h
  | .str s, x, _, h => h
  | .ty n, x, _, h => h
  | .tup xs, x, p, h => by
    obtain ⟨a, vs, rfl, ha, hr⟩ := h
    refine ⟨a, vs, rfl, ?_, RepL.place hm hb p hr⟩
    rcases ha with ⟨na, ha⟩ | ha
    · exact .inl ⟨hm a _ ha na, ha⟩
    · exact .inr ha
  | .lst xs, x, p, h => by
    obtain ⟨a, vs, rfl, ha, hr⟩ := h
    refine ⟨a, vs, rfl, ?_, RepL.place hm hb p hr⟩
    rcases ha with ⟨na, ha⟩ | ha
    · obtain ⟨o, ho⟩ := rd_there ha
      exact .inl ⟨hm a _ ho na, ha⟩
    · exact .inr ha
  | .ref n, x, p, h => by
    obtain ⟨a, rfl, ha⟩ := h
    exact ⟨a, rfl, hb n a (of_decide_eq_true p) ha⟩
theorem RepL.place {m m' : List Addr} {H : Hp} {b : Nat} (hm : ∀ a o, H a = some o → a ∉ m → a ∉ m') (hb : ∀ n a, n < b → m[n]? = some a → m'[n]? = some a) : ∀ {v : List Val} {x : List V}, refsLtL b v = true → RepL C m H v x → RepL C m' H v x
  | [], x, _, h => h
  | v :: vs, x, p, h => by
    obtain ⟨y, r, rfl, h1, h2⟩ := h
    have p2 : (refsLt b v && refsLtL b vs) = true := p
    rw [Bool.and_eq_true] at p2
    exact ⟨y, r, rfl, RepV.place hm hb p2.1 h1, RepL.place hm hb p2.2 h2⟩
end

/-- the slots -/
structure LocOk (C : Gc) (m : List Addr) (H : Hp) (l : Loc) (s : St) : Prop where
  len : l.length = s.length
  get : ∀ (i : Nat) v, l[i]? = some (some v) → ∃ x, s[i]? = some (some x) ∧ RepV C m H v x
theorem LocOk.mono {m m' : List Addr} {H H' : Hp} {l : Loc} {s : St} (e : Evo m H m' H') (h : LocOk C m H l s) : LocOk C m' H' l s :=
  ⟨h.len, fun i v q => let ⟨x, h1, h2⟩ := h.get i v q; ⟨x, h1, h2.mono e⟩⟩
theorem LocOk.set {m : List Addr} {H : Hp} {l : Loc} {s : St} {v : Val} {x : V} (h : LocOk C m H l s) (i : Nat) (r : RepV C m H v x) : LocOk C m H (l.set i (some v)) (s.set i (some x)) := by
  refine ⟨by simp [h.len], fun j w q => ?_⟩
  by_cases hj : i = j
  · subst hj
    by_cases hl : i < l.length
    · rw [List.getElem?_set_self hl] at q
      cases q
      refine ⟨x, ?_, r⟩
      rw [List.getElem?_set_self (by rw [← h.len]; exact hl)]
    · rw [List.getElem?_eq_none (by simpa using hl)] at q
      cases q
  · rw [List.getElem?_set_ne hj] at q ⊢
    exact h.get j w q

theorem Evo.put {m : List Addr} {H : Hp} {n : Nat} {a : Addr} {u : HO} (ha : m[n]? = some a) : Evo m H m (upd H a u) := ⟨⟨[], by simp⟩, fun _ h n => absurd h n, fun b w nb e => by
    have z : b ≠ a := fun q => nb (by rw [q]; exact List.mem_of_getElem? ha)
    rw [upd_ne z]
    exact e⟩
/-- a list of the small heap changed -/
theorem RepO.put {m : List Addr} {H : Hp} {n : Nat} {a : Addr} {xs : List Val} {vs : List V} (ha : m[n]? = some a) (r : RepL C m H xs vs) (p : pureL xs = true) : RepO C m (upd H a (.lst vs)) a (.lst xs) := ⟨vs, upd_same, r.mono (Evo.put ha), p⟩
/-- an object of the small heap changed -/
theorem HpOk.put {m : List Addr} {h : Heap} {H : Hp} (p : HpOk C m h H) {n : Nat} {a : Addr} {u : HO} {o : Obj} (ha : m[n]? = some a) (ho : RepO C m (upd H a u) a o) : HpOk C m (h.set n o) (upd H a u) ∧ Evo m H m (upd H a u) := by
  have ev : Evo m H m (upd H a u) := ⟨⟨[], by simp⟩, fun _ h n => absurd h n, fun b w nb e => by
    have z : b ≠ a := fun q => nb (by rw [q]; exact List.mem_of_getElem? ha)
    rw [upd_ne z]
    exact e⟩
  refine ⟨⟨by simp [p.len], p.nd, fun k w b hk hb => ?_⟩, ev⟩
  by_cases hn : n = k
  · subst hn
    have e : a = b := Option.some.inj (ha.symm.trans hb)
    subst e
    by_cases hl : n < h.length
    · rw [List.getElem?_set_self hl] at hk
      cases hk
      exact ho
    · rw [List.getElem?_eq_none (by simpa using hl)] at hk
      cases hk
  · rw [List.getElem?_set_ne hn] at hk
    have nb : b ≠ a := fun q => by
      subst q
      exact hn (nd_ix p.nd ha hb)
    have z := p.obj k w b hk hb
    cases w with
    | lst xs =>
      obtain ⟨vs, e, r, q⟩ := z
      exact ⟨vs, by rw [upd_ne nb]; exact e, r.mono ev, q⟩
/-- a new thing that is no object of the small heap -/
theorem HpOk.lay {m : List Addr} {h : Heap} {H : Hp} (p : HpOk C m h H) {a : Addr} {u : HO} (ha : H a = none) : HpOk C m h (upd H a u) ∧ Evo m H m (upd H a u) := by
  have ev : Evo m H m (upd H a u) := ⟨⟨[], by simp⟩, fun _ h n => absurd h n, fun b w nb e => by
    rw [upd_ne (ne_of_none e ha)]
    exact e⟩
  refine ⟨⟨p.len, p.nd, fun k w b hk hb => ?_⟩, ev⟩
  have z := p.obj k w b hk hb
  have nb : b ≠ a := by
    obtain ⟨o, ho⟩ := z.out
    exact ne_of_none ho ha
  cases w with
  | lst xs =>
    obtain ⟨vs, e, r, q⟩ := z
    exact ⟨vs, by rw [upd_ne nb]; exact e, r.mono ev, q⟩
/-- a new object of the small heap -/
theorem HpOk.grow {m : List Addr} {h : Heap} {H : Hp} (p : HpOk C m h H) {a : Addr} {vs : List Val} {xs : List V} (ha : H a = none) (hv : RepL C m H vs xs) (hp : pureL vs = true) :
    HpOk C (m ++ [a]) (h ++ [.lst vs]) (upd H a (.lst xs)) ∧ Evo m H (m ++ [a]) (upd H a (.lst xs)) := by
  have na : a ∉ m := p.notIn ha
  have ev : Evo m H (m ++ [a]) (upd H a (.lst xs)) := by
    refine ⟨⟨[a], rfl⟩, fun b hb nb => ?_, fun b w nb e => ?_⟩
    · rcases List.mem_append.mp hb with z | z
      · exact absurd z nb
      · have q : b = a := by simpa using z
        rw [q]
        exact ha
    · rw [upd_ne (ne_of_none e ha)]
      exact e
  refine ⟨⟨by simp [p.len], ?_, fun k w b hk hb => ?_⟩, ev⟩
  · rw [List.nodup_append]
    exact ⟨p.nd, by simp, fun x hx y hy => by
      have q : y = a := by simpa using hy
      rw [q]
      exact fun z => na (by rw [← z]; exact hx)⟩
  · by_cases hl : k < h.length
    · rw [List.getElem?_append_left hl] at hk
      rw [List.getElem?_append_left (by rw [p.len]; exact hl)] at hb
      have z := p.obj k w b hk hb
      have nb : b ≠ a := by
        obtain ⟨o, ho⟩ := z.out
        exact ne_of_none ho ha
      cases w with
      | lst ys =>
        obtain ⟨ws, e, r, q⟩ := z
        exact ⟨ws, by rw [upd_ne nb]; exact e, r.mono ev, q⟩
    · have el : k = h.length := by
        have z := (List.getElem?_eq_some_iff.mp hk).1
        simp at z
        omega
      subst el
      simp at hk
      subst hk
      have e : b = a := by
        rw [← p.len] at hb
        simpa using hb.symm
      subst e
      exact ⟨xs, upd_same, hv.mono ev, hp⟩

/-- how an exception of the class c with the field v is to be met -/
def ExcP (C : Gc) (Wx : WX) (m : List Addr) (H : Hp) (s : St) (c : Nat) (v : Val) (h : Heap) : Prop :=
  ∀ m' H' d x, Evo m H m' H' → HpOk C m' h H' → RepV C m' H' v x → H' d = some (.xd [((C.cl c).2, x)]) → d ∉ m' → Wx (.ref (C.cl c).1) (some d) s H'
/-- a result and what is wanted of it -/
def RP {A : Type} (C : Gc) (Wx : WX) (m : List Addr) (H : Hp) (s : St) (r : Res A) (Q : A → Heap → List Addr → Hp → Prop) : Prop :=
  match r with
  | .ok a h => ∀ m' H', Evo m H m' H' → HpOk C m' h H' → Q a h m' H'
  | .exc c v h => ExcP C Wx m H s c v h
  | .bad => False
section
variable {Wx : WX} {m m1 : List Addr} {H H1 : Hp} {s : St} {A B : Type}
theorem ExcP.weak {c : Nat} {v : Val} {h : Heap} (x : ExcP C Wx m H s c v h) (e : Evo m H m1 H1) : ExcP C Wx m1 H1 s c v h := fun m' H' d y ev => x m' H' d y (e.trans ev)
theorem RP.weak {r : Res A} {Q : A → Heap → List Addr → Hp → Prop} (x : RP C Wx m H s r Q) (e : Evo m H m1 H1) : RP C Wx m1 H1 s r Q := by
  cases r with
  | ok a h => exact fun m' H' ev => x m' H' (e.trans ev)
  | exc c v h => exact ExcP.weak x e
  | bad => exact x
theorem RP.imp {r : Res A} {Q Q' : A → Heap → List Addr → Hp → Prop} (x : RP C Wx m H s r Q) (f : ∀ a h m' H', Evo m H m' H' → HpOk C m' h H' → Q a h m' H' → Q' a h m' H') : RP C Wx m H s r Q' := by
  cases r with
  | ok a h => exact fun m' H' ev hp => f a h m' H' ev hp (x m' H' ev hp)
  | exc c v h => exact x
  | bad => exact x
theorem RP.bind {r : Res A} {k : A → Heap → Res B} {Q : B → Heap → List Addr → Hp → Prop} (x : RP C Wx m H s (r.bind k) Q) : RP C Wx m H s r fun a h m' H' => RP C Wx m' H' s (k a h) Q := by
  cases r with
  | ok a h => exact fun m' H' ev hp => RP.weak (show RP C Wx m H s (k a h) Q from x) ev
  | exc c v h => exact x
  | bad => exact x
theorem RP.go {a : A} {h : Heap} {Q : A → Heap → List Addr → Hp → Prop} (x : RP C Wx m H s (.ok a h) Q) (e : Evo m H m1 H1) (hp : HpOk C m1 h H1) : Q a h m1 H1 := x m1 H1 e hp
theorem fin1 {v : Val} {h : Heap} {x : V} {Q : VK} (q : RP C Wx m H s (.ok v h) fun v _ m' H' => ∀ x, RepV C m' H' v x → Q x H') (hp : HpOk C m h H) (r : RepV C m H v x) : Q x H := q m H (Evo.refl m H) hp x r
theorem fin2 {v : Val} {h : Heap} {x : V} {Q : VK} (q : RP C Wx m H s (.ok v h) fun v _ m' H' => ∀ x, RepV C m' H' v x → Q x H') (e : Evo m H m1 H1) (hp : HpOk C m1 h H1) (r : RepV C m1 H1 v x) : Q x H1 := q m1 H1 e hp x r
theorem RP.now {a : A} {h : Heap} {Q : A → Heap → List Addr → Hp → Prop} (x : RP C Wx m H s (.ok a h) Q) (hp : HpOk C m h H) : Q a h m H := x m H (Evo.refl m H) hp
end
end MP
/-! MP, the operations of the small language are those of the layer. -/
namespace MP
open PySem L2

section
variable {X : Cx} {e : Expr} {es : List Expr} {st : Stmt} {sts : List Stmt}
theorem PE.imp {t t' : TE} (h : PE X e t) (f : ∀ s H Q, t' s H Q → t s H Q) : PE X e t' := ⟨fun pins s σ H Q I q => h.run pins s σ H Q I (f _ _ _ q)⟩
theorem PT.imp {t t' : TT} (h : PT X e t) (f : ∀ s H Q, t' s H Q → t s H Q) : PT X e t' := ⟨fun pins s σ H Q I q => h.run pins s σ H Q I (f _ _ _ q)⟩
theorem PW.imp {t t' : TT} (h : PW X e t) (f : ∀ s H Q, t' s H Q → t s H Q) : PW X e t' := ⟨fun wh pins s σ H Q I q => h.run wh pins s σ H Q I (f _ _ _ q)⟩
theorem PA.imp {t t' : TA} (h : PA X es t) (f : ∀ s H Q, t' s H Q → t s H Q) : PA X es t' := ⟨fun pos pins s σ H Q I q => h.run pos pins s σ H Q I (f _ _ _ q)⟩
theorem PS.imp {t t' : TS} (h : PS X st t) (f : ∀ D s H, t' D s H → t D s H) : PS X st t' := ⟨fun pins s σ H D I q => h.run pins s σ H D I (f _ _ _ q)⟩
theorem PSs.imp {t t' : TS} (h : PSs X sts t) (f : ∀ D s H, t' D s H → t D s H) : PSs X sts t' := ⟨fun pins s σ H D I q => h.run pins s σ H D I (f _ _ _ q)⟩
theorem PI.imp {t t' : TI} {tg : Expr} (h : PI X tg e t) (f : ∀ s H Q, t' s H Q → t s H Q) : PI X tg e t' := ⟨fun pins s σ H Q I q => h.run pins s σ H Q I (f _ _ _ q)⟩
end

/-! ### operators -/
/-- what a pure operation is asked: the values that lie there, and that the answer, wherever it comes to lie, is good -/
def RO (C : Gc) (m : List Addr) (h : Heap) (H : Hp) (v : Val) (Q : VK) : Prop := ∀ x H', Evo m H m H' → HpOk C m h H' → RepV C m H' v x → Q x H'
theorem RO.now {C : Gc} {m : List Addr} {h : Heap} {H : Hp} {v : Val} {x : V} {Q : VK} (q : RO C m h H v Q) (hp : HpOk C m h H) (r : RepV C m H v x) : Q x H := q x H (Evo.refl m H) hp r
section
variable {X : Cx} {C : Gc}
def rBin (C : Gc) (op : Operator) : R2 := fun x y H Q => ∃ m h a b v, HpOk C m h H ∧ RepV C m H a x ∧ RepV C m H b y ∧ binop op a b = some v ∧ RO C m h H v Q
theorem op_bin (op : Operator) : OpR X (binaryOp op) (rBin C op) := by
  intro pins s σ H x y v u Q I rx ry q
  obtain ⟨m, h, a, b, w, hp, ra, rb, e, q⟩ := q
  have one : ∀ i j, a = .int i → b = .int j → ∃ k, w = .int k ∧ wpAny (model X.prog X.w) X.A (binaryOp op v u) (EP X pins σ Q) X.xe s := by
    intro i j ea eb
    subst ea eb
    cases (show x = V.int i from ra)
    cases (show y = V.int j from rb)
    obtain ⟨t, rfl⟩ := rx
    obtain ⟨t', rfl⟩ := ry
    have fin : ∀ k, w = .int k → EP X pins σ Q (.int k s.toks) { s with toks := s.toks + 1 } := fun k ek => by
      subst ek
      exact ⟨.int k, H, I.tok _, ⟨_, rfl⟩, q.now hp (show RepV C m H (.int k) (.int k) from rfl)⟩
    have e : binI op i j = some w := e
    cases op with
    | Add =>
      cases e
      exact ⟨_, rfl, PyProof.Rows.add_int (fin _ rfl)⟩
    | Sub =>
      cases e
      exact ⟨_, rfl, PyProof.Rows.sub_int (fin _ rfl)⟩
    | Mult =>
      have e2 : (if bits i + bits j ≤ 134217728 then some (Val.int (i * j)) else none) = some w := e
      by_cases c : bits i + bits j ≤ 134217728
      · rw [if_pos c] at e2
        cases e2
        refine ⟨_, rfl, PyProof.Rows.mul_int (fin _ rfl) (CMulX.ok ?_)⟩
        have c2 : Builtin.Int.intBits i + Builtin.Int.intBits j ≤ 134217728 := c
        show (Builtin.Int.intBits i : Int) + (Builtin.Int.intBits j : Int) ≤ 134217728
        omega
      · rw [if_neg c] at e2
        cases e2
    | FloorDiv =>
      have e2 : (if j ≠ 0 ∧ Builtin.divisionGoesByPylong i j = false then some (Val.int (i.fdiv j)) else none) = some w := e
      by_cases c : j ≠ 0 ∧ Builtin.divisionGoesByPylong i j = false
      · rw [if_pos c] at e2
        cases e2
        exact ⟨_, rfl, PyProof.Rows.floordiv_int c.1 (fin _ rfl) (.inl c.2)⟩
      · rw [if_neg c] at e2
        cases e2
    | Mod =>
      have e2 : (if j ≠ 0 then some (Val.int (i.fmod j)) else none) = some w := e
      by_cases c : j ≠ 0
      · rw [if_pos c] at e2
        cases e2
        exact ⟨_, rfl, PyProof.Rows.mod_int' c (fin _ rfl)⟩
      · rw [if_neg c] at e2
        cases e2
    | Pow =>
      have e2 : (if 0 ≤ j ∧ (bits i : Int) * j ≤ 2 ^ 27 then some (Val.int (i ^ j.toNat)) else none) = some w := e
      by_cases c : 0 ≤ j ∧ (bits i : Int) * j ≤ 2 ^ 27
      · rw [if_pos c] at e2
        cases e2
        exact ⟨_, rfl, PyProof.Rows.pow_int c.1 c.2 (fin _ rfl)⟩
      · rw [if_neg c] at e2
        cases e2
    | LShift =>
      have e2 : (if 0 ≤ j ∧ (bits i : Int) + j ≤ 2 ^ 27 then some (Val.int (i * 2 ^ j.toNat)) else none) = some w := e
      by_cases c : 0 ≤ j ∧ (bits i : Int) + j ≤ 2 ^ 27
      · rw [if_pos c] at e2
        cases e2
        exact ⟨_, rfl, PyProof.Rows.lshift_int c.1 c.2 (fin _ rfl)⟩
      · rw [if_neg c] at e2
        cases e2
    | MatMult => cases e
    | Div => cases e
    | RShift => cases e
    | BitOr => cases e
    | BitXor => cases e
    | BitAnd => cases e
  cases a with
  | int i =>
    cases b with
    | int j =>
      obtain ⟨k, _, z⟩ := one i j rfl rfl
      exact z
    | _ => cases e
  | _ => cases e

def rCmp (C : Gc) (op : CmpOp) : R2 := fun x y H Q => ∃ m h a b v, HpOk C m h H ∧ RepV C m H a x ∧ RepV C m H b y ∧ cmpop op a b = some v ∧ Q (.bl v) H
theorem op_cmp (op : CmpOp) : OpR X (compareOp op) (rCmp C op) := by
  intro pins s σ H x y v u Q I rx ry q
  obtain ⟨m, h, a, b, w, hp, ra, rb, e, q⟩ := q
  cases a with
  | int i =>
    cases b with
    | int j =>
      cases (show x = V.int i from ra)
      cases (show y = V.int j from rb)
      have e : cmpI op i j = some w := e
      cases op with
      | Eq =>
        cases e
        refine op_eq pins s σ H _ _ v u Q I rx ry ⟨rfl, ?_⟩
        have d : decide (V.int i = V.int j) = decide (i = j) := by
          by_cases c : i = j
          · subst c; simp
          · simp [c]
        rw [d]
        exact q
      | NotEq =>
        cases e
        refine op_ne pins s σ H _ _ v u Q I rx ry ⟨rfl, ?_⟩
        have d : decide (V.int i = V.int j) = decide (i = j) := by
          by_cases c : i = j
          · subst c; simp
          · simp [c]
        rw [d]
        exact q
      | Lt =>
        cases e
        exact op_lt pins s σ H _ _ v u Q I rx ry ⟨i, j, rfl, rfl, q⟩
      | LtE =>
        cases e
        exact op_le pins s σ H _ _ v u Q I rx ry ⟨i, j, rfl, rfl, q⟩
      | Gt =>
        cases e
        exact op_gt pins s σ H _ _ v u Q I rx ry ⟨i, j, rfl, rfl, q⟩
      | GtE =>
        cases e
        exact op_ge pins s σ H _ _ v u Q I rx ry ⟨i, j, rfl, rfl, q⟩
      | _ => cases e
    | _ => cases e
  | _ => cases e

/-- a list or a tuple, read -/
theorem seq_at {m : List Addr} {h : Heap} {H : Hp} (hp : HpOk C m h H) {v : Val} {x : V} {xs : List Val} (r : RepV C m H v x) (e : asSeq h v = some xs) :
    ∃ a vs, x = .ref a ∧ (SqL C.K H a vs ∨ SqT C.K H a vs) ∧ RepL C m H xs vs := by
  cases v with
  | tup ys =>
    obtain ⟨a, vs, rfl, ha, hr⟩ := r
    cases e
    exact ⟨a, vs, rfl, .inr ha.sq, hr⟩
  | lst ys =>
    obtain ⟨a, vs, rfl, ha, hr⟩ := r
    cases e
    exact ⟨a, vs, rfl, .inl ha.sq, hr⟩
  | ref n =>
    obtain ⟨a, rfl, ha⟩ := r
    have e : (match h[n]? with | some (.lst xs) => some xs | none => none) = some xs := e
    cases q : h[n]? with
    | none =>
      rw [q] at e
      cases e
    | some o =>
      rw [q] at e
      cases o with
      | lst ys =>
        cases e
        obtain ⟨vs, e1, r1, _⟩ := hp.obj n _ a q ha
        exact ⟨a, vs, rfl, .inl (SqL.of e1), r1⟩
  | _ => cases e
theorem ty_at {m : List Addr} {h : Heap} {H : Hp} (hp : HpOk C m h H) {v : Val} {x : V} {t : String} (r : RepV C m H v x) (e : tyName h v = some t) : TyX C.K H x (.type t) := by
  cases v with
  | non => cases e; cases (show x = V.non from r); exact .base .non
  | bl b => cases e; cases (show x = V.bl b from r); exact .base (.bl b)
  | int i => cases e; cases (show x = V.int i from r); exact .base (.int i)
  | str z => cases e; cases (show x = V.str z from r); exact .base (.str z)
  | tup ys =>
    obtain ⟨a, vs, rfl, ha, hr⟩ := r
    cases e
    rcases ha with ⟨_, ha⟩ | ⟨o, its, n, h1, h2, _⟩
    · exact .base (.tup ha)
    · exact .kTuple h1 h2
  | lst ys =>
    obtain ⟨a, vs, rfl, ha, hr⟩ := r
    cases e
    rcases ha with ⟨_, ha | ⟨o, ha⟩⟩ | ⟨o, its, n, h1, h2, _⟩
    · exact .base (.lst ha)
    · exact .base (.frz ha)
    · exact .kList h1 h2
  | ref n =>
    obtain ⟨a, rfl, ha⟩ := r
    have e : (match h[n]? with | some (Obj.lst _) => some "list" | none => none) = some t := e
    cases q : h[n]? with
    | none =>
      rw [q] at e
      cases e
    | some o =>
      rw [q] at e
      cases o with
      | lst ys =>
        cases e
        obtain ⟨vs, e1, r1, _⟩ := hp.obj n _ a q ha
        exact .base (.lst e1)
  | ty _ => cases e

/-! ### built-in functions -/
def biName : Bi → Str
  | .abs => "abs" | .max2 => "max" | .min2 => "min" | .len => "len" | .int => "int" | .isi => "isinstance"
def biVal : Bi → Value
  | .abs => .builtin "abs" | .max2 => .builtin "max" | .min2 => .builtin "min" | .len => .builtin "len" | .int => .type "int" | .isi => .builtin "isinstance"
def rBi (C : Gc) (f : Bi) : List V → Hp → VK → Prop := fun xs H Q => ∃ m h vs v, HpOk C m h H ∧ RepL C m H vs xs ∧ biF h f vs = some v ∧ RO C m h H v Q
theorem call_bi (hK : X.K = C.K) (hc : X.calm = true) (f : Bi) : CallR X (biVal f) (rBi C f) := by
  intro pins s σ H xs us Q I r q
  obtain ⟨m, h, vs, w, hp, rv, e, q⟩ := q
  unfold biF at e
  split at e
  · obtain ⟨x1, r1, rfl, h1, rfl⟩ := rv
    cases e
    cases h1
    exact call_abs pins s σ H _ us Q I r ⟨_, rfl, q.now hp (by rfl)⟩
  · obtain ⟨x1, r1, rfl, h1, x2, r2, rfl, h2, rfl⟩ := rv
    cases e
    cases h1
    cases h2
    exact call_max2 hc pins s σ H _ us Q I r ⟨_, _, rfl, q.now hp (by rfl)⟩
  · obtain ⟨x1, r1, rfl, h1, x2, r2, rfl, h2, rfl⟩ := rv
    cases e
    cases h1
    cases h2
    exact call_min2 hc pins s σ H _ us Q I r ⟨_, _, rfl, q.now hp (by rfl)⟩
  · obtain ⟨x1, r1, rfl, h1, rfl⟩ := rv
    split at e
    · rename_i ys ey
      cases e
      obtain ⟨a, vs, rfl, hs, hr⟩ := seq_at hp h1 ey
      rw [← hK] at hs
      refine call_len_seq pins s σ H _ us Q I r ⟨a, vs, rfl, hs, ?_⟩
      rw [hr.length]
      exact q.now hp (by rfl)
    · cases e
  · obtain ⟨x1, r1, rfl, h1, rfl⟩ := rv
    cases e
    cases h1
    exact call_int1 pins s σ H _ us Q I r (.inl ⟨_, rfl, q.now hp (by rfl)⟩)
  · obtain ⟨x1, r1, rfl, h1, rfl⟩ := rv
    cases e
    cases h1
    exact call_int1 pins s σ H _ us Q I r (.inr ⟨_, rfl, q.now hp (by rfl)⟩)
  · obtain ⟨x1, r1, rfl, h1, x2, r2, rfl, h2, rfl⟩ := rv
    split at e
    · rename_i n t et
      cases h2
      cases ek : kitB t _ with
      | none =>
        rw [ek] at e
        cases e
      | some b =>
        rw [ek] at e
        cases e
        exact call_isi pins s σ H _ us Q I r ⟨_, _, _, _, b, rfl, .ty _, by rw [hK]; exact ty_at hp h1 et, kit_ty ek, q.now hp (by rfl)⟩
    · cases e
  · cases e
end
end MP
/-! MP, expressions: the text that an expression of the small language is read from, and that the layer's reading of this text follows its run. -/
namespace MP
open PySem L2

/-- what stands in the text: the slots' names, the names of the block, the defs' names, built-in names that the module leaves alone -/
structure Stc where
  N : List Str
  ns : List (Str × NameKind)
  fn : List Str
  bn : List Str

def visB (ns : List (Str × NameKind)) (x : Str) : Bool := match ns.lookup x with
  | some .local => true
  | some .cell => true
  | some .free => true
  | _ => false
def locB (ns : List (Str × NameKind)) (x : Str) : Bool := match ns.lookup x with
  | some .local => true
  | _ => false
def gloB (ns : List (Str × NameKind)) (x : Str) : Bool := match ns.lookup x with
  | some .globalImplicit => true
  | _ => false
def nameOk (x : Str) : Bool := !(x == ("__debug__" : Str)) && !(x == ("__classdict__" : Str)) && !(x == ("__name__" : Str))
def notStar : Expr → Bool
  | .Starred _ _ => false
  | _ => true
def noSuper : Expr → Bool
  | .Call (.Name id _) [] [] _ => id != "super"
  | _ => true
/-- a test that is asked as a value -/
def valTest : Expr → Bool
  | .Name _ _ => true
  | .Call _ _ _ _ => true
  | .Subscript _ _ _ => true
  | .Attribute _ _ _ => true
  | _ => false
def plainIx : Expr → Bool
  | .Slice _ _ _ _ => false
  | _ => true
def bmName : Bm → Str
  | .bits => "bit_length" | .reverse => "reverse"

mutual
def chkE (g : Stc) : E → Expr → Bool
  | .var i, x => match x with
    | .Name n _ => decide (g.N[i]? = some n) && visB g.ns n && nameOk n
    | _ => false
  | .con v, x => match v, x with
    | .int i, .Constant (.int j) _ _ => decide (i = j)
    | .str i, .Constant (.str j) _ _ => decide (i = j)
    | .bl i, .Constant (.bool j) _ _ => decide (i = j)
    | .non, .Constant .none _ _ => true
    | _, _ => false
  | .bt t, x => match x with
    | .Name n _ => gloB g.ns n && nameOk n && g.bn.contains n && decide (bootBuiltins n = some (.type t))
    | _ => false
  | .tup es, x => match x with
    | .Tuple xs _ _ => chkEs g es xs
    | _ => false
  | .lst _ es, x => match x with
    | .List xs _ => chkEs g es xs
    | _ => false
  | .bin op a b, x => match x with
    | .BinOp y o z _ => decide (op = o) && chkE g a y && chkE g b z
    | _ => false
  | .neg a, x => match x with
    | .UnaryOp .USub y _ => chkE g a y
    | _ => false
  | .cmp op a b, x => match x with
    | .Compare y [o] [z] _ => decide (op = o) && decide (o ≠ .In) && decide (o ≠ .NotIn) && chkE g a y && chkE g b z
    | _ => false
  | .and a b, x => match x with
    | .BoolOp .And (y :: ys) p => chkE g a y && (match ys with
      | [] => false
      | [z] => chkE g b z
      | _ => chkE g b (.BoolOp .And ys p))
    | _ => false
  | .or a b, x => match x with
    | .BoolOp .Or (y :: ys) p => chkE g a y && (match ys with
      | [] => false
      | [z] => chkE g b z
      | _ => chkE g b (.BoolOp .Or ys p))
    | _ => false
  | .not a, x => match x with
    | .UnaryOp .Not y _ => chkE g a y
    | _ => false
  | .ife t a b, x => match x with
    | .IfExp c y z _ => chkT g t c && chkE g a y && chkE g b z
    | _ => false
  | .cal f es, x => match x with
    | .Call (.Name n _) (y :: ys) [] _ => decide (g.fn[f]? = some n) && gloB g.ns n && nameOk n && chkEs g es (y :: ys)
    | _ => false
  | .bi f es, x => match x with
    | .Call (.Name n _) (y :: ys) [] _ => decide (biName f = n) && gloB g.ns n && g.bn.contains n && chkEs g es (y :: ys)
    | _ => false
  | .bm m o es, x => match es, x with
    | .nl, .Call (.Attribute y n ap) [] [] cp => decide (bmName m = n) && noSuper y && (ap.endLine == cp.line) && chkE g o y
    | _, _ => false
  | .ix a b, x => match x with
    | .Subscript y z _ => plainIx z && chkE g a y && chkE g b z
    | _ => false
  | _, _ => false
termination_by structural e => e
def chkEs (g : Stc) : E → List Expr → Bool
  | .nl, [] => true
  | .cs a r, y :: ys => notStar y && chkE g a y && chkEs g r ys
  | _, _ => false
termination_by structural e => e
def chkT (g : Stc) : E → Expr → Bool
  | .tst e, x => valTest x && chkE g e x
  | .cmp op a b, x => match x with
    | .Compare y [o] [z] _ => decide (op = o) && decide (o ≠ .In) && decide (o ≠ .NotIn) && chkE g a y && chkE g b z
    | _ => false
  | .and a b, x => match x with
    | .BoolOp .And (y :: ys) p => chkT g a y && (match ys with
      | [] => false
      | [z] => chkT g b z
      | _ => chkT g b (.BoolOp .And ys p))
    | _ => false
  | .or a b, x => match x with
    | .BoolOp .Or (y :: ys) p => chkT g a y && (match ys with
      | [] => false
      | [z] => chkT g b z
      | _ => chkT g b (.BoolOp .Or ys p))
    | _ => false
  | .not a, x => match x with
    | .UnaryOp .Not y _ => chkT g a y
    | _ => false
  | _, _ => false
termination_by structural e => e
end
end MP
/-! MP, expressions: the layer's reading of the text follows the run. -/
namespace MP
open PySem L2

/-- the promise of the i-th def by its run -/
def spI (C : Gc) (call : Nat → List Val → Heap → Res Val) (i n : Nat) : Sp := fun vs H Q E => vs.length = n ∧ ∃ m h args, HpOk C m h H ∧ RepL C m H args vs ∧
  RP C (fun cls d _ H' => E cls d H') m H [] (call i args h) fun v h' m' H' => ∀ x, RepV C m' H' v x → Q x H'

/-- where one stands in the text -/
structure Cok (g : Stc) (C : Gc) (Wx : WX) (k : Nat) (c : Cf) (X : Cx) : Prop where
  K : X.K = C.K
  N : X.N = g.N
  nd : g.N.Nodup
  ns : X.env.scope.names = g.ns
  kd : X.env.scope.kind = .function
  calm : X.calm = true
  room : Room k X.A
  tk : Takes X Wx
  po : PassesOwn (model X.prog X.w) X.A X.env X.xe
  fnc : ∀ x, X.env.scope.names.lookup x = some .cell → X.fn x = true
  bn : ∀ x, g.bn.contains x = true → X.mg x = none
  fn : ∀ (i : Nat) (x : Str), g.fn[i]? = some x → ∃ f fd ps, X.mg x = some (.ref f) ∧ PySem.W.keepIn X.K (.ref f) = true ∧ Binds X.K fd ps [] ∧
    (∀ args h, c.call i args h = .bad ∨ args.length = ps.length) ∧ FnOk X.prog X.w X.K X.mg X.base (L2.CX X.prog X.w) k f fd ps (spI C c.call i ps.length)

def tE (C : Gc) (Wx : WX) (c : Cf) (e : E) : TE := fun s H Q => ∃ m l h, HpOk C m h H ∧ LocOk C m H l s ∧ RP C Wx m H s (evalE c e l h) fun v h' m' H' => ∀ x, RepV C m' H' v x → Q x H'
def tEs (C : Gc) (Wx : WX) (c : Cf) (e : E) : TA := fun s H Q => ∃ m l h, HpOk C m h H ∧ LocOk C m H l s ∧ RP C Wx m H s (evalEs c e l h) fun v h' m' H' => ∀ x, RepL C m' H' v x → Q x H'
def tT (C : Gc) (Wx : WX) (c : Cf) (e : E) : TT := fun s H Q => ∃ m l h, HpOk C m h H ∧ LocOk C m H l s ∧ RP C Wx m H s (evalT c e l h) fun v h' m' H' => Q v H'

theorem star_of {y : Expr} {ys : List Expr} {env : Env} (h : notStar y = true) : starEach (y :: ys) env = (false, eval y env) :: starEach ys env := by
  cases y <;> first | rfl | cases h
theorem chkEs_star {g : Stc} {env : Env} : ∀ {es : E} {ys : List Expr}, chkEs g es ys = true → ∀ pos, (backTo pos (starEach ys env)).any (·.1) = false
  | .nl, [], _, pos => rfl
  | .cs a r, y :: ys, h, pos => by
    have h2 : (notStar y && chkE g a y && chkEs g r ys) = true := h
    simp only [Bool.and_eq_true] at h2
    rw [star_of h2.1.1]
    show (false || (backTo pos (starEach ys env)).any (·.1)) = false
    rw [chkEs_star h2.2 pos]
    rfl
theorem chkEs_cons {g : Stc} {env : Env} {es : E} {y : Expr} {ys : List Expr} (h : chkEs g es (y :: ys) = true) : starEach (y :: ys) env = (false, eval y env) :: starEach ys env ∧ ∀ pos, (backTo pos (starEach ys env)).any (·.1) = false := by
  cases es with
  | cs a r =>
    have h2 : (notStar y && chkE g a y && chkEs g r ys) = true := h
    simp only [Bool.and_eq_true] at h2
    exact ⟨star_of h2.1.1, chkEs_star h2.2⟩
  | _ => cases h
theorem nameOk_d {x : Str} (h : nameOk x = true) : (x == ("__debug__" : Str)) = false ∧ (x == ("__classdict__" : Str)) = false ∧ x ≠ "__name__" := by
  unfold nameOk at h
  simp only [Bool.and_eq_true, Bool.not_eq_true'] at h
  exact ⟨h.1.1, h.1.2, fun z => by rw [z] at h; simp at h⟩
theorem base_of {o : Expr} {n : Str} {env : Env} (h : noSuper o = true) : attributeBase o n env (eval o env) = eval o env := by
  unfold attributeBase
  split
  · rename_i id p pos
    have z : (id != "super") = true := h
    rw [z]
    rfl
  · rfl

section
variable {g : Stc} {C : Gc} {Wx : WX} {k : Nat} {c : Cf} {X : Cx}

theorem Cok.vis (ok : Cok g C Wx k c X) {x : Str} (h : visB g.ns x = true) : Vis X.env.scope x := by
  unfold visB at h
  rw [← ok.ns] at h
  unfold Vis
  split at h
  · exact .inl (by assumption)
  · exact .inr (.inl (by assumption))
  · exact .inr (.inr (by assumption))
  · cases h
theorem Cok.glo (ok : Cok g C Wx k c X) {x : Str} (h : gloB g.ns x = true) : Gl X x := by
  unfold gloB at h
  rw [← ok.ns] at h
  show X.env.scope.names.lookup x = some .globalImplicit
  split at h
  · assumption
  · cases h

theorem s_var (ok : Cok g C Wx k c X) {i : Nat} {x : Str} {pos : Pos} (h : (decide (g.N[i]? = some x) && visB g.ns x && nameOk x) = true) : PE X (.Name x pos) (tE C Wx c (.var i)) := by
  simp only [Bool.and_eq_true, decide_eq_true_eq] at h
  obtain ⟨⟨h1, h2⟩, h3⟩ := h
  obtain ⟨d1, d2, _⟩ := nameOk_d h3
  refine PE.imp (pe_var (i := i) (by rw [ok.N]; exact h1) (ok.vis h2) d1 d2) fun s H Q => ?_
  rintro ⟨m, l, h, hp, lo, r⟩
  unfold evalE at r
  split at r
  · rename_i v e
    obtain ⟨x, h1, h2⟩ := lo.get i v e
    exact ⟨x, h1, r.now hp x h2⟩
  · exact r.elim
theorem s_con (ok : Cok g C Wx k c X) {v : Val} {x : Expr} (h : chkE g (.con v) x = true) : PE X x (tE C Wx c (.con v)) := by
  have fin : ∀ {y : V} (s : St) (H : Hp) (Q : VK), (∀ m, RepV C m H v y) → tE C Wx c (.con v) s H Q → tC y s H Q := by
    rintro y s H Q hr ⟨m, l, h, hp, lo, r⟩
    exact r.now hp y (hr m)
  unfold chkE at h
  split at h
  · have e := of_decide_eq_true h
    subst e
    exact PE.imp pe_int fun s H Q => fin s H Q fun m => rfl
  · have e := of_decide_eq_true h
    subst e
    exact PE.imp pe_str fun s H Q => fin s H Q fun m => rfl
  · have e := of_decide_eq_true h
    subst e
    exact PE.imp pe_bl fun s H Q => fin s H Q fun m => rfl
  · exact PE.imp pe_non fun s H Q => fin s H Q fun m => rfl
  · cases h
theorem s_bt (ok : Cok g C Wx k c X) {t : String} {n : Str} {p : Pos} (h : (gloB g.ns n && nameOk n && g.bn.contains n && decide (bootBuiltins n = some (.type t))) = true) : PE X (.Name n p) (tE C Wx c (.bt t)) := by
  simp only [Bool.and_eq_true, decide_eq_true_eq] at h
  obtain ⟨⟨⟨h1, h2⟩, h3⟩, h4⟩ := h
  obtain ⟨d1, d2, d3⟩ := nameOk_d h2
  refine PE.imp (pe_bltn (v := .ty t) (ok.glo h1) (ok.bn n h3) h4 rfl d3 d1) fun s H Q => ?_
  rintro ⟨m, l, h, hp, lo, r⟩
  exact r.now hp (.ty t) rfl
theorem s_nl : PA X [] (tEs C Wx c .nl) := PA.imp pa_nil fun s H Q => by
  rintro ⟨m, l, h, hp, lo, r⟩
  exact r.now hp [] rfl
theorem s_cs {a r : E} {y : Expr} {ys : List Expr} (h : notStar y = true) (ha : PE X y (tE C Wx c a)) (hr : PA X ys (tEs C Wx c r)) : PA X (y :: ys) (tEs C Wx c (.cs a r)) :=
  PA.imp (pa_cons ha hr (star_of h)) fun s H Q => by
    rintro ⟨m, l, h, hp, lo, r⟩
    unfold evalEs at r
    refine ⟨m, l, h, hp, lo, r.bind.imp fun v h1 m1 H1 ev hp1 q x rx => ?_⟩
    refine ⟨m1, l, h1, hp1, lo.mono ev, q.bind.imp fun vs h2 m2 H2 ev2 hp2 q2 xs rxs => ?_⟩
    exact q2.now hp2 (x :: xs) ⟨x, xs, rfl, rx.mono ev2, rxs⟩
theorem s_tup {es : E} {ys : List Expr} {n : Nat} {p : Pos} (ha : PA X ys (tEs C Wx c es)) : PE X (.Tuple ys n p) (tE C Wx c (.tup es)) :=
  PE.imp (pe_tup ha) fun s H Q => by
    rintro ⟨m, l, h, hp, lo, r⟩
    unfold evalE at r
    refine ⟨m, l, h, hp, lo, r.bind.imp fun vs h1 m1 H1 ev hp1 q xs rx => ?_⟩
    by_cases hl : vs.length ≤ 1000
    · rw [if_pos hl] at q
      refine ⟨Nat.le_trans (by rw [rx.length]; exact hl) (by decide), fun a ha => ?_⟩
      obtain ⟨hp2, ev2⟩ := hp1.lay (u := .tup xs) ha
      exact q _ _ ev2 hp2 _ ⟨a, xs, rfl, .inl ⟨hp1.notIn ha, upd_same⟩, rx.mono ev2⟩
    · rw [if_neg hl] at q
      exact q.elim
theorem s_lst {b : Bool} {es : E} {ys : List Expr} {p : Pos} (ha : PA X ys (tEs C Wx c es)) : PE X (.List ys p) (tE C Wx c (.lst b es)) :=
  PE.imp (pe_lst ha) fun s H Q => by
    rintro ⟨m, l, h, hp, lo, r⟩
    unfold evalE at r
    refine ⟨m, l, h, hp, lo, r.bind.imp fun vs h1 m1 H1 ev hp1 q xs rx => ?_⟩
    by_cases hl : vs.length ≤ 1000
    · rw [if_pos hl] at q
      refine ⟨Nat.le_trans (by rw [rx.length]; exact hl) (by decide), fun a ha => ?_⟩
      cases b with
      | false =>
        obtain ⟨hp2, ev2⟩ := hp1.lay (u := .lst xs) ha
        rw [if_neg Bool.false_ne_true] at q
        exact q _ _ ev2 hp2 _ ⟨a, xs, rfl, .inl ⟨hp1.notIn ha, .inl upd_same⟩, rx.mono ev2⟩
      | true =>
        rw [if_pos rfl] at q
        by_cases hpu : pureL vs = true
        · rw [if_pos hpu] at q
          obtain ⟨hp2, ev2⟩ := hp1.grow ha rx hpu
          refine q _ _ ev2 hp2 _ ⟨a, rfl, ?_⟩
          rw [← hp1.len]
          simp
        · rw [if_neg hpu] at q
          exact q.elim
    · rw [if_neg hl] at q
      exact q.elim
theorem s_bin {op : Operator} {a b : E} {y z : Expr} {p : Pos} (ha : PE X y (tE C Wx c a)) (hb : PE X z (tE C Wx c b)) : PE X (.BinOp y op z p) (tE C Wx c (.bin op a b)) :=
  PE.imp (pe_op (op_bin op) ha hb) fun s H Q => by
    rintro ⟨m, l, h, hp, lo, r⟩
    unfold evalE at r
    refine ⟨m, l, h, hp, lo, r.bind.imp fun v h1 m1 H1 ev hp1 q x rx => ?_⟩
    refine ⟨m1, l, h1, hp1, lo.mono ev, q.bind.imp fun w h2 m2 H2 ev2 hp2 q2 y ry => ?_⟩
    cases e : binop op v w with
    | none =>
      rw [e] at q2
      exact q2.elim
    | some u =>
      rw [e] at q2
      exact ⟨m2, h2, v, w, u, hp2, rx.mono ev2, ry, e, fun z H3 ev3 hp3 rz => (show RP C Wx m2 H2 s (.ok u h2) _ from q2) _ _ ev3 hp3 z rz⟩
theorem s_neg {a : E} {y : Expr} {p : Pos} (ha : PE X y (tE C Wx c a)) : PE X (.UnaryOp .USub y p) (tE C Wx c (.neg a)) :=
  PE.imp (pe_un un_neg ha) fun s H Q => by
    rintro ⟨m, l, h, hp, lo, r⟩
    unfold evalE at r
    refine ⟨m, l, h, hp, lo, r.bind.imp fun v h1 m1 H1 ev hp1 q x rx => ?_⟩
    cases v with
    | int i =>
      cases (show x = V.int i from rx)
      exact ⟨i, rfl, fin1 q hp1 rfl⟩
    | _ => exact (show False from q).elim
theorem s_cmp {op : CmpOp} {a b : E} {y z : Expr} {p : Pos} (n1 : op ≠ .In) (n2 : op ≠ .NotIn) (ha : PE X y (tE C Wx c a)) (hb : PE X z (tE C Wx c b)) : PE X (.Compare y [op] [z] p) (tE C Wx c (.cmp op a b)) :=
  PE.imp (pe_cmpR (op_cmp op) ha hb (nomark _ n1 n2)) fun s H Q => by
    rintro ⟨m, l, h, hp, lo, r⟩
    unfold evalE at r
    refine ⟨m, l, h, hp, lo, r.bind.imp fun v h1 m1 H1 ev hp1 q x rx => ?_⟩
    refine ⟨m1, l, h1, hp1, lo.mono ev, q.bind.imp fun w h2 m2 H2 ev2 hp2 q2 y ry => ?_⟩
    cases e : cmpop op v w with
    | none =>
      rw [e] at q2
      exact q2.elim
    | some u =>
      rw [e] at q2
      exact ⟨m2, h2, v, w, u, hp2, rx.mono ev2, ry, e, fin1 q2 hp2 rfl⟩
theorem s_cmpT {op : CmpOp} {a b : E} {y z : Expr} {p : Pos} (n1 : op ≠ .In) (n2 : op ≠ .NotIn) (ha : PE X y (tE C Wx c a)) (hb : PE X z (tE C Wx c b)) : PT X (.Compare y [op] [z] p) (tT C Wx c (.cmp op a b)) :=
  PT.imp (pt_cmpR (op_cmp op) ha hb (nomark _ n1 n2)) fun s H Q => by
    rintro ⟨m, l, h, hp, lo, r⟩
    unfold evalT at r
    refine ⟨m, l, h, hp, lo, r.bind.imp fun v h1 m1 H1 ev hp1 q x rx => ?_⟩
    refine ⟨m1, l, h1, hp1, lo.mono ev, q.bind.imp fun w h2 m2 H2 ev2 hp2 q2 y ry => ?_⟩
    cases e : cmpop op v w with
    | none =>
      rw [e] at q2
      exact q2.elim
    | some u =>
      rw [e] at q2
      exact ⟨m2, h2, v, w, u, hp2, rx.mono ev2, ry, e, u, rfl, (show RP C Wx m2 H2 s (.ok u h2) _ from q2).now hp2⟩
theorem s_and {a b : E} {y z : Expr} {r : List Expr} {p : Pos} (ha : PE X y (tE C Wx c a)) (hb : PE X (.BoolOp .And (z :: r) p) (tE C Wx c b)) : PE X (.BoolOp .And (y :: z :: r) p) (tE C Wx c (.and a b)) :=
  PE.imp (pe_and ha hb) fun s H Q => by
    rintro ⟨m, l, h, hp, lo, r⟩
    unfold evalE at r
    refine ⟨m, l, h, hp, lo, r.bind.imp fun v h1 m1 H1 ev hp1 q x rx => ?_⟩
    cases v with
    | bl t =>
      cases (show x = V.bl t from rx)
      cases t with
      | true => exact ⟨true, rfl, by rw [if_pos rfl]; exact ⟨m1, l, h1, hp1, lo.mono ev, q⟩⟩
      | false => exact ⟨false, rfl, by rw [if_neg Bool.false_ne_true]; exact fin1 q hp1 rfl⟩
    | _ => exact (show False from q).elim
theorem s_or {a b : E} {y z : Expr} {r : List Expr} {p : Pos} (ha : PE X y (tE C Wx c a)) (hb : PE X (.BoolOp .Or (z :: r) p) (tE C Wx c b)) : PE X (.BoolOp .Or (y :: z :: r) p) (tE C Wx c (.or a b)) :=
  PE.imp (pe_or ha hb) fun s H Q => by
    rintro ⟨m, l, h, hp, lo, r⟩
    unfold evalE at r
    refine ⟨m, l, h, hp, lo, r.bind.imp fun v h1 m1 H1 ev hp1 q x rx => ?_⟩
    cases v with
    | bl t =>
      cases (show x = V.bl t from rx)
      cases t with
      | false => exact ⟨false, rfl, by rw [if_neg Bool.false_ne_true]; exact ⟨m1, l, h1, hp1, lo.mono ev, q⟩⟩
      | true => exact ⟨true, rfl, by rw [if_pos rfl]; exact fin1 q hp1 rfl⟩
    | _ => exact (show False from q).elim
theorem s_not {a : E} {y : Expr} {p : Pos} (ha : PE X y (tE C Wx c a)) : PE X (.UnaryOp .Not y p) (tE C Wx c (.not a)) :=
  PE.imp (pe_not ha) fun s H Q => by
    rintro ⟨m, l, h, hp, lo, r⟩
    unfold evalE at r
    refine ⟨m, l, h, hp, lo, r.bind.imp fun v h1 m1 H1 ev hp1 q x rx => ?_⟩
    cases v with
    | bl t =>
      cases (show x = V.bl t from rx)
      exact ⟨t, rfl, fin1 q hp1 rfl⟩
    | _ => exact (show False from q).elim
theorem s_ife {t a b : E} {x y z : Expr} {p : Pos} (ht : PT X x (tT C Wx c t)) (ha : PE X y (tE C Wx c a)) (hb : PE X z (tE C Wx c b)) : PE X (.IfExp x y z p) (tE C Wx c (.ife t a b)) :=
  PE.imp (pe_ifExp ht ha hb) fun s H Q => by
    rintro ⟨m, l, h, hp, lo, r⟩
    unfold evalE at r
    refine ⟨m, l, h, hp, lo, r.bind.imp fun v h1 m1 H1 ev hp1 q => ?_⟩
    cases v with
    | true => rw [if_pos rfl]; exact ⟨m1, l, h1, hp1, lo.mono ev, q⟩
    | false => rw [if_neg Bool.false_ne_true]; exact ⟨m1, l, h1, hp1, lo.mono ev, q⟩
theorem s_cal (ok : Cok g C Wx k c X) {f : Nat} {es : E} {n : Str} {y : Expr} {ys : List Expr} {p p2 : Pos} (h : (decide (g.fn[f]? = some n) && gloB g.ns n && nameOk n) = true) (he : chkEs g es (y :: ys) = true) (ha : PA X (y :: ys) (tEs C Wx c es)) :
    PE X (.Call (.Name n p) (y :: ys) [] p2) (tE C Wx c (.cal f es)) := by
  simp only [Bool.and_eq_true, decide_eq_true_eq] at h
  obtain ⟨⟨h1, h2⟩, h3⟩ := h
  obtain ⟨d1, d2, d3⟩ := nameOk_d h3
  obtain ⟨fa, fd, ps, hm, hk, hb, ar, F⟩ := ok.fn f n h1
  obtain ⟨st, sr⟩ := chkEs_cons (env := X.env) he
  refine PE.imp (pe_callS F ok.room (ok.glo h2) hm hk hb (fun σ => passAt ok.tk σ) ha d1 st (sr _)) fun s H Q => ?_
  rintro ⟨m, l, h, hp, lo, r⟩
  unfold evalE at r
  refine ⟨m, l, h, hp, lo, r.bind.imp fun vs h1 m1 H1 ev hp1 q xs rx => ?_⟩
  refine ⟨?_, m1, h1, vs, hp1, rx, ?_⟩
  · rcases ar vs h1 with z | z
    · rw [z] at q
      exact q.elim
    · rw [rx.length]
      exact z
  · cases e : c.call f vs h1 with
    | ok a h2 =>
      rw [e] at q
      exact q
    | exc c2 v h2 =>
      rw [e] at q
      exact q
    | bad =>
      rw [e] at q
      exact q.elim
theorem s_bi (ok : Cok g C Wx k c X) {f : Bi} {es : E} {n : Str} {y : Expr} {ys : List Expr} {p p2 : Pos} (h : (decide (biName f = n) && gloB g.ns n && g.bn.contains n) = true) (he : chkEs g es (y :: ys) = true) (ha : PA X (y :: ys) (tEs C Wx c es)) :
    PE X (.Call (.Name n p) (y :: ys) [] p2) (tE C Wx c (.bi f es)) := by
  simp only [Bool.and_eq_true, decide_eq_true_eq] at h
  obtain ⟨⟨h1, h2⟩, h3⟩ := h
  subst h1
  obtain ⟨st, sr⟩ := chkEs_cons (env := X.env) he
  have fin : ∀ s H Q, tE C Wx c (.bi f es) s H Q → tCB (rBi C f) (tEs C Wx c es) s H Q := by
    rintro s H Q ⟨m, l, h, hp, lo, r⟩
    unfold evalE at r
    refine ⟨m, l, h, hp, lo, r.bind.imp fun vs h1 m1 H1 ev hp1 q xs rx => ?_⟩
    cases e : biF h1 f vs with
    | none =>
      rw [e] at q
      exact q.elim
    | some u =>
      rw [e] at q
      exact ⟨m1, h1, vs, u, hp1, rx, e, fun z H3 ev3 hp3 rz => (show RP C Wx m1 H1 s (.ok u h1) _ from q) _ _ ev3 hp3 z rz⟩
  have hm := ok.bn _ h3
  have hg := ok.glo h2
  cases f with
  | abs => exact PE.imp (pe_callB (call_bi ok.K ok.calm .abs) hg hm PyProof.Rows.boot_abs ha (by decide) (by decide) st (sr _)) fin
  | max2 => exact PE.imp (pe_callB (call_bi ok.K ok.calm .max2) hg hm PyProof.Rows.boot_max ha (by decide) (by decide) st (sr _)) fin
  | min2 => exact PE.imp (pe_callB (call_bi ok.K ok.calm .min2) hg hm PyProof.Rows.boot_min ha (by decide) (by decide) st (sr _)) fin
  | len => exact PE.imp (pe_callB (call_bi ok.K ok.calm .len) hg hm PySem.boot_len ha (by decide) (by decide) st (sr _)) fin
  | int => exact PE.imp (pe_callTy (call_bi ok.K ok.calm .int) hg hm PyProof.Rows.boot_int ha (by decide) (by decide) st (sr _)) fin
  | isi => exact PE.imp (pe_callB (call_bi ok.K ok.calm .isi) hg hm PyProof.Rows.boot_isinstance ha (by decide) (by decide) st (sr _)) fin
theorem s_bm {b : Bm} {o : E} {n : Str} {y : Expr} {ap cp : Pos} (h : (decide (bmName b = n) && noSuper y && (ap.endLine == cp.line)) = true) (ha : PE X y (tE C Wx c o)) :
    PE X (.Call (.Attribute y n ap) [] [] cp) (tE C Wx c (.bm b o .nl)) := by
  simp only [Bool.and_eq_true, decide_eq_true_eq] at h
  obtain ⟨⟨h1, h2⟩, h3⟩ := h
  subst h1
  cases b with
  | bits =>
    refine PE.imp (pe_bits ha (base_of h2) h3) fun s H Q => ?_
    rintro ⟨m, l, h, hp, lo, r⟩
    unfold evalE at r
    refine ⟨m, l, h, hp, lo, r.bind.imp fun v h1 m1 H1 ev hp1 q x rx => ?_⟩
    cases v with
    | int i =>
      cases (show x = V.int i from rx)
      exact ⟨i, rfl, fin1 q hp1 rfl⟩
    | _ => exact (show False from q).elim
  | reverse =>
    refine PE.imp (pe_bm0 PySem.F.plainAttrs_list PySem.F.slot_list_reverse PySem.F.type_list_reverse mt_reverse ha (base_of h2) h3) fun s H Q => ?_
    rintro ⟨m, l, h, hp, lo, r⟩
    unfold evalE at r
    refine ⟨m, l, h, hp, lo, r.bind.imp fun v h1 m1 H1 ev hp1 q x rx => ?_⟩
    cases v with
    | ref n =>
      obtain ⟨a, rfl, ha⟩ := rx
      have q : RP C Wx m1 H1 s (Res.opt (match h1[n]? with | some (.lst xs) => some (Val.non, h1.set n (.lst xs.reverse)) | none => none) fun p => .ok p.1 p.2) _ := q
      cases e : h1[n]? with
      | none =>
        rw [e] at q
        exact q.elim
      | some ob =>
        cases ob with
        | lst xs =>
          rw [e] at q
          obtain ⟨vs, e1, r1, p1⟩ := hp1.obj n _ a e ha
          refine ⟨.inl ⟨rfl, _, SqL.of e1⟩, a, vs, rfl, rfl, e1, ?_⟩
          have hp2 := (hp1.put (o := .lst xs.reverse) (u := .lst vs.reverse) ha (RepO.put ha r1.reverse (refsLtL_mem.mpr fun x hx => refsLtL_mem.mp p1 x (List.mem_reverse.mp hx)))).1
          exact fin2 q (Evo.put ha) hp2 rfl
    | _ => exact (show False from q).elim
theorem ix_at {xs : List Val} {vs : List V} {m : List Addr} {H : Hp} {i : Int} {v : Val} (r : RepL C m H xs vs) (e : atI xs i = some v) : ∃ x, atI vs i = some x ∧ RepV C m H v x := by
  unfold atI at e ⊢
  rw [r.length]
  cases q : ixN xs.length i with
  | none =>
    rw [q] at e
    cases e
  | some j =>
    rw [q] at e
    obtain ⟨x, h1, h2⟩ := r.get (i := j) (v := v) e
    exact ⟨x, h1, h2⟩
theorem s_ix (ok : Cok g C Wx k c X) {a b : E} {y z : Expr} {p : Pos} (hz : plainIx z = true) (ha : PE X y (tE C Wx c a)) (hb : PE X z (tE C Wx c b)) : PE X (.Subscript y z p) (tE C Wx c (.ix a b)) :=
  PE.imp (pe_ix ix_seq ha hb (fun o i => by cases z <;> first | rfl | cases hz)) fun s H Q => by
    rintro ⟨m, l, h, hp, lo, r⟩
    unfold evalE at r
    refine ⟨m, l, h, hp, lo, r.bind.imp fun v h1 m1 H1 ev hp1 q x rx => ?_⟩
    refine ⟨m1, l, h1, hp1, lo.mono ev, q.bind.imp fun w h2 m2 H2 ev2 hp2 q2 y ry => ?_⟩
    cases w with
    | int i =>
      cases (show y = V.int i from ry)
      have q2 : RP C Wx m2 H2 s (Res.opt ((asSeq h2 v).bind fun xs => atI xs i) fun v => .ok v h2) _ := q2
      cases e : asSeq h2 v with
      | none =>
        rw [e] at q2
        exact q2.elim
      | some xs =>
        rw [e] at q2
        have q2 : RP C Wx m2 H2 s (Res.opt (atI xs i) fun v => .ok v h2) _ := q2
        cases e2 : atI xs i with
        | none =>
          rw [e2] at q2
          exact q2.elim
        | some u =>
          rw [e2] at q2
          obtain ⟨ad, vs, rfl, hs, hr⟩ := seq_at hp2 (rx.mono ev2) e
          rw [← ok.K] at hs
          obtain ⟨t, t1, t2⟩ := ix_at hr e2
          have q3 := fin1 q2 hp2 t2
          rcases hs with hs | hs
          · exact .inl ⟨ad, vs, i, t, rfl, rfl, hs, t1, q3⟩
          · exact .inr (.inl ⟨ad, vs, i, t, rfl, rfl, hs, t1, q3⟩)
    | _ => exact (show False from q2).elim

/-! ### tests -/
theorem s_tst {e : E} {y : Expr} (h : valTest y = true) (ha : PE X y (tE C Wx c e)) : PT X y (tT C Wx c (.tst e)) := by
  refine PT.imp (pt_val ha (fun w => by cases y <;> first | rfl | cases h)) fun s H Q => ?_
  rintro ⟨m, l, h, hp, lo, r⟩
  unfold evalT at r
  refine ⟨m, l, h, hp, lo, r.bind.imp fun v h1 m1 H1 ev hp1 q x rx => ?_⟩
  cases v with
  | bl b =>
    cases (show x = V.bl b from rx)
    exact ⟨b, rfl, (show RP C Wx m1 H1 s (.ok b h1) _ from q).now hp1⟩
  | _ => exact (show False from q).elim
theorem s_notT {e : E} {y : Expr} {p : Pos} (ha : PT X y (tT C Wx c e)) : PT X (.UnaryOp .Not y p) (tT C Wx c (.not e)) :=
  PT.imp (pt_not ha) fun s H Q => by
    rintro ⟨m, l, h, hp, lo, r⟩
    unfold evalT at r
    refine ⟨m, l, h, hp, lo, r.bind.imp fun v h1 m1 H1 ev hp1 q => ?_⟩
    exact (show RP C Wx m1 H1 s (.ok (!v) h1) _ from q).now hp1
theorem and_sub {a b : E} (s : St) (H : Hp) (Q : Bool → Hp → Prop) (z : tT C Wx c (.and a b) s H Q) : tAnd (tT C Wx c a) (tT C Wx c b) s H Q := by
  obtain ⟨m, l, h, hp, lo, r⟩ := z
  unfold evalT at r
  refine ⟨m, l, h, hp, lo, r.bind.imp fun v h1 m1 H1 ev hp1 q => ?_⟩
  cases v with
  | true => rw [if_pos rfl]; exact ⟨m1, l, h1, hp1, lo.mono ev, q⟩
  | false => rw [if_neg Bool.false_ne_true]; exact (show RP C Wx m1 H1 s (.ok false h1) _ from q).now hp1
theorem or_sub {a b : E} (s : St) (H : Hp) (Q : Bool → Hp → Prop) (z : tT C Wx c (.or a b) s H Q) : tOr (tT C Wx c a) (tT C Wx c b) s H Q := by
  obtain ⟨m, l, h, hp, lo, r⟩ := z
  unfold evalT at r
  refine ⟨m, l, h, hp, lo, r.bind.imp fun v h1 m1 H1 ev hp1 q => ?_⟩
  cases v with
  | false => rw [if_neg Bool.false_ne_true]; exact ⟨m1, l, h1, hp1, lo.mono ev, q⟩
  | true => rw [if_pos rfl]; exact (show RP C Wx m1 H1 s (.ok true h1) _ from q).now hp1

def isBool : Expr → Bool
  | .BoolOp _ _ _ => true
  | _ => false
mutual
theorem sndE (ok : Cok g C Wx k c X) : ∀ (e : E) (x : Expr), chkE g e x = true → PE X x (tE C Wx c e)
  | .var i, x, h => by
    unfold chkE at h
    split at h
    · exact s_var ok h
    · cases h
  | .con v, x, h => s_con ok h
  | .bt t, x, h => by
    unfold chkE at h
    split at h
    · exact s_bt ok h
    · cases h
  | .nl, x, h => by cases h
  | .cs a r, x, h => by cases h
  | .tup es, x, h => by
    unfold chkE at h
    split at h
    · exact s_tup (sndEs ok es _ h)
    · cases h
  | .lst b es, x, h => by
    unfold chkE at h
    split at h
    · exact s_lst (sndEs ok es _ h)
    · cases h
  | .bin op a b, x, h => by
    unfold chkE at h
    split at h
    · simp only [Bool.and_eq_true, decide_eq_true_eq] at h
      obtain ⟨⟨h1, h2⟩, h3⟩ := h
      subst h1
      exact s_bin (sndE ok a _ h2) (sndE ok b _ h3)
    · cases h
  | .neg a, x, h => by
    unfold chkE at h
    split at h
    · exact s_neg (sndE ok a _ h)
    · cases h
  | .cmp op a b, x, h => by
    unfold chkE at h
    split at h
    · simp only [Bool.and_eq_true, decide_eq_true_eq] at h
      obtain ⟨⟨⟨⟨h1, h2⟩, h3⟩, h4⟩, h5⟩ := h
      subst h1
      exact s_cmp h2 h3 (sndE ok a _ h4) (sndE ok b _ h5)
    · cases h
  | .and a b, x, h => by
    unfold chkE at h
    split at h
    · rename_i y ys p
      simp only [Bool.and_eq_true] at h
      obtain ⟨h1, h2⟩ := h
      cases ys with
      | nil => cases h2
      | cons z zs =>
        cases zs with
        | nil => exact s_and (sndE ok a _ h1) (pe_one (sndE ok b _ h2))
        | cons w ws => exact s_and (sndE ok a _ h1) (sndE ok b _ h2)
    · cases h
  | .or a b, x, h => by
    unfold chkE at h
    split at h
    · rename_i y ys p
      simp only [Bool.and_eq_true] at h
      obtain ⟨h1, h2⟩ := h
      cases ys with
      | nil => cases h2
      | cons z zs =>
        cases zs with
        | nil => exact s_or (sndE ok a _ h1) (pe_one (sndE ok b _ h2))
        | cons w ws => exact s_or (sndE ok a _ h1) (sndE ok b _ h2)
    · cases h
  | .not a, x, h => by
    unfold chkE at h
    split at h
    · exact s_not (sndE ok a _ h)
    · cases h
  | .tst e, x, h => by cases h
  | .ife t a b, x, h => by
    unfold chkE at h
    split at h
    · simp only [Bool.and_eq_true] at h
      obtain ⟨⟨h1, h2⟩, h3⟩ := h
      exact s_ife (sndT ok t _ h1).1 (sndE ok a _ h2) (sndE ok b _ h3)
    · cases h
  | .cal f es, x, h => by
    unfold chkE at h
    split at h
    · rw [Bool.and_eq_true] at h
      exact s_cal ok h.1 h.2 (sndEs ok es _ h.2)
    · cases h
  | .bi f es, x, h => by
    unfold chkE at h
    split at h
    · rw [Bool.and_eq_true] at h
      exact s_bi ok h.1 h.2 (sndEs ok es _ h.2)
    · cases h
  | .bm b o es, x, h => by
    unfold chkE at h
    split at h
    · rw [Bool.and_eq_true] at h
      exact s_bm h.1 (sndE ok o _ h.2)
    · cases h
  | .ix a b, x, h => by
    unfold chkE at h
    split at h
    · simp only [Bool.and_eq_true] at h
      obtain ⟨⟨h1, h2⟩, h3⟩ := h
      exact s_ix ok h1 (sndE ok a _ h2) (sndE ok b _ h3)
    · cases h
  | .iSeq e, x, h => by cases h
  | .iRng es, x, h => by cases h
theorem sndEs (ok : Cok g C Wx k c X) : ∀ (e : E) (x : List Expr), chkEs g e x = true → PA X x (tEs C Wx c e)
  | .nl, x, h => by
    cases x with
    | nil => exact s_nl
    | cons y ys => cases h
  | .cs a r, x, h => by
    cases x with
    | nil => cases h
    | cons y ys =>
      have h2 : (notStar y && chkE g a y && chkEs g r ys) = true := h
      simp only [Bool.and_eq_true] at h2
      exact s_cs h2.1.1 (sndE ok a _ h2.1.2) (sndEs ok r _ h2.2)
  | .var _, x, h | .con _, x, h | .bt _, x, h | .tup _, x, h | .lst _ _, x, h | .bin _ _ _, x, h | .neg _, x, h | .cmp _ _ _, x, h | .and _ _, x, h | .or _ _, x, h | .not _, x, h | .tst _, x, h | .ife _ _ _, x, h
  | .cal _ _, x, h | .bi _ _, x, h | .bm _ _ _, x, h | .ix _ _, x, h | .iSeq _, x, h | .iRng _, x, h => by cases h
theorem sndT (ok : Cok g C Wx k c X) : ∀ (e : E) (x : Expr), chkT g e x = true → PT X x (tT C Wx c e) ∧ (isBool x = true → PW X x (tT C Wx c e))
  | .tst e, x, h => by
    have h2 : (valTest x && chkE g e x) = true := h
    rw [Bool.and_eq_true] at h2
    exact ⟨s_tst h2.1 (sndE ok e _ h2.2), fun z => by cases x <;> first | (simp [isBool] at z; done) | (simp [valTest] at h2; done)⟩
  | .cmp op a b, x, h => by
    unfold chkT at h
    split at h
    · simp only [Bool.and_eq_true, decide_eq_true_eq] at h
      obtain ⟨⟨⟨⟨h1, h2⟩, h3⟩, h4⟩, h5⟩ := h
      subst h1
      exact ⟨s_cmpT h2 h3 (sndE ok a _ h4) (sndE ok b _ h5), fun z => by cases z⟩
    · cases h
  | .and a b, x, h => by
    unfold chkT at h
    split at h
    · rename_i y ys p
      simp only [Bool.and_eq_true] at h
      obtain ⟨h1, h2⟩ := h
      have w : PW X (.BoolOp .And (y :: ys) p) (tT C Wx c (.and a b)) := by
        cases ys with
        | nil => cases h2
        | cons z zs =>
          cases zs with
          | nil => exact PW.imp (pw_and (sndT ok a _ h1).1 (pw_and1 (sndT ok b _ h2).1)) and_sub
          | cons w ws => exact PW.imp (pw_and (sndT ok a _ h1).1 ((sndT ok b _ h2).2 rfl)) and_sub
      exact ⟨w.pt, fun _ => w⟩
    · cases h
  | .or a b, x, h => by
    unfold chkT at h
    split at h
    · rename_i y ys p
      simp only [Bool.and_eq_true] at h
      obtain ⟨h1, h2⟩ := h
      have w : PW X (.BoolOp .Or (y :: ys) p) (tT C Wx c (.or a b)) := by
        cases ys with
        | nil => cases h2
        | cons z zs =>
          cases zs with
          | nil => exact PW.imp (pw_or (sndT ok a _ h1).1 (pw_or1 (sndT ok b _ h2).1)) or_sub
          | cons w ws => exact PW.imp (pw_or (sndT ok a _ h1).1 ((sndT ok b _ h2).2 rfl)) or_sub
      exact ⟨w.pt, fun _ => w⟩
    · cases h
  | .not a, x, h => by
    unfold chkT at h
    split at h
    · exact ⟨s_notT (sndT ok a _ h).1, fun z => by cases z⟩
    · cases h
  | .var _, x, h | .con _, x, h | .bt _, x, h | .nl, x, h | .cs _ _, x, h | .tup _, x, h | .lst _ _, x, h | .bin _ _ _, x, h | .neg _, x, h | .ife _ _ _, x, h
  | .cal _ _, x, h | .bi _ _, x, h | .bm _ _ _, x, h | .ix _ _, x, h | .iSeq _, x, h | .iRng _, x, h => by cases h
end
end
end MP
/-! MP, statements. -/
namespace MP
open PySem L2

def locCB (ns : List (Str × NameKind)) (x : Str) : Bool := match ns.lookup x with
  | some .local => true
  | some .cell => true
  | _ => false
def noComp : Expr → Bool
  | .ListComp _ _ _ _ => false
  | .SetComp _ _ _ _ => false
  | .DictComp _ _ _ _ _ => false
  | _ => true
def notSet : Expr → Bool
  | .Set _ _ _ => false
  | _ => true
/-- a tuple of written things on the right of a tuple of names -/
def tupFolds : Expr → Expr → Bool
  | .Tuple _ _ _, .Tuple vs _ _ => !(vs.any fun | .Starred .. => true | _ => false) && vs.all (foldedForSure 8)
  | _, _ => true
mutual
def chkTg (g : Stc) : T → Expr → Bool
  | .nm i, x => match x with
    | .Name n _ => decide (g.N[i]? = some n) && locCB g.ns n
    | _ => false
  | .tup ts, x => match x with
    | .Tuple xs _ _ => chkTgs g ts xs
    | _ => false
  | _, _ => false
termination_by structural t => t
def chkTgs (g : Stc) : T → List Expr → Bool
  | .nl, [] => true
  | .cs t r, y :: ys => notStar y && chkTg g t y && chkTgs g r ys
  | _, _ => false
termination_by structural t => t
end
def chkI (g : Stc) : E → Expr → Bool
  | .iSeq e, x => notSet x && chkE g e x
  | .iRng es, x => match x with
    | .Call (.Name n _) [y] [] _ => decide (n = ("range" : Str)) && gloB g.ns n && g.bn.contains n && chkEs g es [y]
    | _ => false
  | _, _ => false
mutual
def chkS (g : Stc) : S → Stmt → Bool
  | .asg t e, st => match st with
    | .Assign [x] y _ => (match t, x with
        | .nm _, .Name _ _ => true
        | .tup _, .Tuple _ _ _ => tupFolds x y
        | _, _ => false) && noComp y && chkTg g t x && chkE g e y
    | _ => false
  | .par i j es, st => match st with
    | .Assign [.Tuple [.Name x px, .Name y py] _ _] (.Tuple [u, v] _ _) _ =>
      decide (g.N[i]? = some x) && decide (g.N[j]? = some y) && decide (i ≠ j) && decide (x ≠ y) && locB g.ns x && locB g.ns y && (py.line == px.line) && notStar u && notStar v
        && !([u, v].all (foldedForSure 8)) && !([u, v].all (constantsAlone 8)) && chkEs g es [u, v]
    | _ => false
  | .setix o i e, st => match st with
    | .Assign [.Subscript x y _] z _ => plainIx y && noComp z && chkE g o x && chkE g i y && chkE g e z
    | _ => false
  | .ret e, st => match st with
    | .Return (some x) _ => chkE g e x
    | _ => false
  | .exp e, st => match st with
    | .Expr x _ => noComp x && chkE g e x
    | _ => false
  | .ite t a b, st => match st with
    | .If x ys zs _ => chkT g t x && chkSs g a ys && chkSs g b zs
    | _ => false
  | .whl t b, st => match st with
    | .While x ys [] _ => chkT g t x && chkSs g b ys
    | _ => false
  | .for_ t it b, st => match st with
    | .For tg x ys [] _ => notSet x && chkTg g t tg && chkI g it x && chkSs g b ys
    | _ => false
  | _, _ => false
termination_by structural s => s
def chkSs (g : Stc) : S → List Stmt → Bool
  | .nop, [] => true
  | .seq s r, y :: ys => chkS g s y && chkSs g r ys
  | .scope b, ys => chkSs g b ys
  | _, _ => false
termination_by structural s => s
end

/-- how a statement's end is to be met -/
def OutP (C : Gc) (Wx : WX) (m : List Addr) (H : Hp) (o : Out) (D : Ends) : Prop :=
  match o with
  | .nx l h => ∀ m' s' H', Evo m H m' H' → HpOk C m' h H' → LocOk C m' H' l s' → D.nx s' H'
  | .rt v h => ∀ m' x H', Evo m H m' H' → HpOk C m' h H' → RepV C m' H' v x → D.rt x H'
  | .bk l h => ∀ m' s' H', Evo m H m' H' → HpOk C m' h H' → LocOk C m' H' l s' → D.bk s' H'
  | .ct l h => ∀ m' s' H', Evo m H m' H' → HpOk C m' h H' → LocOk C m' H' l s' → D.ct s' H'
  | .exc c v l h => ∀ m' s' H' d x, Evo m H m' H' → HpOk C m' h H' → LocOk C m' H' l s' → RepV C m' H' v x → H' d = some (.xd [((C.cl c).2, x)]) → d ∉ m' → Wx (.ref (C.cl c).1) (some d) s' H'
  | .bad => False
def tS (C : Gc) (Wx : WX) (c : Cf) (s : S) : TS := fun D σ H => ∃ m l h, HpOk C m h H ∧ LocOk C m H l σ ∧ OutP C Wx m H (run c s l h) D
section
variable {C : Gc} {Wx : WX} {m m1 : List Addr} {H H1 : Hp} {s : St} {D : Ends}
theorem OutP.weak {o : Out} (x : OutP C Wx m H o D) (e : Evo m H m1 H1) : OutP C Wx m1 H1 o D := by
  cases o with
  | nx l h => exact fun m' s' H' ev => x m' s' H' (e.trans ev)
  | rt v h => exact fun m' s' H' ev => x m' s' H' (e.trans ev)
  | bk l h => exact fun m' s' H' ev => x m' s' H' (e.trans ev)
  | ct l h => exact fun m' s' H' ev => x m' s' H' (e.trans ev)
  | exc c v l h => exact fun m' s' H' d y ev => x m' s' H' d y (e.trans ev)
  | bad => exact x
/-- an expression's part -/
theorem OutP.res {A : Type} {r : Res A} {l : Loc} {k : A → Heap → Out} (x : OutP C Wx m H (r.out l k) D) (lo : LocOk C m H l s) : RP C Wx m H s r fun a h m' H' => OutP C Wx m' H' (k a h) D := by
  cases r with
  | ok a h => exact fun m' H' ev hp => OutP.weak (show OutP C Wx m H (k a h) D from x) ev
  | exc c v h => exact fun m' H' d y ev hp rv hd nd => x m' s H' d y ev hp (lo.mono ev) rv hd nd
  | bad => exact x
/-- .. a further one, behind it -/
theorem OutP.thn {o : Out} {k : Loc → Heap → Out} (x : OutP C Wx m H (o.thn k) D) (y : ∀ l h m' s' H', Evo m H m' H' → HpOk C m' h H' → LocOk C m' H' l s' → OutP C Wx m' H' (k l h) D → D1.nx s' H')
    (h1 : D1.rt = D.rt) (h2 : D1.bk = D.bk) (h3 : D1.ct = D.ct) : OutP C Wx m H o D1 := by
  cases o with
  | nx l h => exact fun m' s' H' ev hp lo => y l h m' s' H' ev hp lo (OutP.weak (show OutP C Wx m H (k l h) D from x) ev)
  | rt v h => exact fun m' s' H' ev hp r => by rw [h1]; exact x m' s' H' ev hp r
  | bk l h => exact fun m' s' H' ev hp r => by rw [h2]; exact x m' s' H' ev hp r
  | ct l h => exact fun m' s' H' ev hp r => by rw [h3]; exact x m' s' H' ev hp r
  | exc c v l h => exact x
  | bad => exact x
theorem OutP.turn {o : Out} {k : Loc → Heap → Out} {N : St → Hp → Prop} (x : OutP C Wx m H (o.turn k) D) (y : ∀ l h m' s' H', Evo m H m' H' → HpOk C m' h H' → LocOk C m' H' l s' → OutP C Wx m' H' (k l h) D → N s' H') :
    OutP C Wx m H o { D with nx := N, ct := N, bk := D.nx } := by
  cases o with
  | nx l h => exact fun m' s' H' ev hp lo => y l h m' s' H' ev hp lo (OutP.weak (show OutP C Wx m H (k l h) D from x) ev)
  | rt v h => exact x
  | bk l h => exact x
  | ct l h => exact fun m' s' H' ev hp lo => y l h m' s' H' ev hp lo (OutP.weak (show OutP C Wx m H (k l h) D from x) ev)
  | exc c v l h => exact x
  | bad => exact x
/-- what was made is forgotten -/
theorem trim_ok {h h1 : Heap} {l1 : Loc} (e : Evo m H m1 H1) (hp : HpOk C m h H) (hp1 : HpOk C m1 h1 H1) (lo : LocOk C m1 H1 l1 s) : Evo m H m H1 ∧ HpOk C m (h1.take h.length) H1 ∧ LocOk C m H1 (trimL h.length l1) s := by
  obtain ⟨n, en⟩ := e.pre
  have sub : ∀ a o, H1 a = some o → a ∉ m1 → a ∉ m := fun a o _ na z => na (by rw [en]; exact List.mem_append_left _ z)
  have ix : ∀ (k : Nat) a, k < h.length → m1[k]? = some a → m[k]? = some a := fun k a hk q => by
    rw [en, List.getElem?_append_left (by rw [hp.len]; exact hk)] at q
    exact q
  refine ⟨⟨⟨[], by simp⟩, fun a ha na => absurd ha na, e.keep⟩, ⟨?_, hp.nd, fun k o a hk ha => ?_⟩, ⟨?_, fun i v q => ?_⟩⟩
  · have z := hp1.len
    rw [en, List.length_append] at z
    rw [List.length_take, hp.len]
    have := hp.len
    omega
  · have hl : k < h.length := by
      rw [← hp.len]
      exact (List.getElem?_eq_some_iff.mp ha).1
    rw [List.getElem?_take_of_lt hl] at hk
    have ha1 : m1[k]? = some a := by
      rw [en, List.getElem?_append_left (by rw [hp.len]; exact hl)]
      exact ha
    have z := hp1.obj k o a hk ha1
    cases o with
    | lst xs =>
      obtain ⟨vs, e1, r1, p1⟩ := z
      exact ⟨vs, e1, r1.place sub (fun n a hn => absurd hn (Nat.not_lt_zero n)) p1, p1⟩
  · unfold trimL
    rw [List.length_map]
    exact lo.len
  · unfold trimL at q
    rw [List.getElem?_map] at q
    cases q1 : l1[i]? with
    | none => rw [q1] at q; cases q
    | some w =>
      rw [q1] at q
      cases w with
      | none => cases q
      | some u =>
        have q : some (if refsLt h.length u = true then some u else none) = some (some v) := q
        by_cases hu : refsLt h.length u = true
        · rw [if_pos hu] at q
          cases q
          obtain ⟨x, h1, h2⟩ := lo.get i _ q1
          exact ⟨x, h1, h2.place sub ix hu⟩
        · rw [if_neg hu] at q
          cases q
theorem OutP.trim {o : Out} {h : Heap} (hp : HpOk C m h H) (x : OutP C Wx m H (o.trim h.length) D) : OutP C Wx m H o D := by
  cases o with
  | nx l h1 => exact fun m' s' H' ev hp1 lo => let ⟨a, b, d⟩ := trim_ok ev hp hp1 lo; x m s' H' a b d
  | rt v h1 => exact x
  | bk l h1 => exact fun m' s' H' ev hp1 lo => let ⟨a, b, d⟩ := trim_ok ev hp hp1 lo; x m s' H' a b d
  | ct l h1 => exact fun m' s' H' ev hp1 lo => let ⟨a, b, d⟩ := trim_ok ev hp hp1 lo; x m s' H' a b d
  | exc c v l h1 => exact x
  | bad => exact x
end

section
variable {g : Stc} {C : Gc} {Wx : WX} {k : Nat} {c : Cf} {X : Cx}
/-! ### targets -/
def gT (C : Gc) (t : T) : TG := fun x s H Q => ∃ m l v l', LocOk C m H l s ∧ RepV C m H v x ∧ store t v l = some l' ∧ ∀ s', LocOk C m H l' s' → Q s' H
def gTs (C : Gc) (t : T) : TGs := fun xs s H Q => ∃ m l vs l', LocOk C m H l s ∧ RepL C m H vs xs ∧ storeL t vs l = some l' ∧ ∀ s', LocOk C m H l' s' → Q s' H
theorem PG.imp {tg : Expr} {t t' : TG} (h : PG X tg t) (f : ∀ v s H Q, t' v s H Q → t v s H Q) : PG X tg t' := ⟨fun pins s σ H v u Q I r q => h.run pins s σ H v u Q I r (f _ _ _ _ q)⟩
theorem PGs.imp {tg : List Expr} {t t' : TGs} (h : PGs X tg t) (f : ∀ v s H Q, t' v s H Q → t v s H Q) : PGs X tg t' := ⟨fun pins s σ H v u Q I r q => h.run pins s σ H v u Q I r (f _ _ _ _ q)⟩
theorem each_of {y : Expr} {ys : List Expr} {env : Env} (h : notStar y = true) : assignEach (y :: ys) env = (false, assign y env) :: assignEach ys env := by
  cases y <;> first | rfl | cases h
theorem chkTgs_each {env : Env} : ∀ {ts : T} {ys : List Expr}, chkTgs g ts ys = true → (assignEach ys env).findIdx? (·.1) = none ∧ (assignEach ys env).length = ys.length
  | .nl, [], _ => ⟨rfl, rfl⟩
  | .cs t r, y :: ys, h => by
    have h2 : (notStar y && chkTg g t y && chkTgs g r ys) = true := h
    simp only [Bool.and_eq_true] at h2
    obtain ⟨a, b⟩ := chkTgs_each (env := env) h2.2
    rw [each_of h2.1.1]
    exact ⟨by rw [List.findIdx?_cons]; simp [a], by simp [b]⟩
theorem storeL_len : ∀ {t : T} {vs : List Val} {l l' : Loc} {ys : List Expr}, storeL t vs l = some l' → chkTgs g t ys = true → vs.length = ys.length
  | .nl, vs, l, l', ys, e, h => by
    cases ys with
    | nil =>
      cases vs with
      | nil => rfl
      | cons _ _ => cases e
    | cons _ _ => cases h
  | .cs t r, vs, l, l', ys, e, h => by
    cases ys with
    | nil => cases h
    | cons y ys =>
      cases vs with
      | nil => cases e
      | cons v vs =>
        have h2 : (notStar y && chkTg g t y && chkTgs g r ys) = true := h
        simp only [Bool.and_eq_true] at h2
        have e : (store t v l).bind (fun l1 => storeL r vs l1) = some l' := e
        cases q : store t v l with
        | none => rw [q] at e; cases e
        | some l1 =>
          rw [q] at e
          show vs.length + 1 = ys.length + 1
          rw [storeL_len (t := r) e h2.2]
  | .nm _, vs, l, l', ys, e, h => by cases h
  | .tup _, vs, l, l', ys, e, h => by cases h
mutual
theorem sndTg (ok : Cok g C Wx k c X) : ∀ (t : T) (x : Expr), chkTg g t x = true → PG X x (gT C t)
  | .nm i, x, h => by
    unfold chkTg at h
    split at h
    · rename_i n p
      simp only [Bool.and_eq_true, decide_eq_true_eq] at h
      obtain ⟨h1, h2⟩ := h
      have hL : L2.Loc X.env.scope n ∧ (X.fn n = true ∨ X.env.scope.names.lookup n = some .local) := by
        unfold locCB at h2
        rw [← ok.ns] at h2
        split at h2
        · rename_i e
          exact ⟨.inl e, .inr e⟩
        · rename_i e
          exact ⟨.inr e, .inl (ok.fnc n e)⟩
        · cases h2
      refine PG.imp (pg_name (i := i) (by rw [ok.N]; exact ok.nd) (by rw [ok.N]; exact h1) hL.1 hL.2) fun v s H Q => ?_
      rintro ⟨m, l, w, l', lo, r, e, q⟩
      cases e
      exact q _ (lo.set i r)
    · cases h
  | .tup ts, x, h => by
    unfold chkTg at h
    split at h
    · rename_i xs n p
      obtain ⟨a, b⟩ := chkTgs_each (env := X.env) h
      refine PG.imp (pg_tup ok.calm (sndTgs ok ts xs h) b a) fun v s H Q => ?_
      rintro ⟨m, l, w, l', lo, r, e, q⟩
      cases w with
      | tup vs =>
        obtain ⟨ad, ys, rfl, ha, hr⟩ := r
        have e : storeL ts vs l = some l' := e
        exact ⟨ad, ys, rfl, by rw [ok.K]; exact ha.sq, by rw [hr.length, storeL_len e h], m, l, vs, l', lo, hr, e, q⟩
      | _ => cases e
    · cases h
  | .nl, x, h => by cases h
  | .cs _ _, x, h => by cases h
theorem sndTgs (ok : Cok g C Wx k c X) : ∀ (t : T) (x : List Expr), chkTgs g t x = true → PGs X x (gTs C t)
  | .nl, x, h => by
    cases x with
    | nil =>
      refine PGs.imp pgs_nil fun v s H Q => ?_
      rintro ⟨m, l, w, l', lo, r, e, q⟩
      cases w with
      | nil =>
        cases e
        exact ⟨r, q s lo⟩
      | cons _ _ => cases e
    | cons _ _ => cases h
  | .cs t r, x, h => by
    cases x with
    | nil => cases h
    | cons y ys =>
      have h2 : (notStar y && chkTg g t y && chkTgs g r ys) = true := h
      simp only [Bool.and_eq_true] at h2
      refine PGs.imp (pgs_cons (sndTg ok t y h2.1.2) (sndTgs ok r ys h2.2) (by rw [each_of h2.1.1]; rfl)) fun v s H Q => ?_
      rintro ⟨m, l, w, l', lo, rr, e, q⟩
      cases w with
      | nil => cases e
      | cons v0 vs =>
        obtain ⟨x0, xs, rfl, r1, r2⟩ := rr
        have e : (store t v0 l).bind (fun l1 => storeL r vs l1) = some l' := e
        cases q1 : store t v0 l with
        | none => rw [q1] at e; cases e
        | some l1 =>
          rw [q1] at e
          exact ⟨x0, xs, rfl, m, l, v0, l1, lo, r1, q1, fun s1 lo1 => ⟨m, l1, vs, l', lo1, r2, e, q⟩⟩
  | .nm _, x, h => by cases h
  | .tup _, x, h => by cases h
end
end
end MP
/-! MP, loops and statements. -/
namespace MP
open PySem L2

/-- an iterator of the layer walks the items xs -/
def Walks (C : Gc) (m : List Addr) (H : Hp) (J : It) (xs : List Val) : Prop := ∀ m' H', Evo m H m' H' → ∀ i : Nat, (xs.length ≤ i → J.stop i H') ∧
  ∀ v, xs[i]? = some v → J.go i H' ∧ ∀ x H2, J.yld i H' x H2 → Evo m' H' m' H2 ∧ (∀ h, HpOk C m' h H' → HpOk C m' h H2) ∧ RepV C m' H2 v x
def tI (C : Gc) (Wx : WX) (c : Cf) (e : E) : TI := fun s H R => ∃ m l h, HpOk C m h H ∧ LocOk C m H l s ∧ RP C Wx m H s (evalI c e l h) fun xs _ m' H' => ∀ J, Walks C m' H' J xs → R J H'
theorem rangeL_len : ∀ (n : Nat) (lo : Int), (rangeL lo n).length = n
  | 0, _ => rfl
  | n + 1, lo => by show (rangeL (lo + 1) n).length + 1 = n + 1; rw [rangeL_len n]
theorem rangeL_get : ∀ (n : Nat) (lo : Int) (i : Nat), i < n → (rangeL lo n)[i]? = some (.int (lo + i))
  | n + 1, lo, 0, _ => by show some (Val.int lo) = _; simp
  | n + 1, lo, i + 1, h => by
    show (rangeL (lo + 1) n)[i]? = _
    rw [rangeL_get n (lo + 1) i (by omega)]
    have e : lo + 1 + (i : Int) = lo + ((i + 1 : Nat) : Int) := by omega
    rw [e]
section
variable {g : Stc} {C : Gc} {Wx : WX} {k : Nat} {c : Cf} {X : Cx}
theorem walks_list {m : List Addr} {H : Hp} {a : Addr} {vs : List V} {xs : List Val} (ha : LAt C m H a vs) (r : RepL C m H xs vs) : Walks C m H (Itl C.K a) xs := by
  intro m' H' ev i
  have h1 := (ev.lat ha).sq
  have h2 := r.mono ev
  refine ⟨fun hi => ⟨vs, h1, by rw [h2.length]; exact hi⟩, fun v hv => ?_⟩
  obtain ⟨x, hx, rx⟩ := h2.get hv
  refine ⟨⟨vs, x, h1, hx⟩, fun y H2 ⟨e, f⟩ => ?_⟩
  subst e
  have e2 : x = y := Option.some.inj (hx.symm.trans (f vs h1))
  subst e2
  exact ⟨Evo.refl _ _, fun h q => q, rx⟩
theorem walks_tup {m : List Addr} {H : Hp} {a : Addr} {vs : List V} {xs : List Val} (ha : TAt C m H a vs) (r : RepL C m H xs vs) : Walks C m H (Itt C.K a) xs := by
  intro m' H' ev i
  have h1 := (ev.tat ha).sq
  have h2 := r.mono ev
  refine ⟨fun hi => ⟨vs, h1, by rw [h2.length]; exact hi⟩, fun v hv => ?_⟩
  obtain ⟨x, hx, rx⟩ := h2.get hv
  refine ⟨⟨vs, x, h1, hx⟩, fun y H2 ⟨e, f⟩ => ?_⟩
  subst e
  have e2 : x = y := Option.some.inj (hx.symm.trans (f vs h1))
  subst e2
  exact ⟨Evo.refl _ _, fun h q => q, rx⟩
theorem walks_range {m : List Addr} {H : Hp} {n : Nat} {lo : Int} : Walks C m H (Itr lo n) (rangeL lo n) := by
  intro m' H' ev i
  refine ⟨fun hi => by rw [rangeL_len] at hi; exact hi, fun v hv => ?_⟩
  have hl : i < n := by
    have z := (List.getElem?_eq_some_iff.mp hv).1
    rw [rangeL_len] at z
    exact z
  rw [rangeL_get n lo i hl] at hv
  cases hv
  refine ⟨hl, fun y H2 ⟨e, f⟩ => ?_⟩
  subst e f
  exact ⟨Evo.refl _ _, fun h q => q, rfl⟩
theorem pi_or {tg it : Expr} {t t' : TI} (h : PI X tg it t) (h' : PI X tg it t') : PI X tg it (fun s H R => t s H R ∨ t' s H R) := ⟨fun pins s σ H R I q => by
  rcases q with q | q
  · exact h.run pins s σ H R I q
  · exact h'.run pins s σ H R I q⟩
theorem sndI (ok : Cok g C Wx k c X) {tg : Expr} : ∀ (e : E) (x : Expr), chkI g e x = true → PI X tg x (tI C Wx c e) ∧ ∀ y, foldedSetIterable x X.env y = pure y := by
  intro e x h
  cases e with
  | iSeq e =>
    have h2 : (notSet x && chkE g e x) = true := h
    rw [Bool.and_eq_true] at h2
    have P := sndE ok e x h2.2
    refine ⟨PI.imp (pi_or (pi_list P) (pi_tup P)) fun s H R => ?_, fun y => by cases x <;> first | rfl | cases h2.1⟩
    rintro ⟨m, l, h, hp, lo, r⟩
    have r : RP C Wx m H s ((evalE c e l h).bind seqItems) _ := r
    cases q : evalE c e l h with
    | ok v h1 =>
      rw [q] at r
      cases v with
      | lst xs =>
        refine .inl ⟨m, l, h, hp, lo, ?_⟩
        rw [q]
        intro m' H' ev hp' x rx
        obtain ⟨a, vs, rfl, ha, hr⟩ := rx
        rw [ok.K]
        exact ⟨a, rfl, ⟨vs, ha.sq⟩, (show RP C Wx m H s (.ok xs h1) _ from r) m' H' ev hp' _ (walks_list ha hr)⟩
      | tup xs =>
        refine .inr ⟨m, l, h, hp, lo, ?_⟩
        rw [q]
        intro m' H' ev hp' x rx
        obtain ⟨a, vs, rfl, ha, hr⟩ := rx
        rw [ok.K]
        exact ⟨a, rfl, ⟨vs, ha.sq⟩, (show RP C Wx m H s (.ok xs h1) _ from r) m' H' ev hp' _ (walks_tup ha hr)⟩
      | _ => exact (show False from r).elim
    | exc c2 v h1 =>
      rw [q] at r
      refine .inl ⟨m, l, h, hp, lo, ?_⟩
      rw [q]
      exact r
    | bad =>
      rw [q] at r
      exact r.elim
  | iRng es =>
    dsimp only [chkI] at h
    split at h
    · rename_i n p y p2
      simp only [Bool.and_eq_true, decide_eq_true_eq] at h
      obtain ⟨⟨⟨h1, h2⟩, h3⟩, h4⟩ := h
      subst h1
      refine ⟨?_, fun y => rfl⟩
      have st := (chkEs_cons (env := X.env) h4).1
      refine PI.imp (pi_range1 (ok.glo h2) (ok.bn _ h3) (sndEs ok es _ h4) st) fun s H R => ?_
      rintro ⟨m, l, h, hp, lo, r⟩
      have r : RP C Wx m H s ((evalEs c es l h).bind rngItems) _ := r
      refine ⟨m, l, h, hp, lo, r.bind.imp fun vs h1 m' H' ev hp' z xs rx => ?_⟩
      unfold rngItems at z
      split at z
      · rename_i j
        obtain ⟨x0, r0, rfl, rx, rfl⟩ := rx
        cases (show x0 = V.int j from rx)
        by_cases cj : j < 2 ^ 62 ∧ -(2 ^ 62) ≤ j
        · rw [if_pos cj] at z
          exact ⟨j, rfl, cj.2, cj.1, z.now hp' _ walks_range⟩
        · rw [if_neg cj] at z
          exact z.elim
      · exact z.elim
    · cases h
  | _ => cases h

/-! ### statements -/
theorem swaps_no {e t : Expr} {n : Nat} {env : Env} (h : noComp e = true) : swapsWith e (some t) n env = pure false := by
  cases e <;> first | rfl | cases h
theorem swapsN_no {e : Expr} {n : Nat} {env : Env} (h : noComp e = true) : swapsWith e none n env = pure false := by
  cases e <;> first | rfl | cases h
theorem folds_none {ts vs : List Expr} {k1 k2 : Nat} {p1 p2 : Pos} {env : Env} (h : (!(vs.any fun | .Starred .. => true | _ => false) && vs.all (foldedForSure 8)) = true) : swappedStores [.Tuple ts k1 p1] (.Tuple vs k2 p2) env = pure none := by
  rw [Bool.and_eq_true] at h
  unfold swappedStores
  simp only [h.2]
  split
  · rfl
  · split
    · rfl
    · split
      · rfl
      · rfl
theorem par_some {x y : Str} {px py p1 p2 : Pos} {u v : Expr} {k1 k2 : Nat} {env : Env} (kd : env.scope.kind = .function) (hx : env.scope.names.lookup x = some .local) (hy : env.scope.names.lookup y = some .local) (hxy : x ≠ y)
    (hl : (py.line == px.line) = true) (hu : notStar u = true) (hv : notStar v = true) (hf : ([u, v].all (foldedForSure 8)) = false) (hk : ([u, v].all (constantsAlone 8)) = false) :
    swappedStores [.Tuple [.Name x px, .Name y py] k1 p1] (.Tuple [u, v] k2 p2) env = pure (some [x, y]) := by
  have bk : env.blockKind = .function := by
    unfold Env.blockKind
    rw [kd]
    rfl
  have kx : env.kindOf x = some .local := hx
  have ky : env.kindOf y = some .local := hy
  have e2 : py.line = px.line := by simpa using hl
  have ne : (y == x) = false := by simpa using (fun z => hxy (Eq.symm z))
  unfold swappedStores
  simp [bk, hf, hk, kx, ky, e2, ne, Expr.pos, List.eraseDups, List.eraseDupsBy, List.eraseDupsBy.loop]
  intro z
  exfalso
  clear hf hk
  rcases z with z | z
  · cases u <;> first | (simp [notStar] at hu; done) | (simp at z; done)
  · cases v <;> first | (simp [notStar] at hv; done) | (simp at z; done)
theorem t_asg {t : T} {e : E} {te : TE} {g : TG} (s : St) (H : Hp) (D : Ends) (z : tS C Wx c (.asg t e) D s H) : tAsg (tE C Wx c e) (gT C t) D s H := by
  obtain ⟨m, l, h, hp, lo, o⟩ := z
  have o : OutP C Wx m H ((evalE c e l h).out l fun v h1 => Out.opt (store t v l) fun l1 => .nx l1 h1) D := o
  refine ⟨m, l, h, hp, lo, (o.res lo).imp fun v h1 m1 H1 ev hp1 q x rx => ?_⟩
  cases e1 : store t v l with
  | none =>
    rw [e1] at q
    exact q.elim
  | some l1 =>
    rw [e1] at q
    exact ⟨m1, l, v, l1, lo.mono ev, rx, e1, fun s' lo' => q m1 s' H1 (Evo.refl _ _) hp1 lo'⟩
theorem s_asg (ok : Cok g C Wx k c X) {t : T} {e : E} {x y : Expr} {p : Pos} (h : ((match t, x with
        | .nm _, .Name _ _ => true
        | .tup _, .Tuple _ _ _ => tupFolds x y
        | _, _ => false) && noComp y && chkTg g t x && chkE g e y) = true) : PS X (.Assign [x] y p) (tS C Wx c (.asg t e)) := by
  simp only [Bool.and_eq_true] at h
  obtain ⟨⟨⟨h1, h2⟩, h3⟩, h4⟩ := h
  have P := sndE ok e y h4
  have Gt := sndTg ok t x h3
  have hs : swapsWithSole [x] y p.line X.env = pure false := swaps_no h2
  have fin := fun (D : Ends) (s : St) (H : Hp) (z : tS C Wx c (.asg t e) D s H) => t_asg (te := tE C Wx c e) (g := gT C t) s H D z
  split at h1
  · exact PS.imp (ps_asg P Gt hs rfl rfl) fin
  · rename_i ts xs k1 p1
    refine PS.imp (ps_asg P Gt hs ?_ rfl) fin
    cases y with
    | Tuple vs k2 p2 => exact folds_none h1
    | _ => rfl
  · cases h1
theorem s_par (ok : Cok g C Wx k c X) {i j : Nat} {es : E} {x y : Str} {px py pt p2 p : Pos} {k1 k2 : Nat} {u v : Expr} (h : (decide (g.N[i]? = some x) && decide (g.N[j]? = some y) && decide (i ≠ j) && decide (x ≠ y) && locB g.ns x && locB g.ns y && (py.line == px.line) && notStar u && notStar v
        && !([u, v].all (foldedForSure 8)) && !([u, v].all (constantsAlone 8)) && chkEs g es [u, v]) = true) : PS X (.Assign [.Tuple [.Name x px, .Name y py] k1 pt] (.Tuple [u, v] k2 p2) p) (tS C Wx c (.par i j es)) := by
  simp only [Bool.and_eq_true, Bool.not_eq_true', decide_eq_true_eq] at h
  obtain ⟨⟨⟨⟨⟨⟨⟨⟨⟨⟨⟨h1, h2⟩, h3⟩, h4⟩, h5⟩, h6⟩, h7⟩, h8⟩, h9⟩, h10⟩, h11⟩, h12⟩ := h
  have loc : ∀ z, locB g.ns z = true → X.env.scope.names.lookup z = some .local := fun z hz => by
    unfold locB at hz
    rw [← ok.ns] at hz
    split at hz
    · assumption
    · cases hz
  refine PS.imp (ps_par ok.calm (by rw [ok.N]; exact ok.nd) (by rw [ok.N]; exact h1) (by rw [ok.N]; exact h2) h3 (loc x h5) (loc y h6) (sndEs ok es _ h12) (par_some ok.kd (loc x h5) (loc y h6) h4 h7 h8 h9 h10 h11) rfl) fun D s H => ?_
  rintro ⟨m, l, h, hp, lo, o⟩
  have o : OutP C Wx m H ((evalEs c es l h).out l fun vs h1 => Out.opt (store2 i j vs l) fun l1 => .nx l1 h1) D := o
  refine ⟨m, l, h, hp, lo, (o.res lo).imp fun vs h1 m1 H1 ev hp1 q xs rx => ?_⟩
  unfold store2 at q
  split at q
  · obtain ⟨x0, r0, rfl, rx0, x1, r1, rfl, rx1, rfl⟩ := rx
    exact ⟨x0, x1, rfl, q m1 _ H1 (Evo.refl _ _) hp1 (((lo.mono ev).set i rx0).set j rx1)⟩
  · exact q.elim
theorem setix_ok {m : List Addr} {h h4 : Heap} {H : Hp} {o i v : Val} {x y z : V} {Q : Hp → Prop} (hp : HpOk C m h H) (ro : RepV C m H o x) (ri : RepV C m H i y) (rv : RepV C m H v z) (e : setixO h o i v = some h4)
    (q : ∀ H', Evo m H m H' → HpOk C m h4 H' → Q H') : rSetL x y z H Q := by
  unfold setixO at e
  split at e
  · rename_i n kk
    obtain ⟨a, rfl, ha⟩ := ro
    cases (show y = V.int kk from ri)
    split at e
    · rename_i xs hx
      split at e
      · rename_i jj hj
        by_cases pv : pure0 v = true
        · rw [if_pos pv] at e
          cases e
          obtain ⟨vs, e1, r1, p1⟩ := hp.obj n _ a hx ha
          refine ⟨a, vs, kk, jj, rfl, rfl, e1, by rw [r1.length]; exact hj, ?_⟩
          have pl : pureL (xs.set jj v) = true := refsLtL_mem.mpr fun w hw => by
            rcases List.mem_or_eq_of_mem_set hw with z | z
            · exact refsLtL_mem.mp p1 w z
            · rw [z]
              exact pv
          exact q _ (Evo.put ha) (hp.put (o := .lst (xs.set jj v)) ha (RepO.put ha (r1.set rv jj) pl)).1
        · rw [if_neg pv] at e
          cases e
      · cases e
    · cases e
  · cases e
theorem s_setix (ok : Cok g C Wx k c X) {o i e : E} {x y z : Expr} {p1 p2 : Pos} (h : (plainIx y && noComp z && chkE g o x && chkE g i y && chkE g e z) = true) : PS X (.Assign [.Subscript x y p1] z p2) (tS C Wx c (.setix o i e)) := by
  simp only [Bool.and_eq_true] at h
  obtain ⟨⟨⟨⟨h1, h2⟩, h3⟩, h4⟩, h5⟩ := h
  have hs : swapsWithSole [.Subscript x y p1] z p2.line X.env = pure false := by cases z <;> first | rfl | cases h2
  refine PS.imp (ps_asg (sndE ok e z h5) (pg_sub (sndE ok o x h3) (sndE ok i y h4) set_list (by intro v; cases y <;> first | rfl | cases h1)) hs rfl rfl) fun D s H => ?_
  rintro ⟨m, l, h, hp, lo, r⟩
  have r : OutP C Wx m H ((evalE c e l h).out l fun v h1 => (evalE c o l h1).out l fun x h2 => (evalE c i l h2).out l fun y h3 => Out.opt (setixO h3 x y v) fun h4 => .nx l h4) D := r
  refine ⟨m, l, h, hp, lo, (r.res lo).imp fun v h1 m1 H1 ev1 hp1 q1 x1 rx1 => ?_⟩
  have lo1 := lo.mono ev1
  refine ⟨m1, l, h1, hp1, lo1, (q1.res lo1).imp fun w h2 m2 H2 ev2 hp2 q2 x2 rx2 => ?_⟩
  have lo2 := lo1.mono ev2
  refine ⟨m2, l, h2, hp2, lo2, (q2.res lo2).imp fun u h3 m3 H3 ev3 hp3 q3 x3 rx3 => ?_⟩
  cases e4 : setixO h3 w u v with
  | none =>
    rw [e4] at q3
    exact q3.elim
  | some h4 =>
    rw [e4] at q3
    exact setix_ok hp3 (rx2.mono ev3) rx3 (rx1.mono (ev2.trans ev3)) e4 fun H' ev4 hp4 => q3 m3 s H' ev4 hp4 ((lo2.mono ev3).mono ev4)
theorem s_ret (ok : Cok g C Wx k c X) {e : E} {x : Expr} {p : Pos} (h : chkE g e x = true) : PS X (.Return (some x) p) (tS C Wx c (.ret e)) :=
  PS.imp (ps_ret (sndE ok e x h)) fun D s H => by
    rintro ⟨m, l, h, hp, lo, r⟩
    have r : OutP C Wx m H ((evalE c e l h).out l fun v h1 => .rt v h1) D := r
    exact ⟨m, l, h, hp, lo, (r.res lo).imp fun v h1 m1 H1 ev1 hp1 q1 x1 rx1 => q1 m1 x1 H1 (Evo.refl _ _) hp1 rx1⟩
theorem s_exp (ok : Cok g C Wx k c X) {e : E} {x : Expr} {p : Pos} (h : (noComp x && chkE g e x) = true) : PS X (.Expr x p) (tS C Wx c (.exp e)) := by
  rw [Bool.and_eq_true] at h
  refine PS.imp (ps_expr (sndE ok e x h.2) (swapsN_no h.1)) fun D s H => ?_
  rintro ⟨m, l, h, hp, lo, r⟩
  have r : OutP C Wx m H ((evalE c e l h).out l fun _ h1 => .nx l h1) D := r
  exact ⟨m, l, h, hp, lo, (r.res lo).imp fun v h1 m1 H1 ev1 hp1 q1 x1 rx1 => q1 m1 s H1 (Evo.refl _ _) hp1 (lo.mono ev1)⟩
theorem s_ite {t : E} {a b : S} {x : Expr} {ys zs : List Stmt} {p : Pos} (ht : PT X x (tT C Wx c t)) (ha : PSs X ys (tS C Wx c a)) (hb : PSs X zs (tS C Wx c b)) : PS X (.If x ys zs p) (tS C Wx c (.ite t a b)) :=
  PS.imp (ps_if ht ha hb) fun D s H => by
    rintro ⟨m, l, h, hp, lo, r⟩
    have r : OutP C Wx m H ((evalT c t l h).out l fun x h1 => if x then run c a l h1 else run c b l h1) D := r
    refine ⟨m, l, h, hp, lo, (r.res lo).imp fun v h1 m1 H1 ev1 hp1 q1 => ?_⟩
    cases v with
    | true => rw [if_pos rfl]; exact ⟨m1, l, h1, hp1, lo.mono ev1, q1⟩
    | false => rw [if_neg Bool.false_ne_true]; exact ⟨m1, l, h1, hp1, lo.mono ev1, q1⟩
theorem s_whl (ok : Cok g C Wx k c X) {t : E} {b : S} {x : Expr} {ys : List Stmt} {p : Pos} (ht : PT X x (tT C Wx c t)) (hb : PSs X ys (tS C Wx c b)) : PS X (.While x ys [] p) (tS C Wx c (.whl t b)) :=
  PS.imp (ps_while ok.po ht hb) fun D s H => by
    rintro ⟨m, l, h, hp, lo, r⟩
    have r : OutP C Wx m H (whileN (evalT c t) (run c b) c.W l h) D := r
    refine ⟨fun n s H => ∃ m l h, HpOk C m h H ∧ LocOk C m H l s ∧ OutP C Wx m H (whileN (evalT c t) (run c b) n l h) D, ⟨c.W, m, l, h, hp, lo, r⟩, ?_⟩
    rintro n s H ⟨m, l, h, hp, lo, r⟩
    cases n with
    | zero => exact (show False from r).elim
    | succ n =>
      have r : OutP C Wx m H ((evalT c t l h).out l fun x h1 => if x then (run c b l h1).turn (whileN (evalT c t) (run c b) n) else .nx l h1) D := r
      refine ⟨m, l, h, hp, lo, (r.res lo).imp fun v h1 m1 H1 ev1 hp1 q1 => ?_⟩
      cases v with
      | true =>
        rw [if_pos rfl] at q1 ⊢
        refine ⟨fun s H => ∃ m l h, HpOk C m h H ∧ LocOk C m H l s ∧ OutP C Wx m H (whileN (evalT c t) (run c b) n l h) D, fun s' H' z => ⟨n, Nat.lt_succ_self n, z⟩, m1, l, h1, hp1, lo.mono ev1, ?_⟩
        exact q1.turn fun l2 h2 m2 s2 H2 ev2 hp2 lo2 q2 => ⟨m2, l2, h2, hp2, lo2, q2⟩
      | false =>
        rw [if_neg Bool.false_ne_true] at q1 ⊢
        exact q1 m1 s H1 (Evo.refl _ _) hp1 (lo.mono ev1)
theorem s_for (ok : Cok g C Wx k c X) {t : T} {it : E} {b : S} {tg x : Expr} {ys : List Stmt} {p : Pos} (hi : PI X tg x (tI C Wx c it)) (hf : ∀ y, foldedSetIterable x X.env y = pure y) (hg : PG X tg (gT C t)) (hb : PSs X ys (tS C Wx c b)) :
    PS X (.For tg x ys [] p) (tS C Wx c (.for_ t it b)) :=
  PS.imp (ps_for ok.po ok.calm hi hg hb hf) fun D s H => by
    rintro ⟨m, l, h, hp, lo, r⟩
    have r : OutP C Wx m H ((evalI c it l h).out l fun xs h1 => forL t (run c b) xs l h1) D := r
    refine ⟨m, l, h, hp, lo, (r.res lo).imp fun xs h1 m1 H1 ev1 hp1 q1 J wk => ?_⟩
    refine ⟨fun i n s H => n = xs.length - i ∧ i ≤ xs.length ∧ ∃ m l h, Evo m1 H1 m H ∧ HpOk C m h H ∧ LocOk C m H l s ∧ OutP C Wx m H (forL t (run c b) (xs.drop i) l h) D, ⟨xs.length, rfl, Nat.zero_le _, m1, l, h1, Evo.refl _ _, hp1, lo.mono ev1, q1⟩, ?_⟩
    rintro i n s H ⟨rfl, hi, m2, l2, h2, ev2, hp2, lo2, q2⟩
    obtain ⟨w1, w2⟩ := wk m2 H ev2 i
    by_cases hl : i < xs.length
    · obtain ⟨g1, g2⟩ := w2 xs[i] (List.getElem?_eq_getElem hl)
      rw [List.drop_eq_getElem_cons hl] at q2
      have q2 : OutP C Wx m2 H (Out.opt (store t xs[i] l2) fun l1 => (run c b l1 h2).turn (forL t (run c b) (xs.drop (i + 1)))) D := q2
      cases e1 : store t xs[i] l2 with
      | none =>
        rw [e1] at q2
        exact q2.elim
      | some l3 =>
        rw [e1] at q2
        have q2 : OutP C Wx m2 H ((run c b l3 h2).turn (forL t (run c b) (xs.drop (i + 1)))) D := q2
        refine .inr ⟨g1, fun s' H' => ∃ m l h, Evo m1 H1 m H' ∧ HpOk C m h H' ∧ LocOk C m H' l s' ∧ OutP C Wx m H' (forL t (run c b) (xs.drop (i + 1)) l h) D, ?_, ?_⟩
        · rintro s' H' ⟨m', l', h', z⟩
          exact ⟨xs.length - (i + 1), by omega, rfl, hl, m', l', h', z⟩
        · intro y H3 hy
          obtain ⟨ev3, hh, rv⟩ := g2 y H3 hy
          refine ⟨m2, l2, xs[i], l3, lo2.mono ev3, rv, e1, fun s' lo' => ⟨m2, l3, h2, hh _ hp2, lo', ?_⟩⟩
          exact (q2.weak ev3).turn fun l4 h4 m4 s4 H4 ev4 hp4 lo4 q4 => ⟨m4, l4, h4, (ev2.trans ev3).trans ev4, hp4, lo4, q4⟩
    · have e : i = xs.length := by omega
      subst e
      rw [List.drop_length] at q2
      exact .inl ⟨w1 (Nat.le_refl _), q2 m2 s H (Evo.refl _ _) hp2 lo2⟩
mutual
theorem sndS (ok : Cok g C Wx k c X) : ∀ (s : S) (st : Stmt), chkS g s st = true → PS X st (tS C Wx c s)
  | .nop, st, h => by cases h
  | .seq _ _, st, h => by cases h
  | .scope _, st, h => by cases h
  | .asg t e, st, h => by
    dsimp only [chkS] at h
    split at h
    · exact s_asg ok h
    · cases h
  | .par i j es, st, h => by
    dsimp only [chkS] at h
    split at h
    · exact s_par ok h
    · cases h
  | .setix o i e, st, h => by
    dsimp only [chkS] at h
    split at h
    · exact s_setix ok h
    · cases h
  | .ret e, st, h => by
    dsimp only [chkS] at h
    split at h
    · exact s_ret ok h
    · cases h
  | .exp e, st, h => by
    dsimp only [chkS] at h
    split at h
    · exact s_exp ok h
    · cases h
  | .ite t a b, st, h => by
    dsimp only [chkS] at h
    split at h
    · simp only [Bool.and_eq_true] at h
      exact s_ite (sndT ok t _ h.1.1).1 (sndSs ok a _ h.1.2) (sndSs ok b _ h.2)
    · cases h
  | .whl t b, st, h => by
    dsimp only [chkS] at h
    split at h
    · rw [Bool.and_eq_true] at h
      exact s_whl ok (sndT ok t _ h.1).1 (sndSs ok b _ h.2)
    · cases h
  | .for_ t it b, st, h => by
    dsimp only [chkS] at h
    split at h
    · simp only [Bool.and_eq_true] at h
      obtain ⟨⟨⟨h1, h2⟩, h3⟩, h4⟩ := h
      exact s_for ok (sndI ok it _ h3).1 (sndI ok (tg := .Name "x" ⟨0, 0, 0, 0⟩) it _ h3).2 (sndTg ok t _ h2) (sndSs ok b _ h4)
    · cases h
theorem sndSs (ok : Cok g C Wx k c X) : ∀ (s : S) (st : List Stmt), chkSs g s st = true → PSs X st (tS C Wx c s)
  | .nop, st, h => by
    cases st with
    | nil =>
      refine PSs.imp pss_nil fun D s H => ?_
      rintro ⟨m, l, h, hp, lo, r⟩
      exact r m s H (Evo.refl _ _) hp lo
    | cons _ _ => cases h
  | .seq s r, st, h => by
    cases st with
    | nil => cases h
    | cons y ys =>
      have h2 : (chkS g s y && chkSs g r ys) = true := h
      rw [Bool.and_eq_true] at h2
      refine PSs.imp (pss_cons (sndS ok s y h2.1) (sndSs ok r ys h2.2)) fun D s0 H => ?_
      rintro ⟨m, l, h, hp, lo, o⟩
      have o : OutP C Wx m H ((run c s l h).thn (run c r)) D := o
      exact ⟨m, l, h, hp, lo, o.thn (D1 := { D with nx := _ }) (fun l2 h2 m2 s2 H2 ev2 hp2 lo2 q2 => ⟨m2, l2, h2, hp2, lo2, q2⟩) rfl rfl rfl⟩
  | .scope b, st, h => by
    refine PSs.imp (sndSs ok b st h) fun D s0 H => ?_
    rintro ⟨m, l, h, hp, lo, o⟩
    exact ⟨m, l, h, hp, lo, OutP.trim hp o⟩
  | .asg _ _, st, h | .par _ _ _, st, h | .setix _ _ _, st, h | .ret _, st, h | .exp _, st, h | .ite _ _ _, st, h | .whl _ _, st, h | .for_ _ _ _, st, h => by cases h
end
end
end MP
/-! MP, defs and the law's end. -/
namespace MP
open PySem L2

/-- a def of the text: its name, its place, its slots' names, its parameters -/
structure Dn where
  name : Str
  qual : Str
  st : Stmt
  N : List Str
  ps : List Str
/-- the def's text is what the small language's def was read from -/
def okDef (fn bn : List Str) (d : Dn) (f : Fn) : Bool := decide (f.n = d.N.length) && decide (f.np = d.ps.length) && chkSs ⟨d.N, (defScope d.st).names, fn, bn⟩ f.body (defBody d.st)
/-- a def as it stands -/
structure DefAt (K : PySem.W.Frag) (mg : Str → Option Value) (d : Dn) (fa : Addr) (fd : FuncData) : Prop where
  sc : FnScope d.N d.ps (defScope d.st)
  fn : Fun K d.name d.qual d.st fa fd
  bi : Binds K fd d.ps []
  mg : mg d.name = some (.ref fa)

section
variable {C : Gc}
mutual
theorem fz_ok {m m1 : List Addr} {H1 : Hp} {h1 : Heap} (hm : ∃ n, m1 = m ++ n) (hp1 : HpOk C m1 h1 H1) : ∀ {v w : Val} {x : V}, RepV C m1 H1 v x → fz h1 m.length v = some w → RepV C m H1 w x
  | .non, w, x, r, e => by cases e; exact r
  | .bl _, w, x, r, e => by cases e; exact r
  | .int _, w, x, r, e => by cases e; exact r
  | .str _, w, x, r, e => by cases e; exact r
  | .ty _, w, x, r, e => by cases e; exact r
  | .lst xs, w, x, r, e => by
    obtain ⟨n, en⟩ := hm
    have e : (if refsLtL m.length xs = true then some (Val.lst xs) else none) = some w := e
    by_cases q : refsLtL m.length xs = true
    · rw [if_pos q] at e
      cases e
      exact RepV.place (b := m.length) (fun a o _ na z => na (by rw [en]; exact List.mem_append_left _ z)) (fun k a hk e2 => by rw [en, List.getElem?_append_left hk] at e2; exact e2) (v := .lst xs) q r
    · rw [if_neg q] at e
      cases e
  | .tup xs, w, x, r, e => by
    obtain ⟨n, en⟩ := id hm
    have e : (match fzL h1 m.length xs with | some ys => some (Val.tup ys) | none => none) = some w := e
    cases q : fzL h1 m.length xs with
    | none => rw [q] at e; cases e
    | some ys =>
      rw [q] at e
      cases e
      obtain ⟨a, vs, rfl, ha, hr⟩ := r
      refine ⟨a, vs, rfl, ?_, fzL_ok hm hp1 hr q⟩
      rcases ha with ⟨na, ha⟩ | ha
      · exact .inl ⟨fun z => na (by rw [en]; exact List.mem_append_left _ z), ha⟩
      · exact .inr ha
  | .ref k, w, x, r, e => by
    obtain ⟨n, en⟩ := hm
    obtain ⟨a, rfl, ha⟩ := r
    have e : (if k < m.length then some (Val.ref k) else match h1[k]? with | some (.lst xs) => some (Val.lst xs) | none => none) = some w := e
    by_cases hk : k < m.length
    · rw [if_pos hk] at e
      cases e
      rw [en, List.getElem?_append_left hk] at ha
      exact ⟨a, rfl, ha⟩
    · rw [if_neg hk] at e
      cases q : h1[k]? with
      | none => rw [q] at e; cases e
      | some o =>
        rw [q] at e
        cases o with
        | lst xs =>
          cases e
          obtain ⟨vs, e1, r1, p1⟩ := hp1.obj k _ a q ha
          have na : a ∉ m := fun z => by
            obtain ⟨j, hj, ej⟩ := List.mem_iff_getElem.mp z
            have e3 : m1[j]? = some a := by
              rw [en, List.getElem?_append_left hj, List.getElem?_eq_getElem hj, ej]
            have e4 := nd_ix hp1.nd e3 ha
            omega
          refine ⟨a, vs, rfl, .inl ⟨na, .inl e1⟩, ?_⟩
          exact r1.place (fun b o _ nb z => nb (by rw [en]; exact List.mem_append_left _ z)) (fun n a hn => absurd hn (Nat.not_lt_zero n)) p1
theorem fzL_ok {m m1 : List Addr} {H1 : Hp} {h1 : Heap} (hm : ∃ n, m1 = m ++ n) (hp1 : HpOk C m1 h1 H1) : ∀ {v w : List Val} {x : List V}, RepL C m1 H1 v x → fzL h1 m.length v = some w → RepL C m H1 w x
  | [], w, x, r, e => by cases e; exact r
  | v :: vs, w, x, r, e => by
    have e : (match fz h1 m.length v, fzL h1 m.length vs with | some y, some ys => some (y :: ys) | _, _ => none) = some w := e
    cases q : fz h1 m.length v with
    | none => rw [q] at e; cases e
    | some y =>
      cases q2 : fzL h1 m.length vs with
      | none => rw [q, q2] at e; cases e
      | some ys =>
        rw [q, q2] at e
        cases e
        obtain ⟨x0, r0, rfl, r1, r2⟩ := r
        exact ⟨x0, r0, rfl, fz_ok hm hp1 r1 q, fzL_ok hm hp1 r2 q2⟩
end
theorem fin_ok {m m1 : List Addr} {H H1 : Hp} {h h1 : Heap} {Wx : WX} {s : St} {f : Fn} {v : Val} {x : V} {Q : VK} (hp : HpOk C m h H) (ev : Evo m H m1 H1) (hp1 : HpOk C m1 h1 H1) (rv : RepV C m1 H1 v x)
    (q : RP C Wx m H s (finish f h.length v h1) fun v _ m' H' => ∀ x, RepV C m' H' v x → Q x H') : Q x H1 := by
  unfold finish at q
  cases hf : f.frz with
  | false =>
    rw [hf, if_neg Bool.false_ne_true] at q
    exact q m1 H1 ev hp1 x rv
  | true =>
    rw [hf, if_pos rfl] at q
    cases e : fz h1 h.length v with
    | none => rw [e] at q; exact q.elim
    | some w =>
      rw [e] at q
      have t := trim_ok (s := []) (l1 := []) ev hp hp1 ⟨rfl, fun i v z => by simp at z⟩
      rw [← hp.len] at e
      exact fin2 q t.1 t.2.1 (fz_ok ev.pre hp1 rv e)
theorem start_ok {m : List Addr} {H : Hp} {args : List Val} {vs : List V} {N : List Str} {a b : Nat} (r : RepL C m H args vs) (ha : a = N.length) (hb : b = vs.length) : LocOk C m H (args.map some ++ List.replicate (a - b) none) (L2.start N vs) := by
  subst ha hb
  refine ⟨?_, fun i v q => ?_⟩
  · unfold L2.start
    simp [r.length]
  · have hi : i < args.length := by
      by_cases hi : i < args.length
      · exact hi
      · rw [List.getElem?_append_right (by simpa using hi), List.getElem?_replicate] at q
        split at q <;> cases q
    rw [List.getElem?_append_left (by simpa using hi), List.getElem?_map] at q
    cases e : args[i]? with
    | none => rw [e] at q; cases q
    | some w =>
      rw [e] at q
      cases q
      obtain ⟨x, h1, h2⟩ := r.get e
      refine ⟨x, ?_, h2⟩
      unfold L2.start
      rw [List.getElem?_append_left (by rw [List.length_map, r.length]; exact hi), List.getElem?_map, h1]
      rfl
end

/-- every def keeps the promise of its run -/
theorem defs_ok {Pr : Program} {w : World} {mg : Str → Option Value} {base : PySem.Heap} {C : Gc} {P : List Fn} {W : Nat} {D : List Dn} {bn : List Str}
    (hD : ∀ (i : Nat) (d : Dn), D[i]? = some d → ∃ f fa fd, P[i]? = some f ∧ okDef (D.map (·.name)) bn d f = true ∧ DefAt C.K mg d fa fd) (hbn : ∀ x, bn.contains x = true → mg x = none) :
    ∀ (k i : Nat) (d : Dn) (f : Fn) (fa : Addr) (fd : FuncData), D[i]? = some d → P[i]? = some f → okDef (D.map (·.name)) bn d f = true → DefAt C.K mg d fa fd →
      FnOk Pr w C.K mg base (L2.CX Pr w) k fa fd d.ps (spI C (callF P W k) i d.ps.length) := by
  intro k
  induction k with
  | zero =>
    intro i d f fa fd _ _ _ _
    refine ⟨fun vs H Q E h => h.1, fun A outer s H args us vs Q E _ _ _ _ h => ?_⟩
    obtain ⟨_, m, hh, ar, _, _, r⟩ := h
    exact (show False from r).elim
  | succ k ih =>
    intro i d f fa fd hd hf hok at_
    unfold okDef at hok
    simp only [Bool.and_eq_true, decide_eq_true_eq] at hok
    obtain ⟨⟨k1, k2⟩, k3⟩ := hok
    refine at_.fn.okX at_.sc (fun vs H Q E h => h.1) (fun cdv A outer s H vs Q E hr h => ?_)
    obtain ⟨hl, m, h0, args, hp, ra, r⟩ := h
    have ok : Cok ⟨d.N, (defScope d.st).names, D.map (·.name), bn⟩ C (fun cls dd _ H' => E cls dd H') k ⟨callF P W k, W⟩ (cxOf (L2.CX Pr w) Pr w C.K mg base d.N d.qual (defScope d.st) fa cdv A outer s H E) :=
      { K := rfl, N := rfl, nd := at_.sc.nd, ns := rfl, kd := at_.sc.kind, calm := rfl, room := hr, tk := takes_of rfl rfl rfl rfl, po := passes_of rfl, fnc := fun _ _ => rfl, bn := hbn,
        fn := fun j x hx => by
          have hx : (D.map (·.name))[j]? = some x := hx
          rw [List.getElem?_map] at hx
          cases e : D[j]? with
          | none => rw [e] at hx; cases hx
          | some d2 =>
            rw [e] at hx
            have hx : d2.name = x := Option.some.inj hx
            obtain ⟨f2, fa2, fd2, a1, a2, a3⟩ := hD j d2 e
            refine ⟨fa2, fd2, d2.ps, by rw [← hx]; exact a3.mg, a3.fn.kp, a3.bi, fun as hh => ?_, ih j d2 f2 fa2 fd2 e a1 a2 a3⟩
            unfold okDef at a2
            simp only [Bool.and_eq_true, decide_eq_true_eq] at a2
            cases k with
            | zero => exact .inl rfl
            | succ k =>
              by_cases hc : as.length = f2.np
              · exact .inr (hc.trans a2.1.2)
              · left
                show (match P[j]? with | none => _ | some f => _) = _
                rw [a1]
                show (if as.length = f2.np then _ else _) = _
                rw [if_neg hc] }
    refine ⟨tS C (fun cls dd _ H' => E cls dd H') ⟨callF P W k, W⟩ f.body, sndSs ok f.body _ k3, m, _, h0, hp, start_ok ra k1 (k2.trans hl.symm), ?_⟩
    have r : RP C (fun cls d _ H' => E cls d H') m H [] (match P[i]? with
      | none => .bad
      | some f => if args.length = f.np then
          match run ⟨callF P W k, W⟩ f.body (args.map some ++ List.replicate (f.n - f.np) none) h0 with
          | .nx _ h1 => finish f h0.length .non h1
          | .rt v h1 => finish f h0.length v h1
          | .exc c v _ h1 => Res.opt (fz h1 h0.length v) fun w => .exc c w (h1.take h0.length)
          | _ => .bad
        else .bad) _ := r
    rw [hf] at r
    have hal : args.length = f.np := by
      rw [k2, ← hl, ra.length]
    have r : RP C (fun cls d _ H' => E cls d H') m H [] (if args.length = f.np then
          match run ⟨callF P W k, W⟩ f.body (args.map some ++ List.replicate (f.n - f.np) none) h0 with
          | .nx _ h1 => finish f h0.length .non h1
          | .rt v h1 => finish f h0.length v h1
          | .exc c v _ h1 => Res.opt (fz h1 h0.length v) fun w => .exc c w (h1.take h0.length)
          | _ => .bad
        else .bad) _ := r
    rw [if_pos hal] at r
    generalize run ⟨callF P W k, W⟩ f.body (args.map some ++ List.replicate (f.n - f.np) none) h0 = o at r ⊢
    cases o with
    | nx l1 h1 => exact fun m1 s1 H1 ev hp1 lo1 => fin_ok (v := .non) (x := .non) hp ev hp1 rfl r
    | rt v h1 => exact fun m1 x H1 ev hp1 rv => fin_ok hp ev hp1 rv r
    | exc c v l1 h1 =>
      intro m1 s1 H1 dd x ev hp1 lo1 rv hdd nd
      have r : RP C (fun cls d _ H' => E cls d H') m H [] (Res.opt (fz h1 h0.length v) fun w => .exc c w (h1.take h0.length)) _ := r
      cases e : fz h1 h0.length v with
      | none => rw [e] at r; exact r.elim
      | some w2 =>
        rw [e] at r
        have t := trim_ok ev hp hp1 lo1
        rw [← hp.len] at e
        obtain ⟨n, en⟩ := ev.pre
        exact r m H1 dd x t.1 t.2.1 (fz_ok ev.pre hp1 rv e) hdd fun z => nd (by rw [en]; exact List.mem_append_left _ z)
    | bk l1 h1 => exact r.elim
    | ct l1 h1 => exact r.elim
    | bad => exact r.elim

theorem vals_rep {C : Gc} {H : Hp} {m : List Addr} : ∀ ns : List Int, RepL C m H (ns.map .int) (ns.map V.int)
  | [] => rfl
  | n :: ns => ⟨_, _, rfl, rfl, vals_rep ns⟩
/-- the promise of the law at its call -/
theorem law_sp {C : Gc} {P : List Fn} {W k i : Nat} {H : Hp} {a : Addr} {ns : List Int} (hS : SqL C.K H a (ns.map V.int)) (h : ∃ h', callF P W k i [.lst (ns.map .int)] [] = .ok (.bl true) h') :
    spI C (callF P W k) i 1 [.ref a] H (fun v _ => v = .bl true) fun _ _ _ => False := by
  obtain ⟨h', e⟩ := h
  refine ⟨rfl, [], [], [.lst (ns.map .int)], ⟨rfl, List.nodup_nil, fun n o b q => by simp at q⟩, ⟨_, _, rfl, ⟨a, _, rfl, ?_, vals_rep ns⟩, rfl⟩, ?_⟩
  · rcases hS with hS | hS
    · exact .inl ⟨by simp, hS⟩
    · exact .inr hS
  · rw [e]
    exact fun m' H' ev hp x r => r
/-- a def's facts, as they are read off the top -/
theorem defAt_mk {K : PySem.W.Frag} {h : PySem.Heap} {mg : Str → Option Value} {name qual : Str} {st : Stmt} {N ps : List Str} {f : Addr} {oc : Value} {od an : Option Addr} {osl : Array (Option Value)} {kV doc pm cdv ct : Value} (X : K.In h) (G : h.Ns mainGlobals mg)
    (sc : FnScope N ps (defScope st)) (hb : ∀ (kV doc pm : Value) (an : Option Addr) (cdv ct : Value) (us : List Value), us.length = ps.length → bindArgs (PySem.W.fnOf name qual (defArgs st) (defBody st) (defScope st) .none kV doc pm an cdv ct) ⟨us, []⟩ = pure (ps.zip us))
    (a : PySem.W.nsIn K mainGlobals name = some (some (.ref f))) (l : K.lookup f = some ⟨oc, od, .func (PySem.W.fnOf name qual (defArgs st) (defBody st) (defScope st) .none kV doc pm an cdv ct), osl⟩)
    (c : PySem.W.codeIn K cdv qual = true) (k : PySem.W.keepIn K (.ref f) = true) : ∃ fd, DefAt K mg ⟨name, qual, st, N, ps⟩ f fd :=
  ⟨_, sc, fun_mk l c k, (fun_mk (st := st) l c k).binds hb, PySem.W.mg_of X G a⟩
/-- the promise by some measure of the whiles -/
def spW (C : Gc) (P : List Fn) (k i n : Nat) : Sp := fun vs H Q E => ∃ W, spI C (callF P W k) i n vs H Q E
theorem fnW {Pr : Program} {w : World} {mg : Str → Option Value} {base : PySem.Heap} {C : Gc} {P : List Fn} {k i n : Nat} {fa : Addr} {fd : FuncData} {ps : List Str} {CX : CXT} (hn : n = ps.length) (F : ∀ W, FnOk Pr w C.K mg base CX k fa fd ps (spI C (callF P W k) i n)) :
    FnOk Pr w C.K mg base CX k fa fd ps (spW C P k i n) :=
  ⟨fun vs H Q E ⟨W, h⟩ => h.1.trans hn, fun A outer s H args us vs Q E hr he hb hv ⟨W, h⟩ => (F W).run A outer s H args us vs Q E hr he hb hv h⟩
theorem cx_no {P : Program} {w : World} {H : Hp} {s s' : Shared} {e : Value} (h : L2.CX P w [] H s (fun _ _ _ => False) e s') : False := by
  obtain ⟨_, _, _, _, _, _, _, _, _, _, _, _, z⟩ := h
  exact z
end MP
/-! MP, the run's rules for rewriting: each fully applied, so that a loop's test and body stay folded. -/
namespace MP
open PySem
def varR (o : Option (Option Val)) (h : Heap) : Res Val := match o with
  | some (some v) => .ok v h
  | _ => .bad
theorem varR_ok (v : Val) (h : Heap) : varR (some (some v)) h = .ok v h := rr rfl
def andR (x : Val) (k : Res Val) (h : Heap) : Res Val := match x with
  | .bl true => k
  | .bl false => .ok (.bl false) h
  | _ => .bad
theorem andR_t (k : Res Val) (h : Heap) : andR (.bl true) k h = k := rr rfl
theorem andR_f (k : Res Val) (h : Heap) : andR (.bl false) k h = .ok (.bl false) h := rr rfl
def orR (x : Val) (k : Res Val) (h : Heap) : Res Val := match x with
  | .bl true => .ok (.bl true) h
  | .bl false => k
  | _ => .bad
theorem orR_t (k : Res Val) (h : Heap) : orR (.bl true) k h = .ok (.bl true) h := rr rfl
theorem orR_f (k : Res Val) (h : Heap) : orR (.bl false) k h = k := rr rfl
def notR (x : Val) (h : Heap) : Res Val := match x with
  | .bl b => .ok (.bl (!b)) h
  | _ => .bad
theorem notR_b (b : Bool) (h : Heap) : notR (.bl b) h = .ok (.bl (!b)) h := rr rfl
def negR (x : Val) (h : Heap) : Res Val := match x with
  | .int i => .ok (.int (-i)) h
  | _ => .bad
theorem negR_i (i : Int) (h : Heap) : negR (.int i) h = .ok (.int (-i)) h := rr rfl
def tstR (x : Val) (h : Heap) : Res Bool := match x with
  | .bl b => .ok b h
  | _ => .bad
theorem tstR_b (b : Bool) (h : Heap) : tstR (.bl b) h = .ok b h := rr rfl
def lstR (k : Bool) (vs : List Val) (h : Heap) : Res Val :=
  if vs.length ≤ 1000 then (if k then (if pureL vs then .ok (.ref h.length) (h ++ [.lst vs]) else .bad) else .ok (.lst vs) h) else .bad
def tupR (vs : List Val) (h : Heap) : Res Val := if vs.length ≤ 1000 then .ok (.tup vs) h else .bad
def ixR (x y : Val) (h : Heap) : Res Val := match y with
  | .int i => Res.opt ((asSeq h x).bind fun xs => L2.atI xs i) fun v => .ok v h
  | _ => .bad
theorem ixR_i (x : Val) (i : Int) (h : Heap) : ixR x (.int i) h = Res.opt ((asSeq h x).bind fun xs => L2.atI xs i) fun v => .ok v h := rr rfl
section
variable (c : Cf) (l : Loc) (h : Heap)
theorem e_var (i : Nat) : evalE c (.var i) l h = varR l[i]? h := rr rfl
theorem e_con (v : Val) : evalE c (.con v) l h = .ok v h := rr rfl
theorem e_bt (n : String) : evalE c (.bt n) l h = .ok (.ty n) h := rr rfl
theorem e_tup (es : E) : evalE c (.tup es) l h = (evalEs c es l h).bind tupR := rr rfl
theorem e_lst (k : Bool) (es : E) : evalE c (.lst k es) l h = (evalEs c es l h).bind (lstR k) := rr rfl
theorem e_bin (op : Operator) (a b : E) : evalE c (.bin op a b) l h = (evalE c a l h).bind fun x h1 => (evalE c b l h1).bind fun y h2 => Res.opt (binop op x y) fun v => .ok v h2 := rr rfl
theorem e_neg (a : E) : evalE c (.neg a) l h = (evalE c a l h).bind negR := rr rfl
theorem e_cmp (op : CmpOp) (a b : E) : evalE c (.cmp op a b) l h = (evalE c a l h).bind fun x h1 => (evalE c b l h1).bind fun y h2 => Res.opt (cmpop op x y) fun v => .ok (.bl v) h2 := rr rfl
theorem e_and (a b : E) : evalE c (.and a b) l h = (evalE c a l h).bind fun x h1 => andR x (evalE c b l h1) h1 := rr rfl
theorem e_or (a b : E) : evalE c (.or a b) l h = (evalE c a l h).bind fun x h1 => orR x (evalE c b l h1) h1 := rr rfl
theorem e_not (a : E) : evalE c (.not a) l h = (evalE c a l h).bind notR := rr rfl
theorem e_ife (t a b : E) : evalE c (.ife t a b) l h = (evalT c t l h).bind fun x h1 => if x then evalE c a l h1 else evalE c b l h1 := rr rfl
theorem e_cal (f : Nat) (es : E) : evalE c (.cal f es) l h = (evalEs c es l h).bind fun vs h1 => c.call f vs h1 := rr rfl
theorem e_bi (f : Bi) (es : E) : evalE c (.bi f es) l h = (evalEs c es l h).bind fun vs h1 => Res.opt (biF h1 f vs) fun v => .ok v h1 := rr rfl
theorem e_bm (m : Bm) (o es : E) : evalE c (.bm m o es) l h = (evalE c o l h).bind fun x h1 => (evalEs c es l h1).bind fun vs h2 => Res.opt (bmF h2 m x vs) fun p => .ok p.1 p.2 := rr rfl
theorem e_ix (a b : E) : evalE c (.ix a b) l h = (evalE c a l h).bind fun x h1 => (evalE c b l h1).bind fun y h2 => ixR x y h2 := rr rfl
theorem es_nl : evalEs c .nl l h = .ok [] h := rr rfl
theorem es_cs (a r : E) : evalEs c (.cs a r) l h = (evalE c a l h).bind fun x h1 => (evalEs c r l h1).bind fun xs h2 => .ok (x :: xs) h2 := rr rfl
theorem t_and (a b : E) : evalT c (.and a b) l h = (evalT c a l h).bind fun x h1 => if x then evalT c b l h1 else .ok false h1 := rr rfl
theorem t_or (a b : E) : evalT c (.or a b) l h = (evalT c a l h).bind fun x h1 => if x then .ok true h1 else evalT c b l h1 := rr rfl
theorem t_not (a : E) : evalT c (.not a) l h = (evalT c a l h).bind fun x h1 => .ok (!x) h1 := rr rfl
theorem t_cmp (op : CmpOp) (a b : E) : evalT c (.cmp op a b) l h = (evalE c a l h).bind fun x h1 => (evalE c b l h1).bind fun y h2 => Res.opt (cmpop op x y) fun v => .ok v h2 := rr rfl
theorem t_tst (a : E) : evalT c (.tst a) l h = (evalE c a l h).bind tstR := rr rfl
theorem i_seq (e : E) : evalI c (.iSeq e) l h = (evalE c e l h).bind seqItems := rr rfl
theorem i_rng (es : E) : evalI c (.iRng es) l h = (evalEs c es l h).bind rngItems := rr rfl
theorem r_nop : run c .nop l h = .nx l h := rr rfl
theorem r_seq (s r : S) : run c (.seq s r) l h = (run c s l h).thn (run c r) := rr rfl
theorem r_asg (t : T) (e : E) : run c (.asg t e) l h = (evalE c e l h).out l fun v h1 => Out.opt (store t v l) fun l1 => .nx l1 h1 := rr rfl
theorem r_par (i j : Nat) (es : E) : run c (.par i j es) l h = (evalEs c es l h).out l fun vs h1 => Out.opt (store2 i j vs l) fun l1 => .nx l1 h1 := rr rfl
theorem r_setix (o i e : E) : run c (.setix o i e) l h = (evalE c e l h).out l fun v h1 => (evalE c o l h1).out l fun x h2 => (evalE c i l h2).out l fun y h3 => Out.opt (setixO h3 x y v) fun h4 => .nx l h4 := rr rfl
theorem r_ret (e : E) : run c (.ret e) l h = (evalE c e l h).out l fun v h1 => .rt v h1 := rr rfl
theorem r_exp (e : E) : run c (.exp e) l h = (evalE c e l h).out l fun _ h1 => .nx l h1 := rr rfl
theorem r_ite (t : E) (a b : S) : run c (.ite t a b) l h = (evalT c t l h).out l fun x h1 => if x then run c a l h1 else run c b l h1 := rr rfl
theorem r_whl (t : E) (b : S) : run c (.whl t b) l h = whileN (evalT c t) (run c b) c.W l h := rr rfl
theorem r_for (t : T) (it : E) (b : S) : run c (.for_ t it b) l h = (evalI c it l h).out l fun xs h1 => forL t (run c b) xs l h1 := rr rfl
theorem r_scope (b : S) : run c (.scope b) l h = (run c b l h).trim h.length := rr rfl
theorem w_succ (t : Loc → Heap → Res Bool) (b : Loc → Heap → Out) (n : Nat) : whileN t b (n + 1) l h = (t l h).out l fun x h1 => if x then (b l h1).turn (whileN t b n) else .nx l h1 := rr rfl
theorem fl_nil (t : T) (b : Loc → Heap → Out) : forL t b [] l h = .nx l h := rr rfl
theorem fl_cons (t : T) (b : Loc → Heap → Out) (x : Val) (xs : List Val) : forL t b (x :: xs) l h = Out.opt (store t x l) fun l1 => (b l1 h).turn (forL t b xs) := rr rfl
end
theorem st_nm (i : Nat) (v : Val) (l : Loc) : store (.nm i) v l = some (l.set i (some v)) := rr rfl
theorem st_tup (ts : T) (xs : List Val) (l : Loc) : store (.tup ts) (.tup xs) l = storeL ts xs l := rr rfl
theorem st_nl (l : Loc) : storeL .nl [] l = some l := rr rfl
theorem st_cs (t r : T) (x : Val) (xs : List Val) (l : Loc) : storeL (.cs t r) (x :: xs) l = (store t x l).bind fun l1 => storeL r xs l1 := rr rfl
theorem st_2 (i j : Nat) (x y : Val) (l : Loc) : store2 i j [x, y] l = some ((l.set i (some x)).set j (some y)) := rr rfl
theorem bin_ii (op : Operator) (i j : Int) : binop op (.int i) (.int j) = binI op i j := rr rfl
theorem bin_add (i j : Int) : binI .Add i j = some (.int (i + j)) := rr rfl
theorem bin_sub (i j : Int) : binI .Sub i j = some (.int (i - j)) := rr rfl
theorem bin_mul {i j : Int} (h : bits i + bits j ≤ 134217728) : binI .Mult i j = some (.int (i * j)) := if_pos h
theorem bin_div {i j : Int} (h0 : j ≠ 0) (h : Builtin.divisionGoesByPylong i j = false) : binI .FloorDiv i j = some (.int (i.fdiv j)) := if_pos ⟨h0, h⟩
theorem bin_mod {i j : Int} (h0 : j ≠ 0) : binI .Mod i j = some (.int (i.fmod j)) := if_pos h0
theorem bin_pow {i j : Int} (h0 : 0 ≤ j) (h : (bits i : Int) * j ≤ 2 ^ 27) : binI .Pow i j = some (.int (i ^ j.toNat)) := if_pos ⟨h0, h⟩
theorem bin_shl {i j : Int} (h0 : 0 ≤ j) (h : (bits i : Int) + j ≤ 2 ^ 27) : binI .LShift i j = some (.int (i * 2 ^ j.toNat)) := if_pos ⟨h0, h⟩
theorem cmp_ii (op : CmpOp) (i j : Int) : cmpop op (.int i) (.int j) = cmpI op i j := rr rfl
theorem cmp_eq (i j : Int) : cmpI .Eq i j = some (decide (i = j)) := rr rfl
theorem cmp_ne (i j : Int) : cmpI .NotEq i j = some (!decide (i = j)) := rr rfl
theorem cmp_lt (i j : Int) : cmpI .Lt i j = some (decide (i < j)) := rr rfl
theorem cmp_le (i j : Int) : cmpI .LtE i j = some (decide (i ≤ j)) := rr rfl
theorem cmp_gt (i j : Int) : cmpI .Gt i j = some (decide (j < i)) := rr rfl
theorem cmp_ge (i j : Int) : cmpI .GtE i j = some (decide (j ≤ i)) := rr rfl
theorem seq_lst (h : Heap) (xs : List Val) : asSeq h (.lst xs) = some xs := rr rfl
theorem seq_tup (h : Heap) (xs : List Val) : asSeq h (.tup xs) = some xs := rr rfl
theorem seq_ref {h : Heap} {n : Nat} {xs : List Val} (e : h[n]? = some (.lst xs)) : asSeq h (.ref n) = some xs := by
  show (match h[n]? with | some (.lst xs) => some xs | none => none) = _
  rw [e]
/-- the list of an object -/
def objL : Option Obj → Option (List Val)
  | some (.lst xs) => some xs
  | none => none
theorem objL_s (xs : List Val) : objL (some (.lst xs)) = some xs := rr rfl
theorem seq_refO (h : Heap) (n : Nat) : asSeq h (.ref n) = objL h[n]? := rr rfl
def setL (h : Heap) (n : Nat) (k : Int) (e : Val) (xs : List Val) : Option Heap := match L2.ixN xs.length k with
  | some j => if pure0 e then some (h.set n (.lst (xs.set j e))) else none
  | none => none
theorem setix_ref (h : Heap) (n : Nat) (k : Int) (e : Val) : setixO h (.ref n) (.int k) e = (objL h[n]?).bind (setL h n k e) := by
  show (match h[n]? with
    | some (.lst xs) => (match L2.ixN xs.length k with
      | some j => if pure0 e then some (h.set n (.lst (xs.set j e))) else none
      | none => none)
    | none => none) = _
  cases q : h[n]? with
  | none => rfl
  | some o =>
    cases o with
    | lst xs => rfl
theorem setL_0 (h : Heap) (n : Nat) (e x : Val) (xs : List Val) (p : pure0 e = true) : setL h n 0 e (x :: xs) = some (h.set n (.lst (e :: xs))) := by
  have z : L2.ixN (x :: xs).length 0 = some 0 := by
    unfold L2.ixN
    rw [if_pos (by decide), if_pos (by rw [List.length_cons]; omega)]
    rfl
  unfold setL
  rw [z]
  exact if_pos p
theorem setL_1 (h : Heap) (n : Nat) (e x y : Val) (xs : List Val) (p : pure0 e = true) : setL h n 1 e (x :: y :: xs) = some (h.set n (.lst (x :: e :: xs))) := by
  have z : L2.ixN (x :: y :: xs).length 1 = some 1 := by
    unfold L2.ixN
    rw [if_pos (by decide), if_pos (by rw [List.length_cons, List.length_cons]; omega)]
    rfl
  unfold setL
  rw [z]
  exact if_pos p
theorem setL_2 (h : Heap) (n : Nat) (e x y w : Val) (xs : List Val) (p : pure0 e = true) : setL h n 2 e (x :: y :: w :: xs) = some (h.set n (.lst (x :: y :: e :: xs))) := by
  have z : L2.ixN (x :: y :: w :: xs).length 2 = some 2 := by
    unfold L2.ixN
    rw [if_pos (by decide), if_pos (by rw [List.length_cons, List.length_cons, List.length_cons]; omega)]
    rfl
  unfold setL
  rw [z]
  exact if_pos p
theorem bm_rev (h : Heap) (n : Nat) : bmF h .reverse (.ref n) [] = (objL h[n]?).map fun xs => (.non, h.set n (.lst xs.reverse)) := by
  show (match h[n]? with | some (.lst xs) => some (Val.non, h.set n (.lst xs.reverse)) | none => none) = _
  cases q : h[n]? with
  | none => rfl
  | some o =>
    cases o with
    | lst xs => rfl
theorem bi_abs (h : Heap) (i : Int) : biF h .abs [.int i] = some (.int i.natAbs) := by
  show some (Val.int (if i < 0 then -i else i)) = _
  congr 2
  split <;> omega
theorem bi_max (h : Heap) (i j : Int) : biF h .max2 [.int i, .int j] = some (.int (max i j)) := by
  show some (Val.int (if j > i then j else i)) = _
  congr 2
  split <;> omega
theorem bi_min (h : Heap) (i j : Int) : biF h .min2 [.int i, .int j] = some (.int (min i j)) := by
  show some (Val.int (if j < i then j else i)) = _
  congr 2
  split <;> omega
theorem bi_int_i (h : Heap) (i : Int) : biF h .int [.int i] = some (.int i) := rr rfl
theorem bi_int_b (h : Heap) (b : Bool) : biF h .int [.bl b] = some (.int (if b then 1 else 0)) := rr rfl
theorem bi_len_l (h : Heap) (xs : List Val) : biF h .len [.lst xs] = some (.int xs.length) := rr rfl
theorem bi_len_t (h : Heap) (xs : List Val) : biF h .len [.tup xs] = some (.int xs.length) := rr rfl
theorem bi_isi (h : Heap) (v : Val) (n : String) : biF h .isi [v, .ty n] = (match tyName h v with | some t => (L2.kitB t n).map .bl | none => none) := rr rfl
theorem kit_int_int : L2.kitB "int" "int" = some true := by decide +kernel
theorem kit_int_bool : L2.kitB "int" "bool" = some false := by decide +kernel
theorem isi_int (h : Heap) (i : Int) : biF h .isi [.int i, .ty "int"] = some (.bl true) := by
  show (L2.kitB "int" "int").map Val.bl = _
  rw [kit_int_int]
  rfl
theorem isi_int_bool (h : Heap) (i : Int) : biF h .isi [.int i, .ty "bool"] = some (.bl false) := by
  show (L2.kitB "int" "bool").map Val.bl = _
  rw [kit_int_bool]
  rfl
theorem bm_bits (h : Heap) (i : Int) : bmF h .bits (.int i) [] = some (.int (bits i : Nat), h) := rr rfl
theorem rng_i {j : Int} {h : Heap} (h0 : j < 2 ^ 62) (h1 : -(2 ^ 62) ≤ j) : rngItems [.int j] h = .ok (rangeL 0 j.toNat) h := if_pos ⟨h0, h1⟩
theorem seqI_l (xs : List Val) (h : Heap) : seqItems (.lst xs) h = .ok xs h := rr rfl
theorem seqI_t (xs : List Val) (h : Heap) : seqItems (.tup xs) h = .ok xs h := rr rfl
theorem lstR_v {vs : List Val} (h : Heap) (e : vs.length ≤ 1000) : lstR false vs h = .ok (.lst vs) h := if_pos e
theorem lstR_h {vs : List Val} (h : Heap) (e : vs.length ≤ 1000) (p : pureL vs = true) : lstR true vs h = .ok (.ref h.length) (h ++ [.lst vs]) := by
  unfold lstR
  rw [if_pos e, if_pos rfl, if_pos p]
theorem tupR_v {vs : List Val} (h : Heap) (e : vs.length ≤ 1000) : tupR vs h = .ok (.tup vs) h := if_pos e
theorem rl_nil (b : Nat) : refsLtL b [] = true := rr rfl
theorem rl_cons (b : Nat) (x : Val) (xs : List Val) : refsLtL b (x :: xs) = (refsLt b x && refsLtL b xs) := rr rfl
theorem rv_int (b : Nat) (i : Int) : refsLt b (.int i) = true := rr rfl
theorem rv_bl (b : Nat) (i : Bool) : refsLt b (.bl i) = true := rr rfl
theorem rv_non (b : Nat) : refsLt b .non = true := rr rfl
theorem rv_str (b : Nat) (s : Str) : refsLt b (.str s) = true := rr rfl
theorem rv_tup (b : Nat) (xs : List Val) : refsLt b (.tup xs) = refsLtL b xs := rr rfl
theorem rv_lst (b : Nat) (xs : List Val) : refsLt b (.lst xs) = refsLtL b xs := rr rfl
/-- a def's end -/
def endF (f : Fn) (b : Nat) : Out → Res Val
  | .nx _ h1 => finish f b .non h1
  | .rt v h1 => finish f b v h1
  | .exc c v _ h1 => Res.opt (fz h1 b v) fun w => .exc c w (h1.take b)
  | _ => .bad
theorem end_nx (f : Fn) (b : Nat) (l : Loc) (h : Heap) : endF f b (.nx l h) = finish f b .non h := rr rfl
theorem end_rt (f : Fn) (b : Nat) (v : Val) (h : Heap) : endF f b (.rt v h) = finish f b v h := rr rfl
theorem callF_succ {P : List Fn} {W k i : Nat} {vs : List Val} {h : Heap} {f : Fn} (hf : P[i]? = some f) (hl : vs.length = f.np) : callF P W (k + 1) i vs h = endF f h.length (run ⟨callF P W k, W⟩ f.body (vs.map some ++ List.replicate (f.n - f.np) none) h) := by
  show (match P[i]? with | none => _ | some f => _) = _
  rw [hf]
  show (if vs.length = f.np then _ else _) = _
  rw [if_pos hl]
  rfl
theorem callF_go {P : List Fn} {W k i : Nat} {vs : List Val} {h : Heap} {f : Fn} (hf : P[i]? = some f) (body : S) (n : Nat) (hl : vs.length = f.np := by rfl) (hb : f.body = body := by rfl) (hn : f.n - f.np = n := by rfl) :
    callF P W (k + 1) i vs h = endF f h.length (run ⟨callF P W k, W⟩ body (vs.map some ++ List.replicate n none) h) := by
  rw [callF_succ hf hl, hb, hn]
theorem finish_v {f : Fn} {b : Nat} {v : Val} {h : Heap} (e : f.frz = true) (p : refsLt b v = true) (hb : b = h.length) (t : ∀ xs, v ≠ .tup xs) : finish f b v h = .ok v h := by
  unfold finish
  rw [e, if_pos rfl]
  have z : fz h b v = some v := by
    cases v with
    | tup xs => exact absurd rfl (t xs)
    | ref n =>
      show (if n < b then some (Val.ref n) else _) = _
      rw [if_pos (of_decide_eq_true p)]
    | lst xs =>
      show (if refsLtL b xs = true then some (Val.lst xs) else none) = _
      rw [if_pos (show refsLtL b xs = true from p)]
    | _ => rfl
  rw [z, hb]
  simp
theorem finish_i {f : Fn} {i : Int} {h : Heap} (e : f.frz = true) : finish f h.length (.int i) h = .ok (.int i) h := finish_v e rfl rfl (fun _ z => nomatch z)
theorem finish_b {f : Fn} {i : Bool} {h : Heap} (e : f.frz = true) : finish f h.length (.bl i) h = .ok (.bl i) h := finish_v e rfl rfl (fun _ z => nomatch z)
theorem finish_bt {f : Fn} {b : Nat} {i : Bool} {h h' : Heap} (e : f.frz = true) (t : h.take b = h') : finish f b (.bl i) h = .ok (.bl i) h' := by
  unfold finish
  rw [e, if_pos rfl]
  show Res.ok (Val.bl i) (h.take b) = _
  rw [t]
theorem finish_it {f : Fn} {b : Nat} {i : Int} {h h' : Heap} (e : f.frz = true) (t : h.take b = h') : finish f b (.int i) h = .ok (.int i) h' := by
  unfold finish
  rw [e, if_pos rfl]
  show Res.ok (Val.int i) (h.take b) = _
  rw [t]
theorem finish_keep {f : Fn} {b : Nat} {v : Val} {h : Heap} (e : f.frz = false) : finish f b v h = .ok v h := by
  unfold finish
  rw [e, if_neg Bool.false_ne_true]
theorem at0 {A : Type} (x : A) (xs : List A) : L2.atI (x :: xs) 0 = some x := L2.atI_nat (j := 0) rfl
theorem at1 {A : Type} (x y : A) (xs : List A) : L2.atI (x :: y :: xs) 1 = some y := L2.atI_nat (j := 1) rfl
theorem at2 {A : Type} (x y z : A) (xs : List A) : L2.atI (x :: y :: z :: xs) 2 = some z := L2.atI_nat (j := 2) rfl
theorem at3 {A : Type} (x y z w : A) (xs : List A) : L2.atI (x :: y :: z :: w :: xs) 3 = some w := L2.atI_nat (j := 3) rfl
theorem at4 {A : Type} (x y z w v : A) (xs : List A) : L2.atI (x :: y :: z :: w :: v :: xs) 4 = some v := L2.atI_nat (j := 4) rfl
theorem bits_le {x : Int} {n : Nat} (h : x.natAbs < 2 ^ n) : bits x ≤ n := PyProof.Rows.intBits_le h
theorem lt_bits (x : Int) : x.natAbs < 2 ^ bits x := by
  show x.natAbs < 2 ^ Builtin.Int.intBits x
  unfold Builtin.Int.intBits
  split
  · rename_i e
    have z : x = 0 := by simpa using e
    subst z
    decide
  · rename_i e
    have z : x.natAbs ≠ 0 := by simpa using e
    exact (Nat.log2_lt z).mp (Nat.lt_succ_self _)
theorem pylong_small {i j : Int} (h : bits j ≤ 9000) : Builtin.divisionGoesByPylong i j = false := by
  have h1 : j.natAbs.log2 / 30 + 1 ≤ 300 ∨ j = 0 := by
    have h : Builtin.Int.intBits j ≤ 9000 := h
    unfold Builtin.Int.intBits at h
    split at h
    · rename_i e
      exact .inr (by simpa using e)
    · left
      omega
  unfold Builtin.divisionGoesByPylong
  rcases h1 with h1 | h1
  · have z : ((if j == 0 then 0 else j.natAbs.log2 / 30 + 1) : Nat) ≤ 300 := by
      split
      · exact Nat.zero_le _
      · exact h1
    simp only [Bool.and_eq_false_iff, decide_eq_false_iff_not]
    left
    omega
  · subst h1
    rfl
/-! ### slots behind a turn -/
def trim1 (b : Nat) (o : Option Val) : Option Val := match o with
  | some v => if refsLt b v then some v else none
  | none => none
theorem trimL_nil (b : Nat) : trimL b [] = [] := rr rfl
theorem trimL_cons (b : Nat) (o : Option Val) (l : Loc) : trimL b (o :: l) = trim1 b o :: trimL b l := rr rfl
theorem trim1_s {b : Nat} {v : Val} (h : refsLt b v = true) : trim1 b (some v) = some v := if_pos h
theorem refsLtL_ints (b : Nat) : ∀ ns : List Int, refsLtL b (ns.map .int) = true
  | [] => rfl
  | n :: ns => by
    show (true && refsLtL b (ns.map .int)) = true
    rw [refsLtL_ints b ns]
    rfl
theorem rangeL_succ (lo : Int) (n : Nat) : rangeL lo (n + 1) = .int lo :: rangeL (lo + 1) n := rr rfl
theorem rangeL_zero (lo : Int) : rangeL lo 0 = [] := rr rfl
/-! ### written powers -/
theorem p10_6 : binI .Pow 10 6 = some (.int 1000000) := by kernel_rfl
theorem p10_9 : binI .Pow 10 9 = some (.int 1000000000) := by kernel_rfl
theorem p10_10 : binI .Pow 10 10 = some (.int 10000000000) := by kernel_rfl
theorem p10_12 : binI .Pow 10 12 = some (.int 1000000000000) := by kernel_rfl
theorem p10_18 : binI .Pow 10 18 = some (.int 1000000000000000000) := by kernel_rfl
theorem p10_27 : binI .Pow 10 27 = some (.int 1000000000000000000000000000) := by kernel_rfl
theorem p10_30 : binI .Pow 10 30 = some (.int 1000000000000000000000000000000) := by kernel_rfl
/-! ### sizes -/
theorem bits_abs {a b : Int} (h : a.natAbs ≤ b.natAbs) : bits a ≤ bits b := bits_le (Nat.lt_of_le_of_lt h (lt_bits b))
theorem bits_mul (a b : Int) : bits (a * b) ≤ bits a + bits b := bits_le (by
  rw [Int.natAbs_mul, Nat.pow_add]
  exact Nat.mul_lt_mul'' (lt_bits a) (lt_bits b))
theorem two_le {a b : Nat} (h : a ≤ b) : 2 ^ a ≤ 2 ^ b := Nat.pow_le_pow_right (by decide) h
theorem bits_add (a b : Int) : bits (a + b) ≤ max (bits a) (bits b) + 1 := bits_le (by
  have h1 := lt_bits a
  have h2 := lt_bits b
  have h3 := two_le (Nat.le_max_left (bits a) (bits b))
  have h4 := two_le (Nat.le_max_right (bits a) (bits b))
  rw [Nat.pow_succ]
  omega)
theorem bits_sub (a b : Int) : bits (a - b) ≤ max (bits a) (bits b) + 1 := bits_le (by
  have h1 := lt_bits a
  have h2 := lt_bits b
  have h3 := two_le (Nat.le_max_left (bits a) (bits b))
  have h4 := two_le (Nat.le_max_right (bits a) (bits b))
  rw [Nat.pow_succ]
  omega)
theorem bits_neg (a : Int) : bits (-a) ≤ bits a := bits_abs (by omega)
theorem bits_pos {a b : Int} (h0 : 0 ≤ a) (h : a ≤ b) : bits a ≤ bits b := bits_abs (by omega)
theorem bits_nat {n k : Nat} (h : n < 2 ^ k) : bits (n : Int) ≤ k := bits_le (by rw [Int.natAbs_natCast]; exact h)
theorem bits_lt {a : Int} {k : Nat} (h0 : 0 ≤ a) (h : a < 2 ^ k) : bits a ≤ k := by
  obtain ⟨n, rfl⟩ := Int.eq_ofNat_of_zero_le h0
  refine bits_nat ?_
  exact_mod_cast h
theorem fdiv_nat (a b : Nat) : Int.fdiv (a : Int) (b : Int) = ((a / b : Nat) : Int) := by
  rw [Int.fdiv_eq_ediv_of_nonneg _ (by omega)]
  rfl
theorem fmod_nat (a b : Nat) : Int.fmod (a : Int) (b : Int) = ((a % b : Nat) : Int) := by
  rw [Int.fmod_eq_emod_of_nonneg _ (by omega)]
  rfl
theorem fmod_rng (a : Int) {b : Int} (hb : 0 < b) : 0 ≤ a.fmod b ∧ a.fmod b < b := by
  rw [Int.fmod_eq_emod_of_nonneg _ (by omega)]
  exact ⟨Int.emod_nonneg _ (by omega), Int.emod_lt_of_pos _ hb⟩
theorem fdiv_pos {a b : Int} (ha : 0 ≤ a) (hb : 0 < b) : 0 ≤ a.fdiv b ∧ a.fdiv b ≤ a := by
  rw [Int.fdiv_eq_ediv_of_nonneg _ (by omega)]
  exact ⟨Int.ediv_nonneg ha (by omega), Int.ediv_le_self _ ha⟩
theorem nlt_up {a k m : Nat} (h : a < 2 ^ k) (hm : k ≤ m) : a < 2 ^ m := Nat.lt_of_lt_of_le h (two_le hm)
theorem nlt_add {a b k : Nat} (ha : a < 2 ^ k) (hb : b < 2 ^ k) : a + b < 2 ^ (k + 1) := by
  rw [Nat.pow_succ]
  omega
theorem nlt_mul {a b k m : Nat} (ha : a < 2 ^ k) (hb : b < 2 ^ m) : a * b < 2 ^ (k + m) := by
  rw [Nat.pow_add]
  exact Nat.mul_lt_mul'' ha hb
end MP
/-! Whole roots, in plain Lean. -/
namespace MP
theorem isq_ex : ∀ n : Nat, ∃ r : Nat, r * r ≤ n ∧ n < (r + 1) * (r + 1)
  | 0 => ⟨0, by decide, by decide⟩
  | n + 1 => by
    obtain ⟨r, h1, h2⟩ := isq_ex n
    by_cases h : n + 1 < (r + 1) * (r + 1)
    · exact ⟨r, by omega, h⟩
    · refine ⟨r + 1, by omega, ?_⟩
      have e : (r + 1 + 1) * (r + 1 + 1) = (r + 1) * (r + 1) + 2 * (r + 1) + 1 := by
        simp only [Nat.add_mul, Nat.mul_add, Nat.one_mul, Nat.mul_one]
        omega
      omega
noncomputable def isq (n : Nat) : Nat := Classical.choose (isq_ex n)
theorem isq_le (n : Nat) : isq n * isq n ≤ n := (Classical.choose_spec (isq_ex n)).1
theorem lt_isq (n : Nat) : n < (isq n + 1) * (isq n + 1) := (Classical.choose_spec (isq_ex n)).2
theorem sq_le {a b : Nat} (h : a ≤ b) : a * a ≤ b * b := Nat.mul_le_mul h h
theorem le_of_sq {a b : Nat} (h : a * a < (b + 1) * (b + 1)) : a ≤ b := by
  by_cases c : a ≤ b
  · exact c
  · have z := sq_le (show b + 1 ≤ a by omega)
    omega
theorem isq_eq {n r : Nat} (h1 : r * r ≤ n) (h2 : n < (r + 1) * (r + 1)) : isq n = r := by
  have a := isq_le n
  have b := lt_isq n
  have c : r ≤ isq n := le_of_sq (by omega)
  have d : isq n ≤ r := le_of_sq (by omega)
  omega
/-- a Newton step stays at or above the root -/
theorem newton_ge {n x : Nat} (hx : 0 < x) : isq n ≤ (x + n / x) / 2 := by
  generalize hs : isq n = s
  have h1 := isq_le n
  rw [hs] at h1
  have key : 2 * s ≤ x + n / x := by
    by_cases c : 2 * s ≤ x
    · exact Nat.le_trans c (Nat.le_add_right _ _)
    · have e : (2 * s - x) * x ≤ n := by
        refine Nat.le_trans ?_ h1
        obtain ⟨d, hd⟩ : ∃ d, 2 * s = x + d := ⟨2 * s - x, by omega⟩
        have e2 : 2 * s - x = d := by omega
        rw [e2]
        have e3 : (2 * s) * (2 * s) = (x + d) * (x + d) := by rw [hd]
        have e4 : (2 * s) * (2 * s) = 4 * (s * s) := by
          rw [Nat.mul_mul_mul_comm]
        have e5 : (x + d) * (x + d) = x * x + 2 * (d * x) + d * d := by
          simp only [Nat.add_mul, Nat.mul_add]
          rw [Nat.mul_comm x d]
          omega
        have e6 : 2 * (d * x) ≤ x * x + d * d := by
          rcases Nat.le_total d x with q | q
          · obtain ⟨t, rfl⟩ := Nat.exists_eq_add_of_le q
            simp only [Nat.add_mul, Nat.mul_add]
            rw [Nat.mul_comm t d]
            have := Nat.zero_le (t * t)
            omega
          · obtain ⟨t, rfl⟩ := Nat.exists_eq_add_of_le q
            simp only [Nat.add_mul, Nat.mul_add]
            rw [Nat.mul_comm t x]
            have := Nat.zero_le (t * t)
            omega
        omega
      have := (Nat.le_div_iff_mul_le hx).mpr e
      omega
  omega
/-- where it does not go down, it is there -/
theorem newton_end {n x : Nat} (hx : 0 < x) (h : x ≤ (x + n / x) / 2) : x * x ≤ n := by
  have h1 : x ≤ n / x := by omega
  have := (Nat.le_div_iff_mul_le hx).mp h1
  exact this
theorem isq_pos {n : Nat} (h : 0 < n) : 0 < isq n := by
  have := lt_isq n
  rcases Nat.eq_zero_or_pos (isq n) with z | z
  · rw [z] at this
    omega
  · exact z
theorem isq_mono {a b : Nat} (h : a ≤ b) : isq a ≤ isq b := by
  have h1 := isq_le a
  have h2 := lt_isq b
  exact le_of_sq (by omega)
theorem isq_le_pow {n k : Nat} (h : n < 2 ^ (2 * k)) : isq n < 2 ^ k := by
  have h1 := isq_le n
  rcases Nat.lt_or_ge (isq n) (2 ^ k) with c | c
  · exact c
  · have := sq_le c
    rw [← Nat.pow_add] at this
    rw [Nat.two_mul] at h
    omega
end MP
/-! Defs that many laws share: the draws, whole roots, the greatest common divisor. -/
namespace MP
open PySem
theorem setix_at {h : Heap} {n j : Nat} {k : Int} {xs : List Val} {e : Val} (hn : h[n]? = some (.lst xs)) (hj : L2.ixN xs.length k = some j) (p : pure0 e = true) : setixO h (.ref n) (.int k) e = some (h.set n (.lst (xs.set j e))) := by
  unfold setixO
  simp only [hn, hj]
  rw [if_pos p]
theorem set_get {h : Heap} {r : Nat} {o o' : Obj} (hr : h[r]? = some o) : (h.set r o')[r]? = some o' := List.getElem?_set_self (List.getElem?_eq_some_iff.mp hr).1
theorem ix3_0 {x y z : Val} : L2.ixN [x, y, z].length 0 = some 0 := rfl
theorem ix3_2 {x y z : Val} : L2.ixN [x, y, z].length 2 = some 2 := rfl
local macro_rules | `(tactic| walk_at "mp") => `(tactic| try simp only [e_var, e_con, e_bt, e_tup, e_lst, e_bin, e_neg, e_cmp, e_and, e_or, e_not, e_ife, e_cal, e_bi, e_bm, e_ix, es_nl, es_cs, t_and, t_or, t_not, t_cmp, t_tst, i_seq, i_rng,
  r_nop, r_seq, r_asg, r_par, r_setix, r_ret, r_exp, r_ite, r_whl, r_for, r_scope, st_nm, st_tup, st_nl, st_cs, st_2, bin_ii, bin_add, bin_sub, cmp_ii, cmp_eq, cmp_ne, cmp_lt, cmp_le, cmp_gt, cmp_ge, seq_lst, seq_tup, bi_abs, bi_max, bi_min, bi_int_i, bi_int_b, bi_len_l, bi_len_t, isi_int, isi_int_bool, bm_bits,
  seqI_l, seqI_t, varR_ok, andR_t, andR_f, orR_t, orR_f, notR_b, negR_i, tstR_b, ixR_i, at0, at1, at2, at3, at4, bind_ok, bind_exc, bind_bad, opt_some, opt_none, out_ok, out_exc, out_bad, oopt_some, oopt_none, thn_nx, thn_rt, thn_bk, thn_ct, thn_exc, thn_bad, turn_nx, turn_ct, turn_bk, turn_rt, turn_exc, turn_bad, trim_nx, trim_bk, trim_ct, trim_rt, trim_exc, trim_bad,
  end_nx, end_rt, objL_s, seq_refO, setix_ref, setL_0, setL_1, setL_2, bm_rev, Option.map_some, List.reverse_cons, List.reverse_nil, fl_nil, fl_cons, tupR_v, lstR_v, lstR_h, rl_nil, rl_cons, rv_int, rv_bl, rv_non, rv_str, rv_tup, rv_lst, Bool.and_self, Bool.and_true, Bool.true_and, List.length_cons, List.length_nil, Nat.zero_add, Nat.reduceAdd, Nat.reduceLeDiff, p10_6, p10_9, p10_10, p10_12, p10_18, p10_27, p10_30, List.getElem?_cons_zero, List.getElem?_cons_succ, List.set_cons_zero, List.set_cons_succ, List.map_cons, List.map_nil, List.cons_append, List.nil_append, List.append_nil, List.replicate, Nat.sub_self, Nat.reduceSub, Option.bind_some, decide_true, decide_false, Bool.not_true, Bool.not_false, if_true, if_false, Bool.false_eq_true, ↓reduceIte, reduceCtorEq])
local macro_rules | `(tactic| walk_at "mph") => `(tactic| try simp only [*, bin_mod, bin_mul, ne_eq, Int.reduceEq, not_false_eq_true, e_var, e_con, e_bt, e_tup, e_lst, e_bin, e_neg, e_cmp, e_and, e_or, e_not, e_ife, e_cal, e_bi, e_bm, e_ix, es_nl, es_cs, t_and, t_or, t_not, t_cmp, t_tst, i_seq, i_rng,
  r_nop, r_seq, r_asg, r_par, r_setix, r_ret, r_exp, r_ite, r_whl, r_for, r_scope, st_nm, st_tup, st_nl, st_cs, st_2, bin_ii, bin_add, bin_sub, cmp_ii, cmp_eq, cmp_ne, cmp_lt, cmp_le, cmp_gt, cmp_ge, seq_lst, seq_tup, bi_abs, bi_max, bi_min, bi_int_i, bi_int_b, bi_len_l, bi_len_t, isi_int, isi_int_bool, bm_bits,
  seqI_l, seqI_t, varR_ok, andR_t, andR_f, orR_t, orR_f, notR_b, negR_i, tstR_b, ixR_i, at0, at1, at2, at3, at4, bind_ok, bind_exc, bind_bad, opt_some, opt_none, out_ok, out_exc, out_bad, oopt_some, oopt_none, thn_nx, thn_rt, thn_bk, thn_ct, thn_exc, thn_bad, turn_nx, turn_ct, turn_bk, turn_rt, turn_exc, turn_bad, trim_nx, trim_bk, trim_ct, trim_rt, trim_exc, trim_bad,
  end_nx, end_rt, objL_s, seq_refO, setix_ref, setL_0, setL_1, setL_2, bm_rev, Option.map_some, List.reverse_cons, List.reverse_nil, fl_nil, fl_cons, tupR_v, lstR_v, lstR_h, rl_nil, rl_cons, rv_int, rv_bl, rv_non, rv_str, rv_tup, rv_lst, Bool.and_self, Bool.and_true, Bool.true_and, List.length_cons, List.length_nil, Nat.zero_add, Nat.reduceAdd, Nat.reduceLeDiff, p10_6, p10_9, p10_10, p10_12, p10_18, p10_27, p10_30, List.getElem?_cons_zero, List.getElem?_cons_succ, List.set_cons_zero, List.set_cons_succ, List.map_cons, List.map_nil, List.cons_append, List.nil_append, List.append_nil, List.replicate, Nat.sub_self, Nat.reduceSub, Option.bind_some, decide_true, decide_false, Bool.not_true, Bool.not_false, if_true, if_false, Bool.false_eq_true, ↓reduceIte, reduceCtorEq])
/-! ### common, whole_root -/
def bCommon : S := (.seq (.asg (.nm 0) (.bi .abs (.cs (.var 0) .nl))) (.seq (.asg (.nm 1) (.bi .abs (.cs (.var 1) .nl))) (.seq (.whl (.cmp .Gt (.var 1) (.con (.int 0))) (.seq (.par 0 1 (.cs (.var 1) (.cs (.bin .Mod (.var 0) (.var 1)) .nl))) .nop)) (.seq (.ret (.var 0)) .nop))))
def fCommon : Fn := ⟨2, 2, true, bCommon⟩
theorem common_loop (c : Cf) (h : Heap) : ∀ (n : Nat) (a b : Nat), b < n → whileN (evalT c (.cmp .Gt (.var 1) (.con (.int 0)))) (run c (.seq (.par 0 1 (.cs (.var 1) (.cs (.bin .Mod (.var 0) (.var 1)) .nl))) .nop)) n [some (.int a), some (.int b)] h = .nx [some (.int (Nat.gcd a b)), some (.int 0)] h
  | 0, a, b, hb => absurd hb (Nat.not_lt_zero b)
  | n + 1, a, b, hb => by
    rw [w_succ]
    walk_at "mp"
    by_cases h0 : b = 0
    · subst h0
      simp
    · have hp : (0 : Int) < (b : Int) := by omega
      have hm : Int.fmod (a : Int) (b : Int) = ((a % b : Nat) : Int) := by
        rw [Int.fmod_eq_emod_of_nonneg _ (by omega)]; rfl
      simp only [hp, decide_true, if_true]
      walk_at "mp"
      rw [bin_mod (by omega)]
      walk_at "mp"
      rw [hm, common_loop c h n b (a % b) (by have := Nat.mod_lt a (Nat.pos_of_ne_zero h0); omega)]
      rw [Nat.gcd_comm a b, Nat.gcd_rec b a, Nat.gcd_comm]
theorem common_ok {P : List Fn} {i W k : Nat} {a b : Int} {h : Heap} (hP : P[i]? = some fCommon) (hW : b.natAbs < W) : callF P W (k + 1) i [.int a, .int b] h = .ok (.int (Int.gcd a b)) h := by
  rw [callF_go hP bCommon 0]
  unfold bCommon
  walk_at "mp"
  rw [common_loop _ _ _ _ _ hW]
  walk_at "mp"
  rw [finish_i rfl]
  rfl
def bRoot : S := (.seq (.ite (.cmp .Eq (.var 0) (.con (.int 0))) (.seq (.ret (.con (.int 0))) .nop) .nop) (.seq (.asg (.nm 1) (.bin .LShift (.con (.int 1)) (.bin .FloorDiv (.bin .Add (.bm .bits (.var 0) .nl) (.con (.int 1))) (.con (.int 2))))) (.seq (.asg (.nm 2) (.bin .FloorDiv (.bin .Add (.var 1) (.bin .FloorDiv (.var 0) (.var 1))) (.con (.int 2)))) (.seq (.whl (.cmp .Lt (.var 2) (.var 1)) (.seq (.asg (.nm 1) (.var 2)) (.seq (.asg (.nm 2) (.bin .FloorDiv (.bin .Add (.var 1) (.bin .FloorDiv (.var 0) (.var 1))) (.con (.int 2)))) .nop))) (.seq (.ret (.var 1)) .nop)))))
def fRoot : Fn := ⟨3, 1, true, bRoot⟩
theorem root_loop (c : Cf) (h : Heap) (n : Nat) (hn : 0 < n) : ∀ (m x : Nat), x < m → 0 < x → x < 2 ^ 9000 → isq n ≤ x →
    ∃ y, whileN (evalT c (.cmp .Lt (.var 2) (.var 1))) (run c (.seq (.asg (.nm 1) (.var 2)) (.seq (.asg (.nm 2) (.bin .FloorDiv (.bin .Add (.var 1) (.bin .FloorDiv (.var 0) (.var 1))) (.con (.int 2)))) .nop))) m
      [some (.int n), some (.int x), some (.int ((x + n / x) / 2 : Nat))] h = .nx [some (.int n), some (.int (isq n)), y] h
  | 0, x, hm, _, _, _ => absurd hm (Nat.not_lt_zero x)
  | m + 1, x, hm, hx, hb, hi => by
    rw [w_succ]
    walk_at "mp"
    by_cases hc : (x + n / x) / 2 < x
    · have hp : 0 < (x + n / x) / 2 := Nat.lt_of_lt_of_le (isq_pos hn) (newton_ge hx)
      have hd : (((x + n / x) / 2 : Nat) : Int) < (x : Int) := by exact_mod_cast hc
      simp only [hd, decide_true, if_true]
      generalize hz : (x + n / x) / 2 = z at *
      rw [bin_div (by omega) (pylong_small (bits_nat (Nat.lt_trans hc hb)))]
      walk_at "mp"
      rw [bin_div (by omega) (pylong_small (by decide +kernel))]
      walk_at "mp"
      have e : Int.fdiv ((z : Int) + Int.fdiv (n : Int) (z : Int)) 2 = (((z + n / z) / 2 : Nat) : Int) := by
        rw [fdiv_nat, ← Int.natCast_add, show (2 : Int) = ((2 : Nat) : Int) from rfl, fdiv_nat]
      rw [e]
      exact root_loop c h n hn m z (by omega) hp (Nat.lt_trans hc hb) (by rw [← hz]; exact newton_ge hx)
    · have hd : ¬ ((((x + n / x) / 2 : Nat) : Int) < (x : Int)) := by
        intro z
        exact hc (by exact_mod_cast z)
      simp only [hd, decide_false, if_false, Bool.false_eq_true]
      have e1 := newton_end (n := n) hx (by omega)
      have e2 : isq n = x := by
        have := lt_isq n
        have : x ≤ isq n := le_of_sq (by omega)
        omega
      rw [e2]
      exact ⟨_, rfl⟩
theorem root_ok {P : List Fn} {i W k n : Nat} {h : Heap} (hP : P[i]? = some fRoot) (hn : n < 2 ^ 16000) (hW : 2 ^ 9000 ≤ W) : callF P W (k + 1) i [.int n] h = .ok (.int (isq n)) h := by
  rw [callF_go hP bRoot 2]
  unfold bRoot
  walk_at "mp"
  by_cases h0 : n = 0
  · subst h0
    have e : isq 0 = 0 := isq_eq (by decide) (by decide)
    rw [e]
    simp
    walk_at "mp"
    exact finish_i rfl
  · have hi : ¬ ((n : Int) = 0) := by omega
    simp only [hi, decide_false, if_false, Bool.false_eq_true]
    walk_at "mp"
    have hb : bits (n : Int) ≤ 16000 := bits_nat hn
    generalize hbb : bits (n : Int) = b at *
    rw [bin_div (by omega) (pylong_small (by decide +kernel))]
    walk_at "mp"
    have e1 : Int.fdiv ((b : Int) + 1) 2 = (((b + 1) / 2 : Nat) : Int) := by
      rw [show (b : Int) + 1 = ((b + 1 : Nat) : Int) from rfl, show (2 : Int) = ((2 : Nat) : Int) from rfl, fdiv_nat]
    rw [e1]
    have b1 : bits 1 = 1 := by decide +kernel
    rw [bin_shl (by omega) (by rw [b1]; omega)]
    walk_at "mp"
    have e2 : (1 : Int) * 2 ^ (((b + 1) / 2 : Nat) : Int).toNat = ((2 ^ ((b + 1) / 2) : Nat) : Int) := by
      rw [Int.toNat_natCast, Int.one_mul]
      exact_mod_cast rfl
    rw [e2]
    have hx : 0 < 2 ^ ((b + 1) / 2) := Nat.two_pow_pos _
    have hlt : 2 ^ ((b + 1) / 2) < 2 ^ 9000 := Nat.pow_lt_pow_right (by decide) (by omega)
    have hnb : n < 2 ^ b := by
      have := lt_bits (n : Int)
      rw [hbb, Int.natAbs_natCast] at this
      exact this
    have hiq : isq n ≤ 2 ^ ((b + 1) / 2) := by
      refine Nat.le_of_lt (isq_le_pow (Nat.lt_of_lt_of_le hnb (two_le ?_)))
      omega
    generalize 2 ^ ((b + 1) / 2) = x at *
    rw [bin_div (by omega) (pylong_small (bits_nat hlt))]
    walk_at "mp"
    rw [bin_div (by omega) (pylong_small (by decide +kernel))]
    walk_at "mp"
    have e : Int.fdiv ((x : Int) + Int.fdiv (n : Int) (x : Int)) 2 = (((x + n / x) / 2 : Nat) : Int) := by
      rw [fdiv_nat, ← Int.natCast_add, show (2 : Int) = ((2 : Nat) : Int) from rfl, fdiv_nat]
    rw [e]
    obtain ⟨y, ey⟩ := root_loop ⟨callF P W k, W⟩ h n (by omega) W x (by omega) hx hlt hiq
    rw [ey]
    walk_at "mp"
    exact finish_i rfl
/-! ### the draws: a box is a list of three ints -/
def IsBox (o : Obj) (n : Nat) : Prop := ∃ a b c : Int, o = .lst [.int a, .int b, .int c] ∧ 0 ≤ a ∧ 0 ≤ b ∧ b < 2147483629 ∧ 0 ≤ c ∧ c ≤ n
theorem IsBox.mono {o : Obj} {n m : Nat} (h : IsBox o n) (hm : n ≤ m) : IsBox o m := by
  obtain ⟨a, b, c, rfl, h1, h2, h3, h4, h5⟩ := h
  exact ⟨a, b, c, rfl, h1, h2, h3, h4, by omega⟩
def bCell : S := (.seq (.ite (.cmp .Lt (.var 1) (.bi .len (.cs (.var 0) .nl))) (.seq (.ret (.ix (.var 0) (.var 1))) .nop) .nop) (.seq (.ret (.bin .Add (.bin .Mult (.con (.int 7919)) (.var 1)) (.con (.int 13)))) .nop))
def fCell : Fn := ⟨2, 2, true, bCell⟩
theorem cell_ok {P : List Fn} {i W k j : Nat} {ns : List Int} {h : Heap} (hP : P[i]? = some fCell) (hj : j < 1000) : ∃ v, callF P W (k + 1) i [.lst (ns.map .int), .int j] h = .ok (.int v) h := by
  rw [callF_go hP bCell 0]
  unfold bCell
  walk_at "mp"
  by_cases hc : j < ns.length
  · have hd : (j : Int) < (((ns.map Val.int).length : Nat) : Int) := by rw [List.length_map]; omega
    simp only [hd, decide_true, if_true]
    have ha : L2.atI (ns.map Val.int) (j : Int) = some (.int ns[j]) := L2.atI_nat (by rw [List.getElem?_map, List.getElem?_eq_getElem hc]; rfl)
    rw [ha]
    walk_at "mp"
    exact ⟨_, finish_i rfl⟩
  · have hd : ¬ ((j : Int) < (((ns.map Val.int).length : Nat) : Int)) := by rw [List.length_map]; omega
    simp only [hd, decide_false, if_false, Bool.false_eq_true]
    walk_at "mp"
    have b1 : bits 7919 ≤ 13 := bits_le (by decide)
    have b2 : bits (j : Int) ≤ 10 := bits_nat (by omega)
    rw [bin_mul (by omega)]
    walk_at "mp"
    exact ⟨_, finish_i rfl⟩
def bBox : S := (.seq (.ret (.lst true (.cs (.bi .max2 (.cs (.con (.int 0)) (.cs (.bin .Sub (.var 0) (.bin .Pow (.con (.int 10)) (.con (.int 18)))) .nl))) (.cs (.bin .Mod (.var 0) (.con (.int 2147483629))) (.cs (.con (.int 0)) .nl))))) .nop)
def fBox : Fn := ⟨1, 1, false, bBox⟩
theorem bits10 : bits 10 = 4 := by decide +kernel
theorem box_ok {P : List Fn} {i W k : Nat} {v : Int} {h : Heap} (hP : P[i]? = some fBox) : ∃ o, callF P W (k + 1) i [.int v] h = .ok (.ref h.length) (h ++ [o]) ∧ IsBox o 0 := by
  rw [callF_go hP bBox 0]
  unfold bBox
  walk_at "mp"
  rw [bin_mod (by decide)]
  walk_at "mp"
  obtain ⟨h1, h2⟩ := fmod_rng v (show (0 : Int) < 2147483629 by decide)
  exact ⟨_, finish_keep rfl, _, _, _, rfl, by omega, h1, h2, Int.le_refl _, Int.le_refl _⟩
def bTake : S := (.seq (.ite (.cmp .Gt (.ix (.var 0) (.con (.int 0))) (.con (.int 0))) (.seq (.asg (.nm 3) (.bin .Mod (.ix (.var 0) (.con (.int 0))) (.var 1))) (.seq (.setix (.var 0) (.con (.int 0)) (.bin .FloorDiv (.ix (.var 0) (.con (.int 0))) (.var 1))) (.seq (.ret (.var 3)) .nop))) .nop) (.seq (.setix (.var 0) (.con (.int 2)) (.bin .Add (.ix (.var 0) (.con (.int 2))) (.con (.int 1)))) (.seq (.asg (.nm 2) (.bin .Mod (.bin .Mult (.bin .Add (.ix (.var 0) (.con (.int 1))) (.con (.int 17))) (.bin .Add (.bin .Mult (.con (.int 7919)) (.ix (.var 0) (.con (.int 2)))) (.con (.int 104729)))) (.con (.int 2147483647)))) (.seq (.asg (.nm 2) (.bin .Mod (.bin .Add (.bin .Pow (.var 2) (.con (.int 5))) (.ix (.var 0) (.con (.int 2)))) (.con (.int 2147483629)))) (.seq (.ret (.bin .Mod (.bin .FloorDiv (.bin .Mod (.bin .Pow (.var 2) (.con (.int 3))) (.con (.int 2147483587))) (.con (.int 8))) (.var 1))) .nop)))))
def fTake : Fn := ⟨4, 2, true, bTake⟩
theorem take_ok {P : List Fn} {i W k r n : Nat} {many : Int} {h : Heap} {o : Obj} (hP : P[i]? = some fTake) (hr : h[r]? = some o) (hB : IsBox o n) (hn : n ≤ 1000000000) (hm : 1 ≤ many) (hmb : bits many ≤ 9000) :
    ∃ v o', callF P W (k + 1) i [.ref r, .int many] h = .ok (.int v) (h.set r o') ∧ 0 ≤ v ∧ v < many ∧ IsBox o' (n + 1) := by
  obtain ⟨a, b, c, rfl, ha, hb, hb2, hc, hc2⟩ := hB
  rw [callF_go hP bTake 2]
  unfold bTake
  have sg := fun o' => set_get (o' := o') hr
  have fin : ∀ (v : Int) (h' : Heap), h'.length = h.length → finish fTake h.length (.int v) h' = .ok (.int v) h' := fun v h' e => by
    rw [← e]
    exact finish_i rfl
  have hm0 : ¬ many = 0 := by omega
  by_cases h0 : 0 < a
  · have g1 := bin_div hm0 (pylong_small (i := a) hmb)
    walk_at "mph"
    obtain ⟨h1, h2⟩ := fmod_rng a (show 0 < many by omega)
    exact ⟨_, _, fin _ _ (by simp), h1, h2, _, _, _, rfl, (fdiv_pos ha (by omega)).1, hb, hb2, hc, by omega⟩
  · have b0 : bits 7919 ≤ 13 := bits_le (by decide)
    have b1 : bits (c + 1) ≤ 31 := bits_lt (by omega) (by omega)
    have g3 : bits 7919 + bits (c + 1) ≤ 134217728 := by omega
    have b2 : bits (b + 17) ≤ 32 := bits_lt (by omega) (by omega)
    have b3 : bits (7919 * (c + 1) + 104729) ≤ 50 := bits_lt (by omega) (by omega)
    have g4 : bits (b + 17) + bits (7919 * (c + 1) + 104729) ≤ 134217728 := by omega
    walk_at "mph"
    generalize hx : Int.fmod ((b + 17) * (7919 * (c + 1) + 104729)) 2147483647 = x
    have hx2 := fmod_rng ((b + 17) * (7919 * (c + 1) + 104729)) (show (0 : Int) < 2147483647 by decide)
    rw [hx] at hx2
    have b4 : bits x ≤ 31 := bits_lt hx2.1 (by omega)
    rw [bin_pow (by decide) (by omega)]
    walk_at "mph"
    generalize hy : Int.fmod (x ^ (5 : Int).toNat + (c + 1)) 2147483629 = y
    have hy2 := fmod_rng (x ^ (5 : Int).toNat + (c + 1)) (show (0 : Int) < 2147483629 by decide)
    rw [hy] at hy2
    have b5 : bits y ≤ 31 := bits_lt hy2.1 (by omega)
    rw [bin_pow (by decide) (by omega)]
    walk_at "mph"
    rw [bin_div (by decide) (pylong_small (by decide +kernel))]
    walk_at "mph"
    obtain ⟨h1, h2⟩ := fmod_rng (((y ^ (3 : Int).toNat).fmod 2147483587).fdiv 8) (show 0 < many by omega)
    exact ⟨_, _, fin _ _ (by simp), h1, h2, _, _, _, rfl, ha, hb, hb2, by omega, by omega⟩
def bGreatL (t : Nat) : S := (.seq (.asg (.nm 2) (.bin .Add (.bin .Mult (.var 2) (.bin .Pow (.con (.int 10)) (.con (.int 9)))) (.cal t (.cs (.var 0) (.cs (.bin .Pow (.con (.int 10)) (.con (.int 9))) .nl))))) .nop)
def bGreat (t : Nat) : S := (.seq (.asg (.nm 2) (.bin .Add (.con (.int 1)) (.cal t (.cs (.var 0) (.cs (.con (.int 9)) .nl))))) (.seq (.for_ (.nm 3) (.iRng (.cs (.var 1) .nl)) (bGreatL t)) (.seq (.ret (.var 2)) .nop)))
def fGreat (t : Nat) : Fn := ⟨4, 2, true, bGreat t⟩
theorem pow2_add (a b : Nat) : (2 : Int) ^ (a + b) = 2 ^ a * 2 ^ b := Int.pow_add 2 a b
theorem pow2_pos (a : Nat) : (0 : Int) < 2 ^ a := by
  have := Nat.two_pow_pos a
  exact_mod_cast this
theorem set_same {h : Heap} {r : Nat} {o : Obj} (hr : h[r]? = some o) : h.set r o = h := by
  apply List.ext_getElem?
  intro i
  by_cases e : r = i
  · subst e
    rw [set_get hr, hr]
  · rw [List.getElem?_set_ne e]
theorem great_loop {P : List Fn} {t W k r : Nat} {ch : Val} (hP : P[t]? = some fTake) : ∀ (n : Nat) (lo number : Int) (kv : Option Val) (hh : Heap) (o : Obj) (m q : Nat), hh[r]? = some o → IsBox o m → m + n ≤ 1000000000 → 1 ≤ number → number < 2 ^ q → q + 30 * n ≤ 100000000 →
    ∃ number' o' kv', forL (.nm 3) (run ⟨callF P W (k + 1), W⟩ (bGreatL t)) (rangeL lo n) [some (.ref r), some ch, some (.int number), kv] hh = .nx [some (.ref r), some ch, some (.int number'), kv'] (hh.set r o') ∧
      1 ≤ number' ∧ number' < 2 ^ (q + 30 * n) ∧ IsBox o' (m + n)
  | 0, lo, number, kv, hh, o, m, q, hr, hB, _, h1, h2, _ => by
    refine ⟨number, o, kv, ?_, h1, h2, hB⟩
    rw [set_same hr]
    rfl
  | n + 1, lo, number, kv, hh, o, m, q, hr, hB, hm, h1, h2, hq => by
    show ∃ number' o' kv', forL (.nm 3) (run ⟨callF P W (k + 1), W⟩ (bGreatL t)) (.int lo :: rangeL (lo + 1) n) _ hh = _ ∧ _
    rw [fl_cons]
    obtain ⟨v, o1, e1, v1, v2, B1⟩ := take_ok (W := W) (k := k) (many := 1000000000) hP hr hB (by omega) (by omega) (by decide +kernel)
    have b1 : bits number ≤ q := bits_lt (by omega) h2
    have b2 : bits 1000000000 ≤ 30 := bits_le (by decide)
    have g1 : bits number + bits 1000000000 ≤ 134217728 := by omega
    have hn2 : number * 1000000000 + v < 2 ^ (q + 30) := by
      rw [pow2_add]
      have e30 : (2 : Int) ^ 30 = 1073741824 := by decide
      rw [e30]
      generalize (2 : Int) ^ q = z at *
      omega
    obtain ⟨n3, o3, kv3, e3, v3, v4, B3⟩ := great_loop (P := P) (W := W) (k := k) (ch := ch) hP n (lo + 1) (number * 1000000000 + v) (some (.int lo)) (hh.set r o1) o1 (m + 1) (q + 30) (set_get hr) B1 (by omega) (by omega) hn2 (by omega)
    refine ⟨n3, o3, kv3, ?_, v3, by rw [show q + 30 * (n + 1) = q + 30 + 30 * n by omega]; exact v4, by rw [show m + (n + 1) = m + 1 + n by omega]; exact B3⟩
    unfold bGreatL at e3 ⊢
    walk_at "mph"
    rw [List.set_set]
theorem great_ok {P : List Fn} {i t W k r n ch : Nat} {h : Heap} {o : Obj} (hP : P[i]? = some (fGreat t)) (hT : P[t]? = some fTake) (hr : h[r]? = some o) (hB : IsBox o n) (hn : n + ch + 1 ≤ 1000000000) (hc : ch ≤ 1000000) :
    ∃ v o', callF P W (k + 2) i [.ref r, .int ch] h = .ok (.int v) (h.set r o') ∧ 1 ≤ v ∧ v < 2 ^ (4 + 30 * ch) ∧ IsBox o' (n + ch + 1) := by
  rw [callF_go hP (bGreat t) 2]
  unfold bGreat
  obtain ⟨v, o1, e1, v1, v2, B1⟩ := take_ok (W := W) (k := k) (many := 9) hT hr hB (by omega) (by omega) (by decide +kernel)
  have e2 := rng_i (j := (ch : Int)) (h := h.set r o1) (by omega) (by omega)
  obtain ⟨n3, o3, kv3, e3, v3, v4, B3⟩ := great_loop (P := P) (W := W) (k := k) (ch := .int ch) hT ch 0 (1 + v) none (h.set r o1) o1 (n + 1) 4 (set_get hr) B1 (by omega) (by omega) (by omega) (by omega)
  rw [Int.toNat_natCast] at e2
  walk_at "mph"
  rw [List.set_set]
  refine ⟨n3, o3, ?_, v3, v4, by rw [show n + ch + 1 = n + 1 + ch by omega]; exact B3⟩
  rw [show h.length = (h.set r o3).length by simp]
  exact finish_i rfl
end MP
namespace MP.G
open PySem L2
def top (i : Nat) : Stmt := PySem.Challenge.pw_heldshapes_k02_whole_roots_and_common.main.body.getD i (.Pass ⟨0, 0, 0, 0⟩)
/-- common -/
def b0w1_0 : S := .seq (.par 0 1 (.cs (.var 1) (.cs (.bin .Mod (.var 0) (.var 1)) .nl))) .nop
def b0_3 : S := .seq (.ret (.var 0)) .nop
def b0_2 : S := .seq (.whl (.cmp .Gt (.var 1) (.con (.int 0))) b0w1_0) b0_3
def b0_1 : S := .seq (.asg (.nm 1) (.bi .abs (.cs (.var 1) .nl))) b0_2
def b0_0 : S := .seq (.asg (.nm 0) (.bi .abs (.cs (.var 0) .nl))) b0_1
def b0 : S := b0_0
def f0 : Fn := ⟨2, 2, true, b0⟩
def d0 : Dn := ⟨"common", "common", top 1, ["one", "other"], ["one", "other"]⟩
/-- whole_root -/
def b1w1_1 : S := .seq (.asg (.nm 2) (.bin .FloorDiv (.bin .Add (.var 1) (.bin .FloorDiv (.var 0) (.var 1))) (.con (.int 2)))) .nop
def b1w1_0 : S := .seq (.asg (.nm 1) (.var 2)) b1w1_1
def b1_4 : S := .seq (.ret (.var 1)) .nop
def b1_3 : S := .seq (.whl (.cmp .Lt (.var 2) (.var 1)) b1w1_0) b1_4
def b1_2 : S := .seq (.asg (.nm 2) (.bin .FloorDiv (.bin .Add (.var 1) (.bin .FloorDiv (.var 0) (.var 1))) (.con (.int 2)))) b1_3
def b1_1 : S := .seq (.asg (.nm 1) (.bin .LShift (.con (.int 1)) (.bin .FloorDiv (.bin .Add (.bm .bits (.var 0) .nl) (.con (.int 1))) (.con (.int 2))))) b1_2
def b1_0 : S := .seq (.ite (.cmp .Eq (.var 0) (.con (.int 0))) (.seq (.ret (.con (.int 0))) .nop) .nop) b1_1
def b1 : S := b1_0
def f1 : Fn := ⟨3, 1, true, b1⟩
def d1 : Dn := ⟨"whole_root", "whole_root", top 2, ["many", "found", "better"], ["many"]⟩
/-- _law_cell -/
def b2_1 : S := .seq (.ret (.bin .Add (.bin .Mult (.con (.int 7919)) (.var 1)) (.con (.int 13)))) .nop
def b2_0 : S := .seq (.ite (.cmp .Lt (.var 1) (.bi .len (.cs (.var 0) .nl))) (.seq (.ret (.ix (.var 0) (.var 1))) .nop) .nop) b2_1
def b2 : S := b2_0
def f2 : Fn := ⟨2, 2, true, b2⟩
def d2 : Dn := ⟨"_law_cell", "_law_cell", top 4, ["_law_script", "_law_k"], ["_law_script", "_law_k"]⟩
/-- _law_box -/
def b3_0 : S := .seq (.ret (.lst true (.cs (.bi .max2 (.cs (.con (.int 0)) (.cs (.bin .Sub (.var 0) (.bin .Pow (.con (.int 10)) (.con (.int 18)))) .nl))) (.cs (.bin .Mod (.var 0) (.con (.int 2147483629))) (.cs (.con (.int 0)) .nl))))) .nop
def b3 : S := b3_0
def f3 : Fn := ⟨1, 1, false, b3⟩
def d3 : Dn := ⟨"_law_box", "_law_box", top 5, ["_law_cell_here"], ["_law_cell_here"]⟩
/-- _law_take -/
def b4_4 : S := .seq (.ret (.bin .Mod (.bin .FloorDiv (.bin .Mod (.bin .Pow (.var 2) (.con (.int 3))) (.con (.int 2147483587))) (.con (.int 8))) (.var 1))) .nop
def b4_3 : S := .seq (.asg (.nm 2) (.bin .Mod (.bin .Add (.bin .Pow (.var 2) (.con (.int 5))) (.ix (.var 0) (.con (.int 2)))) (.con (.int 2147483629)))) b4_4
def b4_2 : S := .seq (.asg (.nm 2) (.bin .Mod (.bin .Mult (.bin .Add (.ix (.var 0) (.con (.int 1))) (.con (.int 17))) (.bin .Add (.bin .Mult (.con (.int 7919)) (.ix (.var 0) (.con (.int 2)))) (.con (.int 104729)))) (.con (.int 2147483647)))) b4_3
def b4_1 : S := .seq (.setix (.var 0) (.con (.int 2)) (.bin .Add (.ix (.var 0) (.con (.int 2))) (.con (.int 1)))) b4_2
def b4_0 : S := .seq (.ite (.cmp .Gt (.ix (.var 0) (.con (.int 0))) (.con (.int 0))) (.seq (.asg (.nm 3) (.bin .Mod (.ix (.var 0) (.con (.int 0))) (.var 1))) (.seq (.setix (.var 0) (.con (.int 0)) (.bin .FloorDiv (.ix (.var 0) (.con (.int 0))) (.var 1))) (.seq (.ret (.var 3)) .nop))) .nop) b4_1
def b4 : S := b4_0
def f4 : Fn := ⟨4, 2, true, b4⟩
def d4 : Dn := ⟨"_law_take", "_law_take", top 6, ["_law_box_here", "_law_many", "_law_number", "_law_digit"], ["_law_box_here", "_law_many"]⟩
/-- _law_great -/
def b5w1_0 : S := .seq (.asg (.nm 2) (.bin .Add (.bin .Mult (.var 2) (.bin .Pow (.con (.int 10)) (.con (.int 9)))) (.cal 4 (.cs (.var 0) (.cs (.bin .Pow (.con (.int 10)) (.con (.int 9))) .nl))))) .nop
def b5_2 : S := .seq (.ret (.var 2)) .nop
def b5_1 : S := .seq (.for_ (.nm 3) (.iRng (.cs (.var 1) .nl)) b5w1_0) b5_2
def b5_0 : S := .seq (.asg (.nm 2) (.bin .Add (.con (.int 1)) (.cal 4 (.cs (.var 0) (.cs (.con (.int 9)) .nl))))) b5_1
def b5 : S := b5_0
def f5 : Fn := ⟨4, 2, true, b5⟩
def d5 : Dn := ⟨"_law_great", "_law_great", top 7, ["_law_box_here", "_law_chunks", "_law_number", "_law_k"], ["_law_box_here", "_law_chunks"]⟩
/-- _law_whole -/
def b6_0 : S := .seq (.ret (.and (.bi .isi (.cs (.var 0) (.cs (.bt "int") .nl))) (.and (.not (.bi .isi (.cs (.var 0) (.cs (.bt "bool") .nl)))) (.cmp .Eq (.var 0) (.var 1))))) .nop
def b6 : S := b6_0
def f6 : Fn := ⟨2, 2, true, b6⟩
def d6 : Dn := ⟨"_law_whole", "_law_whole", top 8, ["_law_found", "_law_due"], ["_law_found", "_law_due"]⟩
/-- _law_root_right -/
def b7w1_0 : S := .seq (.ite (.not (.tst (.cal 6 (.cs (.cal 1 (.cs (.var 4) .nl)) (.cs (.var 5) .nl))))) (.seq (.ret (.con (.bl false))) .nop) .nop) .nop
def b7_5 : S := .seq (.ret (.cal 6 (.cs (.cal 1 (.cs (.var 2) .nl)) (.cs (.var 0) .nl)))) .nop
def b7_4 : S := .seq (.ite (.and (.cmp .Gt (.var 0) (.con (.int 0))) (.not (.tst (.cal 6 (.cs (.cal 1 (.cs (.bin .Add (.var 2) (.con (.int 1))) .nl)) (.cs (.var 0) .nl)))))) (.seq (.ret (.con (.bl false))) .nop) .nop) b7_5
def b7_3 : S := .seq (.ite (.and (.cmp .Gt (.var 0) (.con (.int 0))) (.not (.tst (.cal 6 (.cs (.cal 1 (.cs (.bin .Sub (.var 2) (.con (.int 1))) .nl)) (.cs (.bin .Sub (.var 0) (.con (.int 1))) .nl)))))) (.seq (.ret (.con (.bl false))) .nop) .nop) b7_4
def b7_2 : S := .seq (.for_ (.tup (.cs (.nm 4) (.cs (.nm 5) .nl))) (.iSeq (.lst false (.cs (.tup (.cs (.var 3) (.cs (.var 0) .nl))) (.cs (.tup (.cs (.bin .Add (.var 2) (.bi .min2 (.cs (.var 1) (.cs (.bin .Mult (.con (.int 2)) (.var 0)) .nl)))) (.cs (.var 0) .nl))) (.cs (.tup (.cs (.bin .Add (.var 2) (.bin .Mult (.con (.int 2)) (.var 0))) (.cs (.var 0) .nl))) .nl))))) b7w1_0) b7_3
def b7_1 : S := .seq (.asg (.nm 3) (.bin .Add (.var 2) (.bin .FloorDiv (.bin .Mult (.bin .Mult (.con (.int 2)) (.var 0)) (.bin .Mod (.var 1) (.con (.int 1000)))) (.con (.int 1000))))) b7_2
def b7_0 : S := .seq (.asg (.nm 2) (.bin .Mult (.var 0) (.var 0))) b7_1
def b7 : S := b7_0
def f7 : Fn := ⟨6, 2, true, b7⟩
def d7 : Dn := ⟨"_law_root_right", "_law_root_right", top 9, ["_law_root", "_law_drawn", "_law_square", "_law_amid", "_law_many", "_law_due"], ["_law_root", "_law_drawn"]⟩
/-- _law_common_right -/
def b8w1_0 : S := .seq (.par 5 6 (.cs (.bin .Add (.bin .Mult (.var 5) (.bin .Add (.con (.int 1)) (.cal 4 (.cs (.var 0) (.cs (.bin .Sub (.var 4) (.con (.int 1))) .nl))))) (.var 6)) (.cs (.var 5) .nl))) .nop
def b8w2_0 : S := .seq (.ite (.not (.tst (.cal 6 (.cs (.cal 0 (.cs (.ix (.var 8) (.con (.int 0))) (.cs (.ix (.var 8) (.con (.int 1))) .nl))) (.cs (.var 1) .nl))))) (.seq (.ret (.con (.bl false))) .nop) .nop) .nop
def b8_9 : S := .seq (.ret (.and (.cal 6 (.cs (.cal 0 (.cs (.ix (.var 8) (.con (.int 0))) (.cs (.ix (.var 8) (.con (.int 0))) .nl))) (.cs (.bi .abs (.cs (.ix (.var 8) (.con (.int 0))) .nl)) .nl))) (.cal 6 (.cs (.cal 0 (.cs (.con (.int 0)) (.cs (.con (.int 0)) .nl))) (.cs (.con (.int 0)) .nl))))) .nop
def b8_8 : S := .seq (.ite (.or (.not (.tst (.cal 6 (.cs (.cal 0 (.cs (.con (.int 0)) (.cs (.ix (.var 8) (.con (.int 0))) .nl))) (.cs (.bi .abs (.cs (.ix (.var 8) (.con (.int 0))) .nl)) .nl))))) (.not (.tst (.cal 6 (.cs (.cal 0 (.cs (.ix (.var 8) (.con (.int 1))) (.cs (.con (.int 0)) .nl))) (.cs (.bi .abs (.cs (.ix (.var 8) (.con (.int 1))) .nl)) .nl)))))) (.seq (.ret (.con (.bl false))) .nop) .nop) b8_9
def b8_7 : S := .seq (.for_ (.nm 9) (.iRng (.cs (.con (.int 2)) .nl)) b8w2_0) b8_8
def b8_6 : S := .seq (.ite (.cmp .Eq (.var 3) (.con (.int 1))) (.seq (.exp (.bm .reverse (.var 8) .nl)) .nop) .nop) b8_7
def b8_5 : S := .seq (.asg (.nm 8) (.lst true (.cs (.bin .Mult (.bin .Mult (.ix (.var 2) (.con (.int 0))) (.var 5)) (.var 1)) (.cs (.bin .Mult (.bin .Mult (.ix (.var 2) (.con (.int 1))) (.var 6)) (.var 1)) .nl)))) b8_6
def b8_4 : S := .seq (.for_ (.nm 7) (.iRng (.cs (.bin .Mod (.cal 4 (.cs (.var 0) (.cs (.con (.int 81)) .nl))) (.ix (.lst false (.cs (.con (.int 81)) (.cs (.con (.int 20)) .nl))) (.bi .int (.cs (.cmp .Gt (.var 4) (.con (.int 1000))) .nl)))) .nl)) b8w1_0) b8_5
def b8_3 : S := .seq (.asg (.tup (.cs (.nm 5) (.cs (.nm 6) .nl))) (.tup (.cs (.con (.int 1)) (.cs (.con (.int 0)) .nl)))) b8_4
def b8_2 : S := .seq (.asg (.nm 4) (.ix (.lst false (.cs (.con (.int 2)) (.cs (.con (.int 4)) (.cs (.con (.int 12)) (.cs (.con (.int 1000)) (.cs (.bin .Pow (.con (.int 10)) (.con (.int 9))) .nl)))))) (.cal 4 (.cs (.var 0) (.cs (.con (.int 5)) .nl))))) b8_3
def b8_1 : S := .seq (.asg (.nm 3) (.cal 4 (.cs (.var 0) (.cs (.con (.int 2)) .nl)))) b8_2
def b8_0 : S := .seq (.asg (.nm 2) (.ix (.lst false (.cs (.lst false (.cs (.con (.int 1)) (.cs (.con (.int 1)) .nl))) (.cs (.lst false (.cs (.con (.int 1)) (.cs (.neg (.con (.int 1))) .nl))) (.cs (.lst false (.cs (.neg (.con (.int 1))) (.cs (.con (.int 1)) .nl))) (.cs (.lst false (.cs (.neg (.con (.int 1))) (.cs (.neg (.con (.int 1))) .nl))) .nl))))) (.cal 4 (.cs (.var 0) (.cs (.con (.int 4)) .nl))))) b8_1
def b8 : S := b8_0
def f8 : Fn := ⟨10, 2, true, b8⟩
def d8 : Dn := ⟨"_law_common_right", "_law_common_right", top 10, ["_law_box_here", "_law_shared", "_law_signs", "_law_turned", "_law_most", "_law_one", "_law_other", "_law_k", "_law_pair", "_law_turn"], ["_law_box_here", "_law_shared"]⟩
/-- law -/
def b9w1_7 : S := .seq (.ite (.not (.tst (.cal 8 (.cs (.var 2) (.cs (.var 5) .nl))))) (.seq (.ret (.con (.bl false))) .nop) .nop) .nop
def b9w1_6 : S := .seq (.ite (.cmp .Gt (.var 3) (.con (.int 1))) (.seq (.asg (.nm 5) (.cal 5 (.cs (.var 2) (.cs (.cal 4 (.cs (.var 2) (.cs (.con (.int 15)) .nl))) .nl)))) .nop) .nop) b9w1_7
def b9w1_5 : S := .seq (.asg (.nm 5) (.bin .Add (.con (.int 1)) (.cal 4 (.cs (.var 2) (.cs (.con (.int 30)) .nl))))) b9w1_6
def b9w1_4 : S := .seq (.ite (.not (.tst (.cal 7 (.cs (.var 4) (.cs (.bin .Add (.con (.int 1)) (.cal 5 (.cs (.var 2) (.cs (.cal 4 (.cs (.var 2) (.cs (.con (.int 9)) .nl))) .nl)))) .nl))))) (.seq (.ret (.con (.bl false))) .nop) .nop) b9w1_5
def b9w1_3 : S := .seq (.ite (.cmp .Gt (.var 3) (.con (.int 0))) (.seq (.asg (.nm 4) (.cal 5 (.cs (.var 2) (.cs (.ix (.lst false (.cs (.con (.int 3)) (.cs (.con (.int 30)) (.cs (.con (.int 110)) .nl)))) (.bin .Sub (.var 3) (.con (.int 1)))) .nl)))) .nop) .nop) b9w1_4
def b9w1_2 : S := .seq (.asg (.nm 4) (.cal 4 (.cs (.var 2) (.cs (.ix (.lst false (.cs (.con (.int 40)) (.cs (.bin .Pow (.con (.int 10)) (.con (.int 9))) (.cs (.bin .Pow (.con (.int 10)) (.con (.int 18))) (.cs (.bin .Pow (.con (.int 10)) (.con (.int 27))) .nl))))) (.cal 4 (.cs (.var 2) (.cs (.con (.int 4)) .nl)))) .nl)))) b9w1_3
def b9w1_1 : S := .seq (.asg (.nm 3) (.cal 4 (.cs (.var 2) (.cs (.con (.int 4)) .nl)))) b9w1_2
def b9w1_0 : S := .seq (.asg (.nm 2) (.cal 3 (.cs (.cal 2 (.cs (.var 0) (.cs (.var 1) .nl))) .nl))) b9w1_1
def b9_1 : S := .seq (.ret (.con (.bl true))) .nop
def b9_0 : S := .seq (.for_ (.nm 1) (.iRng (.cs (.bi .max2 (.cs (.con (.int 2)) (.cs (.bi .min2 (.cs (.con (.int 12)) (.cs (.bi .len (.cs (.var 0) .nl)) .nl))) .nl))) .nl)) (.scope b9w1_0)) b9_1
def b9 : S := b9_0
def f9 : Fn := ⟨6, 1, true, b9⟩
def d9 : Dn := ⟨"law", "law", top 11, ["_law_script", "_law_k", "_law_box_here", "_law_way", "_law_root", "_law_shared"], ["_law_script"]⟩
def P : List Fn := [f0, f1, f2, f3, f4, f5, f6, f7, f8, f9]
def D : List Dn := [d0, d1, d2, d3, d4, d5, d6, d7, d8, d9]
def fnN : List Str := ["common", "whole_root", "_law_cell", "_law_box", "_law_take", "_law_great", "_law_whole", "_law_root_right", "_law_common_right", "law"]
def bn : List Str := ["abs", "bool", "int", "isinstance", "len", "max", "min", "range"]
theorem fnN_eq : D.map (·.name) = fnN := rfl
theorem ok0 : okDef fnN bn d0 f0 = true := by decide +kernel
theorem sc0 : FnScope d0.N d0.ps (defScope d0.st) := ⟨rfl, rfl, rfl, by decide +kernel, rfl, by decide +kernel, by decide +kernel⟩
theorem ok1 : okDef fnN bn d1 f1 = true := by decide +kernel
theorem sc1 : FnScope d1.N d1.ps (defScope d1.st) := ⟨rfl, rfl, rfl, by decide +kernel, rfl, by decide +kernel, by decide +kernel⟩
theorem ok2 : okDef fnN bn d2 f2 = true := by decide +kernel
theorem sc2 : FnScope d2.N d2.ps (defScope d2.st) := ⟨rfl, rfl, rfl, by decide +kernel, rfl, by decide +kernel, by decide +kernel⟩
theorem ok3 : okDef fnN bn d3 f3 = true := by decide +kernel
theorem sc3 : FnScope d3.N d3.ps (defScope d3.st) := ⟨rfl, rfl, rfl, by decide +kernel, rfl, by decide +kernel, by decide +kernel⟩
theorem ok4 : okDef fnN bn d4 f4 = true := by decide +kernel
theorem sc4 : FnScope d4.N d4.ps (defScope d4.st) := ⟨rfl, rfl, rfl, by decide +kernel, rfl, by decide +kernel, by decide +kernel⟩
theorem ok5 : okDef fnN bn d5 f5 = true := by decide +kernel
theorem sc5 : FnScope d5.N d5.ps (defScope d5.st) := ⟨rfl, rfl, rfl, by decide +kernel, rfl, by decide +kernel, by decide +kernel⟩
theorem ok6 : okDef fnN bn d6 f6 = true := by decide +kernel
theorem sc6 : FnScope d6.N d6.ps (defScope d6.st) := ⟨rfl, rfl, rfl, by decide +kernel, rfl, by decide +kernel, by decide +kernel⟩
theorem ok7 : okDef fnN bn d7 f7 = true := by decide +kernel
theorem sc7 : FnScope d7.N d7.ps (defScope d7.st) := ⟨rfl, rfl, rfl, by decide +kernel, rfl, by decide +kernel, by decide +kernel⟩
theorem ok8 : okDef fnN bn d8 f8 = true := by decide +kernel
theorem sc8 : FnScope d8.N d8.ps (defScope d8.st) := ⟨rfl, rfl, rfl, by decide +kernel, rfl, by decide +kernel, by decide +kernel⟩
theorem ok9 : okDef fnN bn d9 f9 = true := by decide +kernel
theorem sc9 : FnScope d9.N d9.ps (defScope d9.st) := ⟨rfl, rfl, rfl, by decide +kernel, rfl, by decide +kernel, by decide +kernel⟩
def lev : Nat := 12
end MP.G
namespace MP.G
open PySem
local macro_rules | `(tactic| walk_at "mp") => `(tactic| try simp only [e_var, e_con, e_bt, e_tup, e_lst, e_bin, e_neg, e_cmp, e_and, e_or, e_not, e_ife, e_cal, e_bi, e_bm, e_ix, es_nl, es_cs, t_and, t_or, t_not, t_cmp, t_tst, i_seq, i_rng,
  r_nop, r_seq, r_asg, r_par, r_setix, r_ret, r_exp, r_ite, r_whl, r_for, r_scope, st_nm, st_tup, st_nl, st_cs, st_2, bin_ii, bin_add, bin_sub, cmp_ii, cmp_eq, cmp_ne, cmp_lt, cmp_le, cmp_gt, cmp_ge, seq_lst, seq_tup, bi_abs, bi_max, bi_min, bi_int_i, bi_int_b, bi_len_l, bi_len_t, isi_int, isi_int_bool, bm_bits,
  seqI_l, seqI_t, varR_ok, andR_t, andR_f, orR_t, orR_f, notR_b, negR_i, tstR_b, ixR_i, at0, at1, at2, at3, at4, bind_ok, bind_exc, bind_bad, opt_some, opt_none, out_ok, out_exc, out_bad, oopt_some, oopt_none, thn_nx, thn_rt, thn_bk, thn_ct, thn_exc, thn_bad, turn_nx, turn_ct, turn_bk, turn_rt, turn_exc, turn_bad, trim_nx, trim_bk, trim_ct, trim_rt, trim_exc, trim_bad,
  end_nx, end_rt, objL_s, seq_refO, setix_ref, setL_0, setL_1, setL_2, bm_rev, Option.map_some, List.reverse_cons, List.reverse_nil, fl_nil, fl_cons, tupR_v, lstR_v, lstR_h, rl_nil, rl_cons, rv_int, rv_bl, rv_non, rv_str, rv_tup, rv_lst, Bool.and_self, Bool.and_true, Bool.true_and, List.length_cons, List.length_nil, Nat.zero_add, Nat.reduceAdd, Nat.reduceLeDiff, p10_6, p10_9, p10_10, p10_12, p10_18, p10_27, p10_30, List.getElem?_cons_zero, List.getElem?_cons_succ, List.set_cons_zero, List.set_cons_succ, List.map_cons, List.map_nil, List.cons_append, List.nil_append, List.append_nil, List.replicate, Nat.sub_self, Nat.reduceSub, Option.bind_some, decide_true, decide_false, Bool.not_true, Bool.not_false, if_true, if_false, Bool.false_eq_true, ↓reduceIte, reduceCtorEq])
local macro_rules | `(tactic| walk_at "mph") => `(tactic| try simp only [*, bin_mod, bin_mul, ne_eq, Int.reduceEq, not_false_eq_true, e_var, e_con, e_bt, e_tup, e_lst, e_bin, e_neg, e_cmp, e_and, e_or, e_not, e_ife, e_cal, e_bi, e_bm, e_ix, es_nl, es_cs, t_and, t_or, t_not, t_cmp, t_tst, i_seq, i_rng,
  r_nop, r_seq, r_asg, r_par, r_setix, r_ret, r_exp, r_ite, r_whl, r_for, r_scope, st_nm, st_tup, st_nl, st_cs, st_2, bin_ii, bin_add, bin_sub, cmp_ii, cmp_eq, cmp_ne, cmp_lt, cmp_le, cmp_gt, cmp_ge, seq_lst, seq_tup, bi_abs, bi_max, bi_min, bi_int_i, bi_int_b, bi_len_l, bi_len_t, isi_int, isi_int_bool, bm_bits,
  seqI_l, seqI_t, varR_ok, andR_t, andR_f, orR_t, orR_f, notR_b, negR_i, tstR_b, ixR_i, at0, at1, at2, at3, at4, bind_ok, bind_exc, bind_bad, opt_some, opt_none, out_ok, out_exc, out_bad, oopt_some, oopt_none, thn_nx, thn_rt, thn_bk, thn_ct, thn_exc, thn_bad, turn_nx, turn_ct, turn_bk, turn_rt, turn_exc, turn_bad, trim_nx, trim_bk, trim_ct, trim_rt, trim_exc, trim_bad,
  end_nx, end_rt, objL_s, seq_refO, setix_ref, setL_0, setL_1, setL_2, bm_rev, Option.map_some, List.reverse_cons, List.reverse_nil, fl_nil, fl_cons, tupR_v, lstR_v, lstR_h, rl_nil, rl_cons, rv_int, rv_bl, rv_non, rv_str, rv_tup, rv_lst, Bool.and_self, Bool.and_true, Bool.true_and, List.length_cons, List.length_nil, Nat.zero_add, Nat.reduceAdd, Nat.reduceLeDiff, p10_6, p10_9, p10_10, p10_12, p10_18, p10_27, p10_30, List.getElem?_cons_zero, List.getElem?_cons_succ, List.set_cons_zero, List.set_cons_succ, List.map_cons, List.map_nil, List.cons_append, List.nil_append, List.append_nil, List.replicate, Nat.sub_self, Nat.reduceSub, Option.bind_some, decide_true, decide_false, Bool.not_true, Bool.not_false, if_true, if_false, Bool.false_eq_true, ↓reduceIte, reduceCtorEq])
theorem whole_ok {W k : Nat} {a b : Int} {h : Heap} : callF P W (k + 1) 6 [.int a, .int b] h = .ok (.bl (decide (a = b))) h := by
  rw [callF_go (f := f6) rfl b6 0]
  unfold b6 b6_0
  walk_at "mp"
  exact finish_b rfl
theorem isq_at {r t : Nat} (h : t ≤ 2 * r) : isq (r * r + t) = r := isq_eq (by omega) (by
  have : (r + 1) * (r + 1) = r * r + 2 * r + 1 := by
    simp only [Nat.add_mul, Nat.mul_add, Nat.one_mul, Nat.mul_one]
    omega
  omega)
theorem isq_below {r : Nat} (h : 0 < r) : isq (r * r - 1) = r - 1 := by
  obtain ⟨s, rfl⟩ : ∃ s, r = s + 1 := ⟨r - 1, by omega⟩
  have e : (s + 1) * (s + 1) = s * s + 2 * s + 1 := by
    simp only [Nat.add_mul, Nat.mul_add, Nat.one_mul, Nat.mul_one]
    omega
  rw [e]
  exact isq_at (r := s) (t := 2 * s) (Nat.le_refl _)
theorem rootright_ok {W k r d : Nat} {h : Heap} (hW : 2 ^ 9000 ≤ W) (hr : r < 2 ^ 7000) (hd : 1 ≤ d) : callF P W (k + 2) 7 [.int r, .int d] h = .ok (.bl true) h := by
  rw [callF_go (f := f7) rfl b7 4]
  unfold b7 b7_0 b7_1 b7_2 b7_3 b7_4 b7_5 b7w1_0
  have br : bits (r : Int) ≤ 7000 := bits_nat hr
  have hsq : r * r < 2 ^ (7000 + 7000) := nlt_mul hr hr
  have h2r : 2 * r < 2 ^ (2 + 7000) := nlt_mul (by decide) hr
  have big : ∀ t : Nat, t ≤ 2 * r → r * r + t < 2 ^ 16000 := fun t ht => nlt_up (nlt_add (nlt_up hsq (Nat.le_refl _)) (nlt_up (Nat.lt_of_le_of_lt ht h2r) (by decide))) (by decide)
  have b2 : bits 2 ≤ 2 := bits_le (by decide)
  have b3 : bits ((2 * r : Nat) : Int) ≤ 7002 := bits_nat h2r
  have b4 : bits ((d % 1000 : Nat) : Int) ≤ 10 := bits_nat (by omega)
  have ha : 2 * r * (d % 1000) / 1000 ≤ 2 * r := by
    have h1 : 2 * r * (d % 1000) ≤ 2 * r * 1000 := Nat.mul_le_mul_left _ (by omega)
    omega
  have hmn : min d (2 * r) ≤ 2 * r := Nat.min_le_right _ _
  have g1 : binI .Mult (r : Int) (r : Int) = some (.int ((r * r : Nat) : Int)) := by rw [bin_mul (by omega), Int.natCast_mul]
  have g2 : binI .Mult 2 (r : Int) = some (.int ((2 * r : Nat) : Int)) := by rw [bin_mul (by omega), Int.natCast_mul]; rfl
  have g3 : binI .Mod (d : Int) 1000 = some (.int ((d % 1000 : Nat) : Int)) := by rw [bin_mod (by decide)]; exact congrArg _ (congrArg _ (fmod_nat d 1000))
  have g4 : binI .Mult ((2 * r : Nat) : Int) ((d % 1000 : Nat) : Int) = some (.int ((2 * r * (d % 1000) : Nat) : Int)) := by rw [bin_mul (by omega), ← Int.natCast_mul]
  have g5 : binI .FloorDiv ((2 * r * (d % 1000) : Nat) : Int) 1000 = some (.int ((2 * r * (d % 1000) / 1000 : Nat) : Int)) := by
    rw [bin_div (by decide) (pylong_small (by decide +kernel))]
    exact congrArg _ (congrArg _ (fdiv_nat _ 1000))
  have g6 : min (d : Int) ((2 * r : Nat) : Int) = ((min d (2 * r) : Nat) : Int) := by omega
  have ga : ∀ a b : Nat, (a : Int) + (b : Int) = ((a + b : Nat) : Int) := fun a b => rfl
  have ga1 : ∀ a : Nat, (a : Int) + 1 = ((a + 1 : Nat) : Int) := fun a => rfl
  generalize 2 * r * (d % 1000) / 1000 = am at *
  generalize min d (2 * r) = mn at *
  have R := fun (t : Nat) (ht : t ≤ 2 * r) (k : Nat) (h : Heap) => root_ok (P := P) (i := 1) (W := W) (k := k) (h := h) rfl (big t ht) hW
  have q1 := R am ha k h
  have q2 := R mn hmn k h
  have q3 := R (2 * r) (Nat.le_refl _) k h
  rw [isq_at ha] at q1
  rw [isq_at hmn] at q2
  rw [isq_at (Nat.le_refl _)] at q3
  have q4 := root_ok (P := P) (i := 1) (W := W) (k := k) (h := h) (n := r * r) rfl (by have := big 0 (Nat.zero_le _); rw [Nat.add_zero] at this; exact this) hW
  rw [show isq (r * r) = r from isq_at (t := 0) (Nat.zero_le _)] at q4
  have wo := fun (a : Int) => whole_ok (W := W) (k := k) (a := a) (b := a) (h := h)
  simp only [decide_true] at wo
  by_cases r0 : 0 < r
  · have q5 := R 1 (by omega) k h
    rw [isq_at (by omega)] at q5
    have q6 := root_ok (P := P) (i := 1) (W := W) (k := k) (h := h) (n := r * r - 1) rfl (by have := big 0 (Nat.zero_le _); omega) hW
    rw [isq_below r0] at q6
    have i0 : (0 : Int) < (r : Int) := by omega
    have rp : 0 < r * r := Nat.mul_pos r0 r0
    have i1 : ((r * r : Nat) : Int) - 1 = ((r * r - 1 : Nat) : Int) := by omega
    have i2 : (r : Int) - 1 = ((r - 1 : Nat) : Int) := by omega
    clear big b2 b3 b4 br h2r hr hsq R rp
    walk_at "mph"
    exact finish_b rfl
  · have i0 : ¬ ((0 : Int) < (r : Int)) := by omega
    clear big b2 b3 b4 br h2r hr hsq R
    walk_at "mph"
    exact finish_b rfl
end MP.G
namespace MP.G
open PySem
local macro_rules | `(tactic| walk_at "mp") => `(tactic| try simp only [e_var, e_con, e_bt, e_tup, e_lst, e_bin, e_neg, e_cmp, e_and, e_or, e_not, e_ife, e_cal, e_bi, e_bm, e_ix, es_nl, es_cs, t_and, t_or, t_not, t_cmp, t_tst, i_seq, i_rng,
  r_nop, r_seq, r_asg, r_par, r_setix, r_ret, r_exp, r_ite, r_whl, r_for, r_scope, st_nm, st_tup, st_nl, st_cs, st_2, bin_ii, bin_add, bin_sub, cmp_ii, cmp_eq, cmp_ne, cmp_lt, cmp_le, cmp_gt, cmp_ge, seq_lst, seq_tup, bi_abs, bi_max, bi_min, bi_int_i, bi_int_b, bi_len_l, bi_len_t, isi_int, isi_int_bool, bm_bits,
  seqI_l, seqI_t, varR_ok, andR_t, andR_f, orR_t, orR_f, notR_b, negR_i, tstR_b, ixR_i, at0, at1, at2, at3, at4, bind_ok, bind_exc, bind_bad, opt_some, opt_none, out_ok, out_exc, out_bad, oopt_some, oopt_none, thn_nx, thn_rt, thn_bk, thn_ct, thn_exc, thn_bad, turn_nx, turn_ct, turn_bk, turn_rt, turn_exc, turn_bad, trim_nx, trim_bk, trim_ct, trim_rt, trim_exc, trim_bad,
  end_nx, end_rt, objL_s, seq_refO, setix_ref, setL_0, setL_1, setL_2, bm_rev, Option.map_some, List.reverse_cons, List.reverse_nil, fl_nil, fl_cons, tupR_v, lstR_v, lstR_h, rl_nil, rl_cons, rv_int, rv_bl, rv_non, rv_str, rv_tup, rv_lst, Bool.and_self, Bool.and_true, Bool.true_and, List.length_cons, List.length_nil, Nat.zero_add, Nat.reduceAdd, Nat.reduceLeDiff, p10_6, p10_9, p10_10, p10_12, p10_18, p10_27, p10_30, List.getElem?_cons_zero, List.getElem?_cons_succ, List.set_cons_zero, List.set_cons_succ, List.map_cons, List.map_nil, List.cons_append, List.nil_append, List.append_nil, List.replicate, Nat.sub_self, Nat.reduceSub, Option.bind_some, decide_true, decide_false, Bool.not_true, Bool.not_false, if_true, if_false, Bool.false_eq_true, ↓reduceIte, reduceCtorEq])
local macro_rules | `(tactic| walk_at "mph") => `(tactic| try simp only [*, bin_mod, bin_mul, ne_eq, Int.reduceEq, not_false_eq_true, e_var, e_con, e_bt, e_tup, e_lst, e_bin, e_neg, e_cmp, e_and, e_or, e_not, e_ife, e_cal, e_bi, e_bm, e_ix, es_nl, es_cs, t_and, t_or, t_not, t_cmp, t_tst, i_seq, i_rng,
  r_nop, r_seq, r_asg, r_par, r_setix, r_ret, r_exp, r_ite, r_whl, r_for, r_scope, st_nm, st_tup, st_nl, st_cs, st_2, bin_ii, bin_add, bin_sub, cmp_ii, cmp_eq, cmp_ne, cmp_lt, cmp_le, cmp_gt, cmp_ge, seq_lst, seq_tup, bi_abs, bi_max, bi_min, bi_int_i, bi_int_b, bi_len_l, bi_len_t, isi_int, isi_int_bool, bm_bits,
  seqI_l, seqI_t, varR_ok, andR_t, andR_f, orR_t, orR_f, notR_b, negR_i, tstR_b, ixR_i, at0, at1, at2, at3, at4, bind_ok, bind_exc, bind_bad, opt_some, opt_none, out_ok, out_exc, out_bad, oopt_some, oopt_none, thn_nx, thn_rt, thn_bk, thn_ct, thn_exc, thn_bad, turn_nx, turn_ct, turn_bk, turn_rt, turn_exc, turn_bad, trim_nx, trim_bk, trim_ct, trim_rt, trim_exc, trim_bad,
  end_nx, end_rt, objL_s, seq_refO, setix_ref, setL_0, setL_1, setL_2, bm_rev, Option.map_some, List.reverse_cons, List.reverse_nil, fl_nil, fl_cons, tupR_v, lstR_v, lstR_h, rl_nil, rl_cons, rv_int, rv_bl, rv_non, rv_str, rv_tup, rv_lst, Bool.and_self, Bool.and_true, Bool.true_and, List.length_cons, List.length_nil, Nat.zero_add, Nat.reduceAdd, Nat.reduceLeDiff, p10_6, p10_9, p10_10, p10_12, p10_18, p10_27, p10_30, List.getElem?_cons_zero, List.getElem?_cons_succ, List.set_cons_zero, List.set_cons_succ, List.map_cons, List.map_nil, List.cons_append, List.nil_append, List.append_nil, List.replicate, Nat.sub_self, Nat.reduceSub, Option.bind_some, decide_true, decide_false, Bool.not_true, Bool.not_false, if_true, if_false, Bool.false_eq_true, ↓reduceIte, reduceCtorEq])
theorem take1 {W k n : Nat} {many : Int} {o : Obj} (hB : IsBox o n) (hn : n ≤ 1000000000) (hm : 1 ≤ many) (hmb : bits many ≤ 9000) : ∃ v o', callF P W (k + 1) 4 [.ref 0, .int many] [o] = .ok (.int v) [o'] ∧ 0 ≤ v ∧ v < many ∧ IsBox o' (n + 1) :=
  take_ok (P := P) (i := 4) (h := [o]) (r := 0) rfl rfl hB hn hm hmb
theorem great1 {W k n ch : Nat} {o : Obj} (hB : IsBox o n) (hn : n + ch + 1 ≤ 1000000000) (hc : ch ≤ 1000000) : ∃ v o', callF P W (k + 2) 5 [.ref 0, .int ch] [o] = .ok (.int v) [o'] ∧ 1 ≤ v ∧ v < 2 ^ (4 + 30 * ch) ∧ IsBox o' (n + ch + 1) :=
  great_ok (P := P) (i := 5) (t := 4) (h := [o]) (r := 0) rfl rfl rfl hB hn hc
theorem gcd_step {a b v : Int} (h : Int.gcd a b = 1) : Int.gcd (a * (1 + v) + b) a = 1 := by
  rw [Int.gcd_comm, Int.add_comm, Int.gcd_add_mul_left_right]
  exact h
theorem cr_loop {W k : Nat} {sh sg tu p8 p9 : Option Val} {most : Int} (hmo : 2 ≤ most) (hmo2 : most ≤ 1000000000) : ∀ (n : Nat) (lo one other : Int) (kv : Option Val) (o : Obj) (m q : Nat), IsBox o m → m + n ≤ 1000000000 → 1 ≤ one → 0 ≤ other → other ≤ one → Int.gcd one other = 1 → one < 2 ^ q → q + 30 * n ≤ 100000 →
    ∃ one' other' kv' o', forL (.nm 7) (run ⟨callF P W (k + 1), W⟩ b8w1_0) (rangeL lo n) [some (.ref 0), sh, sg, tu, some (.int most), some (.int one), some (.int other), kv, p8, p9] [o] = .nx [some (.ref 0), sh, sg, tu, some (.int most), some (.int one'), some (.int other'), kv', p8, p9] [o'] ∧
      1 ≤ one' ∧ 0 ≤ other' ∧ other' ≤ one' ∧ Int.gcd one' other' = 1 ∧ one' < 2 ^ (q + 30 * n) ∧ IsBox o' (m + n)
  | 0, lo, one, other, kv, o, m, q, hB, _, h1, h2, h3, h4, h5, _ => ⟨one, other, kv, o, rfl, h1, h2, h3, h4, h5, hB⟩
  | n + 1, lo, one, other, kv, o, m, q, hB, hm, h1, h2, h3, h4, h5, hq => by
    show ∃ one' other' kv' o', forL (.nm 7) _ (.int lo :: rangeL (lo + 1) n) _ _ = _ ∧ _
    rw [fl_cons]
    obtain ⟨v, o1, e1, v1, v2, B1⟩ := take1 (W := W) (k := k) (many := most - 1) hB (by omega) (by omega) (Nat.le_trans (bits_pos (by omega) (show most - 1 ≤ 1000000000 by omega)) (by decide +kernel))
    have b1 : bits one ≤ q := bits_lt (by omega) h5
    have b2 : bits (1 + v) ≤ 30 := bits_lt (by omega) (by omega)
    have g1 : bits one + bits (1 + v) ≤ 134217728 := by omega
    have hle : one * (1 + v) + other ≤ one * most := by
      have : one * (1 + v) ≤ one * (most - 1) := Int.mul_le_mul_of_nonneg_left (by omega) (by omega)
      have e : one * (most - 1) = one * most - one := by rw [Int.mul_sub, Int.mul_one]
      omega
    have hge : one ≤ one * (1 + v) := by
      have : one * 1 ≤ one * (1 + v) := Int.mul_le_mul_of_nonneg_left (by omega) (by omega)
      omega
    have hlt : one * (1 + v) + other < 2 ^ (q + 30) := by
      rw [pow2_add]
      have e1 : one * most ≤ one * 1073741824 := Int.mul_le_mul_of_nonneg_left (by omega) (by omega)
      have e2 : one * 1073741824 < 2 ^ q * 1073741824 := Int.mul_lt_mul_of_pos_right h5 (by decide)
      have e30 : (2 : Int) ^ 30 = 1073741824 := by decide
      rw [e30]
      omega
    obtain ⟨a3, c3, kv3, o3, e3, z1, z2, z3, z4, z5, z6⟩ := cr_loop (W := W) (k := k) (sh := sh) (sg := sg) (tu := tu) (p8 := p8) (p9 := p9) hmo hmo2 n (lo + 1) (one * (1 + v) + other) one (some (.int lo)) o1 (m + 1) (q + 30) B1 (by omega) (by omega) (by omega) (by omega) (gcd_step h4) hlt (by omega)
    refine ⟨a3, c3, kv3, o3, ?_, z1, z2, z3, z4, by rw [show q + 30 * (n + 1) = q + 30 + 30 * n by omega]; exact z5, by rw [show m + (n + 1) = m + 1 + n by omega]; exact z6⟩
    unfold b8w1_0 at e3 ⊢
    clear hlt hge hle z1 z2 z3 z4 z5 z6
    walk_at "mph"
theorem rng2 (h : Heap) : rngItems [.int 2] h = .ok [.int 0, .int 1] h := by
  rw [rng_i (by decide) (by decide)]
  rfl
theorem cr_tail {W k : Nat} {p0 p2 p3 p4 p5 p6 p7 p9 : Option Val} {x y s : Int} {o : Obj} (hg : (Int.gcd x y : Int) = s) (hx : x.natAbs < W) (hy : y.natAbs < W) :
    ∃ l, run ⟨callF P W (k + 1), W⟩ b8_7 [p0, some (.int s), p2, p3, p4, p5, p6, p7, some (.ref 1), p9] [o, .lst [.int x, .int y]] = l ∧ l = .rt (.bl true) [o, .lst [.int x, .int y]] := by
  refine ⟨_, rfl, ?_⟩
  have c1 := fun h => common_ok (P := P) (i := 0) (W := W) (k := k) (a := x) (b := y) (h := h) rfl hy
  have c2 := fun h => common_ok (P := P) (i := 0) (W := W) (k := k) (a := 0) (b := x) (h := h) rfl hx
  have c3 := fun h => common_ok (P := P) (i := 0) (W := W) (k := k) (a := y) (b := 0) (h := h) rfl (by simp; omega)
  have c4 := fun h => common_ok (P := P) (i := 0) (W := W) (k := k) (a := x) (b := x) (h := h) rfl hx
  have c5 := fun h => common_ok (P := P) (i := 0) (W := W) (k := k) (a := 0) (b := 0) (h := h) rfl (by simp; omega)
  rw [hg] at c1
  rw [Int.gcd_zero_left] at c2
  rw [Int.gcd_zero_right] at c3
  rw [Int.gcd_self] at c4
  simp only [Int.gcd_zero_left, Int.natAbs_zero] at c5
  have wo := fun (a : Int) (h : Heap) => whole_ok (W := W) (k := k) (a := a) (b := a) (h := h)
  simp only [decide_true] at wo
  have c6 : ((0 : Nat) : Int) = 0 := rfl
  have r2 := rng2
  unfold b8_7 b8_8 b8_9 b8w2_0
  clear hx hy hg
  walk_at "mph"
end MP.G
namespace MP.G
open PySem
local macro_rules | `(tactic| walk_at "mp") => `(tactic| try simp only [e_var, e_con, e_bt, e_tup, e_lst, e_bin, e_neg, e_cmp, e_and, e_or, e_not, e_ife, e_cal, e_bi, e_bm, e_ix, es_nl, es_cs, t_and, t_or, t_not, t_cmp, t_tst, i_seq, i_rng,
  r_nop, r_seq, r_asg, r_par, r_setix, r_ret, r_exp, r_ite, r_whl, r_for, r_scope, st_nm, st_tup, st_nl, st_cs, st_2, bin_ii, bin_add, bin_sub, cmp_ii, cmp_eq, cmp_ne, cmp_lt, cmp_le, cmp_gt, cmp_ge, seq_lst, seq_tup, bi_abs, bi_max, bi_min, bi_int_i, bi_int_b, bi_len_l, bi_len_t, isi_int, isi_int_bool, bm_bits,
  seqI_l, seqI_t, varR_ok, andR_t, andR_f, orR_t, orR_f, notR_b, negR_i, tstR_b, ixR_i, at0, at1, at2, at3, at4, bind_ok, bind_exc, bind_bad, opt_some, opt_none, out_ok, out_exc, out_bad, oopt_some, oopt_none, thn_nx, thn_rt, thn_bk, thn_ct, thn_exc, thn_bad, turn_nx, turn_ct, turn_bk, turn_rt, turn_exc, turn_bad, trim_nx, trim_bk, trim_ct, trim_rt, trim_exc, trim_bad,
  end_nx, end_rt, objL_s, seq_refO, setix_ref, setL_0, setL_1, setL_2, bm_rev, Option.map_some, List.reverse_cons, List.reverse_nil, fl_nil, fl_cons, tupR_v, lstR_v, lstR_h, rl_nil, rl_cons, rv_int, rv_bl, rv_non, rv_str, rv_tup, rv_lst, Bool.and_self, Bool.and_true, Bool.true_and, List.length_cons, List.length_nil, Nat.zero_add, Nat.reduceAdd, Nat.reduceLeDiff, p10_6, p10_9, p10_10, p10_12, p10_18, p10_27, p10_30, List.getElem?_cons_zero, List.getElem?_cons_succ, List.set_cons_zero, List.set_cons_succ, List.map_cons, List.map_nil, List.cons_append, List.nil_append, List.append_nil, List.replicate, Nat.sub_self, Nat.reduceSub, Option.bind_some, decide_true, decide_false, Bool.not_true, Bool.not_false, if_true, if_false, Bool.false_eq_true, ↓reduceIte, reduceCtorEq])
local macro_rules | `(tactic| walk_at "mph") => `(tactic| try simp only [*, bin_mod, bin_mul, ne_eq, Int.reduceEq, not_false_eq_true, e_var, e_con, e_bt, e_tup, e_lst, e_bin, e_neg, e_cmp, e_and, e_or, e_not, e_ife, e_cal, e_bi, e_bm, e_ix, es_nl, es_cs, t_and, t_or, t_not, t_cmp, t_tst, i_seq, i_rng,
  r_nop, r_seq, r_asg, r_par, r_setix, r_ret, r_exp, r_ite, r_whl, r_for, r_scope, st_nm, st_tup, st_nl, st_cs, st_2, bin_ii, bin_add, bin_sub, cmp_ii, cmp_eq, cmp_ne, cmp_lt, cmp_le, cmp_gt, cmp_ge, seq_lst, seq_tup, bi_abs, bi_max, bi_min, bi_int_i, bi_int_b, bi_len_l, bi_len_t, isi_int, isi_int_bool, bm_bits,
  seqI_l, seqI_t, varR_ok, andR_t, andR_f, orR_t, orR_f, notR_b, negR_i, tstR_b, ixR_i, at0, at1, at2, at3, at4, bind_ok, bind_exc, bind_bad, opt_some, opt_none, out_ok, out_exc, out_bad, oopt_some, oopt_none, thn_nx, thn_rt, thn_bk, thn_ct, thn_exc, thn_bad, turn_nx, turn_ct, turn_bk, turn_rt, turn_exc, turn_bad, trim_nx, trim_bk, trim_ct, trim_rt, trim_exc, trim_bad,
  end_nx, end_rt, objL_s, seq_refO, setix_ref, setL_0, setL_1, setL_2, bm_rev, Option.map_some, List.reverse_cons, List.reverse_nil, fl_nil, fl_cons, tupR_v, lstR_v, lstR_h, rl_nil, rl_cons, rv_int, rv_bl, rv_non, rv_str, rv_tup, rv_lst, Bool.and_self, Bool.and_true, Bool.true_and, List.length_cons, List.length_nil, Nat.zero_add, Nat.reduceAdd, Nat.reduceLeDiff, p10_6, p10_9, p10_10, p10_12, p10_18, p10_27, p10_30, List.getElem?_cons_zero, List.getElem?_cons_succ, List.set_cons_zero, List.set_cons_succ, List.map_cons, List.map_nil, List.cons_append, List.nil_append, List.append_nil, List.replicate, Nat.sub_self, Nat.reduceSub, Option.bind_some, decide_true, decide_false, Bool.not_true, Bool.not_false, if_true, if_false, Bool.false_eq_true, ↓reduceIte, reduceCtorEq])
theorem gcd_pm {a b s : Int} {s0 s1 : Int} (h0 : s0.natAbs = 1) (h1 : s1.natAbs = 1) (h : Int.gcd a b = 1) (hs : 0 ≤ s) : (Int.gcd (s0 * a * s) (s1 * b * s) : Int) = s := by
  have e : Int.gcd (s0 * a * s) (s1 * b * s) = s.natAbs := by
    show Nat.gcd (s0 * a * s).natAbs (s1 * b * s).natAbs = _
    rw [Int.natAbs_mul, Int.natAbs_mul, Int.natAbs_mul, Int.natAbs_mul, h0, h1, Nat.one_mul, Nat.one_mul, Nat.gcd_mul_right]
    have h : Nat.gcd a.natAbs b.natAbs = 1 := h
    rw [h, Nat.one_mul]
  rw [e]
  omega
theorem signs_at {v : Int} (h0 : 0 ≤ v) (h1 : v < 4) : ∃ s0 s1, L2.atI [Val.lst [.int 1, .int 1], .lst [.int 1, .int (-1)], .lst [.int (-1), .int 1], .lst [.int (-1), .int (-1)]] v = some (.lst [.int s0, .int s1]) ∧ s0.natAbs = 1 ∧ s1.natAbs = 1 := by
  rcases (show v = 0 ∨ v = 1 ∨ v = 2 ∨ v = 3 by omega) with rfl | rfl | rfl | rfl
  · exact ⟨1, 1, rfl, rfl, rfl⟩
  · exact ⟨1, -1, rfl, rfl, rfl⟩
  · exact ⟨-1, 1, rfl, rfl, rfl⟩
  · exact ⟨-1, -1, rfl, rfl, rfl⟩
theorem most_at {v : Int} (h0 : 0 ≤ v) (h1 : v < 5) : ∃ m, L2.atI [Val.int 2, .int 4, .int 12, .int 1000, .int 1000000000] v = some (.int m) ∧ 2 ≤ m ∧ m ≤ 1000000000 := by
  rcases (show v = 0 ∨ v = 1 ∨ v = 2 ∨ v = 3 ∨ v = 4 by omega) with rfl | rfl | rfl | rfl | rfl
  · exact ⟨_, rfl, by decide, by decide⟩
  · exact ⟨_, rfl, by decide, by decide⟩
  · exact ⟨_, rfl, by decide, by decide⟩
  · exact ⟨_, rfl, by decide, by decide⟩
  · exact ⟨_, rfl, by decide, by decide⟩
theorem turns_at (b : Bool) : ∃ m, L2.atI [Val.int 81, .int 20] (if b = true then 1 else 0) = some (.int m) ∧ 1 ≤ m ∧ m ≤ 81 := by
  cases b
  · exact ⟨_, rfl, by decide, by decide⟩
  · exact ⟨_, rfl, by decide, by decide⟩
theorem commonright_ok {W k n : Nat} {s : Int} {o : Obj} (hW : 2 ^ 9000 ≤ W) (hs : 1 ≤ s) (hs2 : s < 2 ^ 1000) (hB : IsBox o n) (hn : n + 200 ≤ 1000000000) : ∃ o', callF P W (k + 2) 8 [.ref 0, .int s] [o] = .ok (.bl true) [o'] ∧ IsBox o' (n + 100) := by
  rw [callF_go (f := f8) rfl b8 8]
  unfold b8 b8_0
  obtain ⟨v1, o1, e1, a1, a2, B1⟩ := take1 (W := W) (k := k) (many := 4) hB (by omega) (by decide) (by decide +kernel)
  obtain ⟨s0, s1, es, q0, q1⟩ := signs_at a1 a2
  clear a1 a2 hB
  walk_at "mph"
  unfold b8_1
  obtain ⟨v2, o2, e2, a1, a2, B2⟩ := take1 (W := W) (k := k) (many := 2) B1 (by omega) (by decide) (by decide +kernel)
  clear e1 es a1 a2 B1
  walk_at "mph"
  unfold b8_2
  obtain ⟨v3, o3, e3, a1, a2, B3⟩ := take1 (W := W) (k := k) (many := 5) B2 (by omega) (by decide) (by decide +kernel)
  obtain ⟨most, em, m1, m2⟩ := most_at a1 a2
  clear e2 a1 a2 B2
  walk_at "mph"
  clear e3 em
  unfold b8_3
  walk_at "mp"
  unfold b8_4
  obtain ⟨v4, o4, e4, a1, a2, B4⟩ := take1 (W := W) (k := k) (many := 81) B3 (by omega) (by decide) (by decide +kernel)
  obtain ⟨tu, et, t1, t2⟩ := turns_at (decide (1000 < most))
  have tn : ¬ tu = 0 := by omega
  clear a1 a2 B3
  walk_at "mph"
  obtain ⟨r1, r2⟩ := fmod_rng v4 (show 0 < tu by omega)
  generalize v4.fmod tu = nn at *
  obtain ⟨nt, rfl⟩ := Int.eq_ofNat_of_zero_le r1
  rw [rng_i (by omega) (by omega)]
  walk_at "mp"
  rw [Int.toNat_natCast]
  obtain ⟨one, other, kv, o5, e5, z1, z2, z3, z4, z5, z6⟩ := cr_loop (W := W) (k := k) (sh := some (.int s)) (sg := some (.lst [.int s0, .int s1])) (tu := some (.int v2)) (p8 := none) (p9 := none) m1 m2 nt 0 1 0 none o4 (n + 1 + 1 + 1 + 1) 1 B4 (by omega) (by decide) (by decide) (by decide) (by decide) (by decide) (by omega)
  rw [e5]
  clear e4 et e5
  walk_at "mp"
  unfold b8_5
  have bo : bits one ≤ 3000 := Nat.le_trans (bits_lt (by omega) z5) (by omega)
  have bt : bits other ≤ 3000 := Nat.le_trans (bits_pos z2 z3) bo
  have bs : bits s ≤ 1000 := bits_lt (by omega) hs2
  have bs0 : bits s0 ≤ 1 := bits_le (by omega)
  have bs1 : bits s1 ≤ 1 := bits_le (by omega)
  have c1 := bits_mul s0 one
  have c2 := bits_mul s1 other
  have c3 := bits_mul (s0 * one) s
  have c4 := bits_mul (s1 * other) s
  have g1 : bits s0 + bits one ≤ 134217728 := by omega
  have g2 : bits (s0 * one) + bits s ≤ 134217728 := by omega
  have g3 : bits s1 + bits other ≤ 134217728 := by omega
  have g4 : bits (s1 * other) + bits s ≤ 134217728 := by omega
  have hx : (s0 * one * s).natAbs < W := Nat.lt_of_lt_of_le (nlt_up (lt_bits _) (show bits (s0 * one * s) ≤ 9000 by omega)) hW
  have hy : (s1 * other * s).natAbs < W := Nat.lt_of_lt_of_le (nlt_up (lt_bits _) (show bits (s1 * other * s) ≤ 9000 by omega)) hW
  have hg := gcd_pm q0 q1 z4 (show 0 ≤ s by omega)
  have hg2 := hg
  rw [Int.gcd_comm] at hg2
  have B6 := z6.mono (show n + 1 + 1 + 1 + 1 + nt ≤ n + 100 by omega)
  clear z1 z2 z3 z4 z5 hs hs2 q0 q1 m1 m2 t1 t2 r1 r2 bo bt bs bs0 bs1 c1 c2 c3 c4 tn
  have T := fun (x y : Int) hg hx hy => cr_tail (W := W) (k := k) (p0 := some (.ref 0)) (p2 := some (.lst [.int s0, .int s1])) (p3 := some (.int v2)) (p4 := some (.int most)) (p5 := some (.int one)) (p6 := some (.int other)) (p7 := kv) (p9 := none) (x := x) (y := y) (s := s) (o := o5) hg hx hy
  walk_at "mph"
  clear g1 g2 g3 g4
  unfold b8_6
  by_cases ht : v2 = 1
  · subst ht
    walk_at "mp"
    obtain ⟨l, e, rfl⟩ := T _ _ hg2 hy hx
    rw [e]
    walk_at "mp"
    exact ⟨o5, finish_bt rfl rfl, B6⟩
  · walk_at "mp"
    simp only [ht, decide_false, Bool.false_eq_true, if_false]
    walk_at "mp"
    obtain ⟨l, e, rfl⟩ := T _ _ hg hx hy
    rw [e]
    walk_at "mp"
    exact ⟨o5, finish_bt rfl rfl, B6⟩
end MP.G
namespace MP.G
open PySem
local macro_rules | `(tactic| walk_at "mp") => `(tactic| try simp only [e_var, e_con, e_bt, e_tup, e_lst, e_bin, e_neg, e_cmp, e_and, e_or, e_not, e_ife, e_cal, e_bi, e_bm, e_ix, es_nl, es_cs, t_and, t_or, t_not, t_cmp, t_tst, i_seq, i_rng,
  r_nop, r_seq, r_asg, r_par, r_setix, r_ret, r_exp, r_ite, r_whl, r_for, r_scope, st_nm, st_tup, st_nl, st_cs, st_2, bin_ii, bin_add, bin_sub, cmp_ii, cmp_eq, cmp_ne, cmp_lt, cmp_le, cmp_gt, cmp_ge, seq_lst, seq_tup, bi_abs, bi_max, bi_min, bi_int_i, bi_int_b, bi_len_l, bi_len_t, isi_int, isi_int_bool, bm_bits,
  seqI_l, seqI_t, varR_ok, andR_t, andR_f, orR_t, orR_f, notR_b, negR_i, tstR_b, ixR_i, at0, at1, at2, at3, at4, bind_ok, bind_exc, bind_bad, opt_some, opt_none, out_ok, out_exc, out_bad, oopt_some, oopt_none, thn_nx, thn_rt, thn_bk, thn_ct, thn_exc, thn_bad, turn_nx, turn_ct, turn_bk, turn_rt, turn_exc, turn_bad, trim_nx, trim_bk, trim_ct, trim_rt, trim_exc, trim_bad,
  end_nx, end_rt, objL_s, seq_refO, setix_ref, setL_0, setL_1, setL_2, bm_rev, Option.map_some, List.reverse_cons, List.reverse_nil, fl_nil, fl_cons, tupR_v, lstR_v, lstR_h, rl_nil, rl_cons, rv_int, rv_bl, rv_non, rv_str, rv_tup, rv_lst, Bool.and_self, Bool.and_true, Bool.true_and, List.length_cons, List.length_nil, Nat.zero_add, Nat.reduceAdd, Nat.reduceLeDiff, p10_6, p10_9, p10_10, p10_12, p10_18, p10_27, p10_30, List.getElem?_cons_zero, List.getElem?_cons_succ, List.set_cons_zero, List.set_cons_succ, List.map_cons, List.map_nil, List.cons_append, List.nil_append, List.append_nil, List.replicate, Nat.sub_self, Nat.reduceSub, Option.bind_some, decide_true, decide_false, Bool.not_true, Bool.not_false, if_true, if_false, Bool.false_eq_true, ↓reduceIte, reduceCtorEq])
local macro_rules | `(tactic| walk_at "mph") => `(tactic| try simp only [*, bin_mod, bin_mul, ne_eq, Int.reduceEq, not_false_eq_true, e_var, e_con, e_bt, e_tup, e_lst, e_bin, e_neg, e_cmp, e_and, e_or, e_not, e_ife, e_cal, e_bi, e_bm, e_ix, es_nl, es_cs, t_and, t_or, t_not, t_cmp, t_tst, i_seq, i_rng,
  r_nop, r_seq, r_asg, r_par, r_setix, r_ret, r_exp, r_ite, r_whl, r_for, r_scope, st_nm, st_tup, st_nl, st_cs, st_2, bin_ii, bin_add, bin_sub, cmp_ii, cmp_eq, cmp_ne, cmp_lt, cmp_le, cmp_gt, cmp_ge, seq_lst, seq_tup, bi_abs, bi_max, bi_min, bi_int_i, bi_int_b, bi_len_l, bi_len_t, isi_int, isi_int_bool, bm_bits,
  seqI_l, seqI_t, varR_ok, andR_t, andR_f, orR_t, orR_f, notR_b, negR_i, tstR_b, ixR_i, at0, at1, at2, at3, at4, bind_ok, bind_exc, bind_bad, opt_some, opt_none, out_ok, out_exc, out_bad, oopt_some, oopt_none, thn_nx, thn_rt, thn_bk, thn_ct, thn_exc, thn_bad, turn_nx, turn_ct, turn_bk, turn_rt, turn_exc, turn_bad, trim_nx, trim_bk, trim_ct, trim_rt, trim_exc, trim_bad,
  end_nx, end_rt, objL_s, seq_refO, setix_ref, setL_0, setL_1, setL_2, bm_rev, Option.map_some, List.reverse_cons, List.reverse_nil, fl_nil, fl_cons, tupR_v, lstR_v, lstR_h, rl_nil, rl_cons, rv_int, rv_bl, rv_non, rv_str, rv_tup, rv_lst, Bool.and_self, Bool.and_true, Bool.true_and, List.length_cons, List.length_nil, Nat.zero_add, Nat.reduceAdd, Nat.reduceLeDiff, p10_6, p10_9, p10_10, p10_12, p10_18, p10_27, p10_30, List.getElem?_cons_zero, List.getElem?_cons_succ, List.set_cons_zero, List.set_cons_succ, List.map_cons, List.map_nil, List.cons_append, List.nil_append, List.append_nil, List.replicate, Nat.sub_self, Nat.reduceSub, Option.bind_some, decide_true, decide_false, Bool.not_true, Bool.not_false, if_true, if_false, Bool.false_eq_true, ↓reduceIte, reduceCtorEq])
theorem dr_at {v : Int} (h0 : 0 ≤ v) (h1 : v < 4) : ∃ m, L2.atI [Val.int 40, .int 1000000000, .int 1000000000000000000, .int 1000000000000000000000000000] v = some (.int m) ∧ 1 ≤ m ∧ m < 2 ^ 100 := by
  rcases (show v = 0 ∨ v = 1 ∨ v = 2 ∨ v = 3 by omega) with rfl | rfl | rfl | rfl
  · exact ⟨_, rfl, by decide, by decide⟩
  · exact ⟨_, rfl, by decide, by decide⟩
  · exact ⟨_, rfl, by decide, by decide⟩
  · exact ⟨_, rfl, by decide, by decide⟩
theorem gr_at {v : Int} (h0 : 0 < v) (h1 : v < 4) : ∃ m : Nat, L2.atI [Val.int 3, .int 30, .int 110] (v - 1) = some (.int m) ∧ m ≤ 110 := by
  rcases (show v = 1 ∨ v = 2 ∨ v = 3 by omega) with rfl | rfl | rfl
  · exact ⟨3, rfl, by decide⟩
  · exact ⟨30, rfl, by decide⟩
  · exact ⟨110, rfl, by decide⟩
theorem nat_of {v : Int} (h : 0 ≤ v) : ∃ n : Nat, v = n := ⟨v.toNat, by omega⟩
theorem tail_ok {W k n : Nat} {p0 p1 p5 : Option Val} {way root : Nat} {o : Obj} (hW : 2 ^ 9000 ≤ W) (hr : root < 2 ^ 7000) (hB : IsBox o n) (hn : n + 1000 ≤ 1000000000) :
    ∃ s o', run ⟨callF P W (k + 4), W⟩ b9w1_4 [p0, p1, some (.ref 0), some (.int way), some (.int root), p5] [o] = .nx [p0, p1, some (.ref 0), some (.int way), some (.int root), s] [o'] := by
  unfold b9w1_4
  obtain ⟨v1, o1, e1, a1, a2, B1⟩ := take1 (W := W) (k := k + 3) (many := 9) hB (by omega) (by decide) (by decide +kernel)
  obtain ⟨c1, rfl⟩ := nat_of a1
  obtain ⟨v2, o2, e2, x1, x2, B2⟩ := great1 (W := W) (k := k + 2) (ch := c1) B1 (by omega) (by omega)
  obtain ⟨d, hd⟩ := nat_of (show 0 ≤ 1 + v2 by omega)
  have R := rootright_ok (W := W) (k := k + 2) (r := root) (d := d) (h := [o2]) hW hr (by omega)
  clear x1 x2
  walk_at "mph"
  unfold b9w1_5
  obtain ⟨v3, o3, e3, a3, a4, B3⟩ := take1 (W := W) (k := k + 3) (many := 30) B2 (by omega) (by decide) (by decide +kernel)
  clear e1 e2 R hd
  walk_at "mph"
  unfold b9w1_6
  by_cases hw : (1 : Int) < (way : Int)
  · obtain ⟨v4, o4, e4, a5, a6, B4⟩ := take1 (W := W) (k := k + 3) (many := 15) B3 (by omega) (by decide) (by decide +kernel)
    obtain ⟨c2, rfl⟩ := nat_of a5
    obtain ⟨v5, o5, e5, x1, x2, B5⟩ := great1 (W := W) (k := k + 2) (ch := c2) B4 (by omega) (by omega)
    have x3 : v5 < 2 ^ 1000 := Int.lt_of_lt_of_le x2 (by
      have := two_le (show 4 + 30 * c2 ≤ 1000 by omega)
      exact_mod_cast this)
    obtain ⟨o6, e6, B6⟩ := commonright_ok (W := W) (k := k + 2) hW x1 x3 B5 (by omega)
    clear x1 x2 x3 hr e3
    unfold b9w1_7
    walk_at "mph"
    exact ⟨_, _, rfl⟩
  · obtain ⟨o6, e6, B6⟩ := commonright_ok (W := W) (k := k + 2) (s := 1 + v3) hW (by omega) (by omega) B3 (by omega)
    clear hr e3
    unfold b9w1_7
    walk_at "mph"
    exact ⟨_, _, rfl⟩
theorem turn_ok {W k : Nat} {ns : List Int} {j : Nat} {p2 p3 p4 p5 : Option Val} (hW : 2 ^ 9000 ≤ W) (hj : j < 1000) :
    ∃ q1 q2 q3 q4 q5, run ⟨callF P W (k + 4), W⟩ (.scope b9w1_0) [some (.lst (ns.map .int)), some (.int j), p2, p3, p4, p5] [] = .nx [some (.lst (ns.map .int)), q1, q2, q3, q4, q5] [] := by
  obtain ⟨c, ec⟩ := cell_ok (P := P) (i := 2) (W := W) (k := k + 3) (ns := ns) (j := j) (h := []) rfl hj
  obtain ⟨o, eb, B0⟩ := box_ok (P := P) (i := 3) (W := W) (k := k + 3) (v := c) (h := []) rfl
  have main : ∃ q3 q4 q5 o', run ⟨callF P W (k + 4), W⟩ b9w1_0 [some (.lst (ns.map .int)), some (.int j), p2, p3, p4, p5] [] = .nx [some (.lst (ns.map .int)), some (.int j), some (.ref 0), some (.int q3), some (.int q4), q5] [o'] := by
    unfold b9w1_0
    walk_at "mph"
    unfold b9w1_1
    obtain ⟨v1, o1, e1, a1, a2, B1⟩ := take1 (W := W) (k := k + 3) (many := 4) B0 (by omega) (by decide) (by decide +kernel)
    obtain ⟨way, rfl⟩ := nat_of a1
    clear ec eb
    walk_at "mph"
    unfold b9w1_2
    obtain ⟨v2, o2, e2, a3, a4, B2⟩ := take1 (W := W) (k := k + 3) (many := 4) B1 (by omega) (by decide) (by decide +kernel)
    obtain ⟨m, em, m1, m2⟩ := dr_at a3 a4
    obtain ⟨v3, o3, e3, a5, a6, B3⟩ := take1 (W := W) (k := k + 3) (many := m) B2 (by omega) m1 (Nat.le_trans (bits_lt (by omega) m2) (by decide))
    obtain ⟨rt, rfl⟩ := nat_of a5
    have hrt : rt < 2 ^ 100 := by omega
    clear e1 m1 m2 a6 a3 a4
    walk_at "mph"
    clear e2 e3 em
    unfold b9w1_3
    by_cases hw : (0 : Int) < (way : Int)
    · obtain ⟨ch, ecn, c1⟩ := gr_at hw (by omega)
      obtain ⟨v4, o4, e4, x1, x2, B4⟩ := great1 (W := W) (k := k + 2) (ch := ch) B3 (by omega) (by omega)
      obtain ⟨r2, rfl⟩ := nat_of (show 0 ≤ v4 by omega)
      have h2 : r2 < 2 ^ 7000 := by
        have : r2 < 2 ^ (4 + 30 * ch) := by exact_mod_cast x2
        exact nlt_up this (by omega)
      obtain ⟨s, o5, e5⟩ := tail_ok (W := W) (k := k) (p0 := some (.lst (ns.map .int))) (p1 := some (.int j)) (p5 := p5) (way := way) (root := r2) hW h2 B4 (by omega)
      clear x1 x2 h2 hrt
      walk_at "mph"
      exact ⟨_, _, _, _, rfl⟩
    · obtain ⟨s, o5, e5⟩ := tail_ok (W := W) (k := k) (p0 := some (.lst (ns.map .int))) (p1 := some (.int j)) (p5 := p5) (way := way) (root := rt) hW (nlt_up hrt (by decide)) B3 (by omega)
      clear hrt
      walk_at "mph"
      exact ⟨_, _, _, _, rfl⟩
  obtain ⟨q3, q4, q5, o', e⟩ := main
  rw [r_scope, e, trim_nx]
  simp only [trimL_cons, trimL_nil]
  rw [trim1_s (v := .lst (ns.map .int)) (refsLtL_ints _ ns)]
  exact ⟨_, _, _, _, _, rfl⟩
theorem law_loop {W k : Nat} {ns : List Int} (hW : 2 ^ 9000 ≤ W) : ∀ (n lo : Nat) (p1 p2 p3 p4 p5 : Option Val), lo + n ≤ 1000 →
    ∃ q1 q2 q3 q4 q5, forL (.nm 1) (run ⟨callF P W (k + 4), W⟩ (.scope b9w1_0)) (rangeL lo n) [some (.lst (ns.map .int)), p1, p2, p3, p4, p5] [] = .nx [some (.lst (ns.map .int)), q1, q2, q3, q4, q5] []
  | 0, lo, p1, p2, p3, p4, p5, _ => ⟨_, _, _, _, _, rfl⟩
  | n + 1, lo, p1, p2, p3, p4, p5, h => by
    rw [rangeL_succ, fl_cons, st_nm]
    obtain ⟨q1, q2, q3, q4, q5, e⟩ := turn_ok (W := W) (k := k) (ns := ns) (j := lo) (p2 := p2) (p3 := p3) (p4 := p4) (p5 := p5) hW (by omega)
    rw [oopt_some]
    simp only [List.set_cons_succ, List.set_cons_zero]
    rw [e, turn_nx]
    exact law_loop hW n (lo + 1) q1 q2 q3 q4 q5 (by omega)
theorem law_holds (ns : List Int) (hl : ns.length ≤ 63) (hb : ∀ z ∈ ns, Builtin.Int.intBits z ≤ 1048576) : ∃ W h', callF P W lev 9 [.lst (ns.map .int)] [] = .ok (.bl true) h' := by
  refine ⟨2 ^ 9000, [], ?_⟩
  show callF P (2 ^ 9000) (11 + 1) 9 _ _ = _
  rw [callF_go (f := f9) rfl b9 5]
  unfold b9 b9_0
  walk_at "mp"
  have e : max (2 : Int) (min 12 ((ns.map Val.int).length : Int)) = ((max 2 (min 12 ns.length) : Nat) : Int) := by
    rw [List.length_map]
    omega
  rw [e, rng_i (by omega) (by omega), Int.toNat_natCast]
  walk_at "mp"
  obtain ⟨q1, q2, q3, q4, q5, e2⟩ := law_loop (W := 2 ^ 9000) (k := 7) (ns := ns) (Nat.le_refl _) (max 2 (min 12 ns.length)) 0 none none none none none (by omega)
  rw [show ((0 : Nat) : Int) = 0 from rfl] at e2
  rw [e2]
  unfold b9_1
  walk_at "mp"
  exact finish_b rfl
end MP.G
namespace MP.G
open PySem L2
section
variable {K : PySem.W.Frag} {h : PySem.Heap} {mg : Str → Option Value}
/-- all defs as they stand -/
structure All (K : PySem.W.Frag) (mg : Str → Option Value) : Prop where
  a0 : ∃ fa fd, DefAt K mg d0 fa fd
  a1 : ∃ fa fd, DefAt K mg d1 fa fd
  a2 : ∃ fa fd, DefAt K mg d2 fa fd
  a3 : ∃ fa fd, DefAt K mg d3 fa fd
  a4 : ∃ fa fd, DefAt K mg d4 fa fd
  a5 : ∃ fa fd, DefAt K mg d5 fa fd
  a6 : ∃ fa fd, DefAt K mg d6 fa fd
  a7 : ∃ fa fd, DefAt K mg d7 fa fd
  a8 : ∃ fa fd, DefAt K mg d8 fa fd
  a9 : ∃ fa fd, DefAt K mg d9 fa fd
  nob : ∀ x, bn.contains x = true → mg x = none
theorem All.at (A : All K mg) : ∀ (i : Nat) (d : Dn), D[i]? = some d → ∃ f fa fd, P[i]? = some f ∧ okDef (D.map (·.name)) bn d f = true ∧ DefAt K mg d fa fd := by
  intro i d e
  rw [fnN_eq]
  match i, e with
  | 0, e => cases (show d0 = d from Option.some.inj e); obtain ⟨fa, fd, z⟩ := A.a0; exact ⟨f0, fa, fd, rfl, ok0, z⟩
  | 1, e => cases (show d1 = d from Option.some.inj e); obtain ⟨fa, fd, z⟩ := A.a1; exact ⟨f1, fa, fd, rfl, ok1, z⟩
  | 2, e => cases (show d2 = d from Option.some.inj e); obtain ⟨fa, fd, z⟩ := A.a2; exact ⟨f2, fa, fd, rfl, ok2, z⟩
  | 3, e => cases (show d3 = d from Option.some.inj e); obtain ⟨fa, fd, z⟩ := A.a3; exact ⟨f3, fa, fd, rfl, ok3, z⟩
  | 4, e => cases (show d4 = d from Option.some.inj e); obtain ⟨fa, fd, z⟩ := A.a4; exact ⟨f4, fa, fd, rfl, ok4, z⟩
  | 5, e => cases (show d5 = d from Option.some.inj e); obtain ⟨fa, fd, z⟩ := A.a5; exact ⟨f5, fa, fd, rfl, ok5, z⟩
  | 6, e => cases (show d6 = d from Option.some.inj e); obtain ⟨fa, fd, z⟩ := A.a6; exact ⟨f6, fa, fd, rfl, ok6, z⟩
  | 7, e => cases (show d7 = d from Option.some.inj e); obtain ⟨fa, fd, z⟩ := A.a7; exact ⟨f7, fa, fd, rfl, ok7, z⟩
  | 8, e => cases (show d8 = d from Option.some.inj e); obtain ⟨fa, fd, z⟩ := A.a8; exact ⟨f8, fa, fd, rfl, ok8, z⟩
  | 9, e => cases (show d9 = d from Option.some.inj e); obtain ⟨fa, fd, z⟩ := A.a9; exact ⟨f9, fa, fd, rfl, ok9, z⟩
  | _ + 10, e => simp [D] at e
theorem mk0 {f : Addr} {oc : Value} {od an : Option Addr} {osl : Array (Option Value)} {kV doc pm cdv ct : Value} (X : K.In h) (G : h.Ns mainGlobals mg) (a : PySem.W.nsIn K mainGlobals "common" = some (some (.ref f))) (l : K.lookup f = some ⟨oc, od, .func (PySem.W.fnOf "common" "common" (defArgs (top 1)) (defBody (top 1)) (defScope (top 1)) .none kV doc pm an cdv ct), osl⟩) (c : PySem.W.codeIn K cdv "common" = true) (k : PySem.W.keepIn K (.ref f) = true) : ∃ fa fd, DefAt K mg d0 fa fd :=
  ⟨f, defAt_mk X G sc0 (fun _ _ _ _ _ _ us hl => match us, hl with | [_, _], _ => rfl) a l c k⟩
theorem mk1 {f : Addr} {oc : Value} {od an : Option Addr} {osl : Array (Option Value)} {kV doc pm cdv ct : Value} (X : K.In h) (G : h.Ns mainGlobals mg) (a : PySem.W.nsIn K mainGlobals "whole_root" = some (some (.ref f))) (l : K.lookup f = some ⟨oc, od, .func (PySem.W.fnOf "whole_root" "whole_root" (defArgs (top 2)) (defBody (top 2)) (defScope (top 2)) .none kV doc pm an cdv ct), osl⟩) (c : PySem.W.codeIn K cdv "whole_root" = true) (k : PySem.W.keepIn K (.ref f) = true) : ∃ fa fd, DefAt K mg d1 fa fd :=
  ⟨f, defAt_mk X G sc1 (fun _ _ _ _ _ _ us hl => match us, hl with | [_], _ => rfl) a l c k⟩
theorem mk2 {f : Addr} {oc : Value} {od an : Option Addr} {osl : Array (Option Value)} {kV doc pm cdv ct : Value} (X : K.In h) (G : h.Ns mainGlobals mg) (a : PySem.W.nsIn K mainGlobals "_law_cell" = some (some (.ref f))) (l : K.lookup f = some ⟨oc, od, .func (PySem.W.fnOf "_law_cell" "_law_cell" (defArgs (top 4)) (defBody (top 4)) (defScope (top 4)) .none kV doc pm an cdv ct), osl⟩) (c : PySem.W.codeIn K cdv "_law_cell" = true) (k : PySem.W.keepIn K (.ref f) = true) : ∃ fa fd, DefAt K mg d2 fa fd :=
  ⟨f, defAt_mk X G sc2 (fun _ _ _ _ _ _ us hl => match us, hl with | [_, _], _ => rfl) a l c k⟩
theorem mk3 {f : Addr} {oc : Value} {od an : Option Addr} {osl : Array (Option Value)} {kV doc pm cdv ct : Value} (X : K.In h) (G : h.Ns mainGlobals mg) (a : PySem.W.nsIn K mainGlobals "_law_box" = some (some (.ref f))) (l : K.lookup f = some ⟨oc, od, .func (PySem.W.fnOf "_law_box" "_law_box" (defArgs (top 5)) (defBody (top 5)) (defScope (top 5)) .none kV doc pm an cdv ct), osl⟩) (c : PySem.W.codeIn K cdv "_law_box" = true) (k : PySem.W.keepIn K (.ref f) = true) : ∃ fa fd, DefAt K mg d3 fa fd :=
  ⟨f, defAt_mk X G sc3 (fun _ _ _ _ _ _ us hl => match us, hl with | [_], _ => rfl) a l c k⟩
theorem mk4 {f : Addr} {oc : Value} {od an : Option Addr} {osl : Array (Option Value)} {kV doc pm cdv ct : Value} (X : K.In h) (G : h.Ns mainGlobals mg) (a : PySem.W.nsIn K mainGlobals "_law_take" = some (some (.ref f))) (l : K.lookup f = some ⟨oc, od, .func (PySem.W.fnOf "_law_take" "_law_take" (defArgs (top 6)) (defBody (top 6)) (defScope (top 6)) .none kV doc pm an cdv ct), osl⟩) (c : PySem.W.codeIn K cdv "_law_take" = true) (k : PySem.W.keepIn K (.ref f) = true) : ∃ fa fd, DefAt K mg d4 fa fd :=
  ⟨f, defAt_mk X G sc4 (fun _ _ _ _ _ _ us hl => match us, hl with | [_, _], _ => rfl) a l c k⟩
theorem mk5 {f : Addr} {oc : Value} {od an : Option Addr} {osl : Array (Option Value)} {kV doc pm cdv ct : Value} (X : K.In h) (G : h.Ns mainGlobals mg) (a : PySem.W.nsIn K mainGlobals "_law_great" = some (some (.ref f))) (l : K.lookup f = some ⟨oc, od, .func (PySem.W.fnOf "_law_great" "_law_great" (defArgs (top 7)) (defBody (top 7)) (defScope (top 7)) .none kV doc pm an cdv ct), osl⟩) (c : PySem.W.codeIn K cdv "_law_great" = true) (k : PySem.W.keepIn K (.ref f) = true) : ∃ fa fd, DefAt K mg d5 fa fd :=
  ⟨f, defAt_mk X G sc5 (fun _ _ _ _ _ _ us hl => match us, hl with | [_, _], _ => rfl) a l c k⟩
theorem mk6 {f : Addr} {oc : Value} {od an : Option Addr} {osl : Array (Option Value)} {kV doc pm cdv ct : Value} (X : K.In h) (G : h.Ns mainGlobals mg) (a : PySem.W.nsIn K mainGlobals "_law_whole" = some (some (.ref f))) (l : K.lookup f = some ⟨oc, od, .func (PySem.W.fnOf "_law_whole" "_law_whole" (defArgs (top 8)) (defBody (top 8)) (defScope (top 8)) .none kV doc pm an cdv ct), osl⟩) (c : PySem.W.codeIn K cdv "_law_whole" = true) (k : PySem.W.keepIn K (.ref f) = true) : ∃ fa fd, DefAt K mg d6 fa fd :=
  ⟨f, defAt_mk X G sc6 (fun _ _ _ _ _ _ us hl => match us, hl with | [_, _], _ => rfl) a l c k⟩
theorem mk7 {f : Addr} {oc : Value} {od an : Option Addr} {osl : Array (Option Value)} {kV doc pm cdv ct : Value} (X : K.In h) (G : h.Ns mainGlobals mg) (a : PySem.W.nsIn K mainGlobals "_law_root_right" = some (some (.ref f))) (l : K.lookup f = some ⟨oc, od, .func (PySem.W.fnOf "_law_root_right" "_law_root_right" (defArgs (top 9)) (defBody (top 9)) (defScope (top 9)) .none kV doc pm an cdv ct), osl⟩) (c : PySem.W.codeIn K cdv "_law_root_right" = true) (k : PySem.W.keepIn K (.ref f) = true) : ∃ fa fd, DefAt K mg d7 fa fd :=
  ⟨f, defAt_mk X G sc7 (fun _ _ _ _ _ _ us hl => match us, hl with | [_, _], _ => rfl) a l c k⟩
theorem mk8 {f : Addr} {oc : Value} {od an : Option Addr} {osl : Array (Option Value)} {kV doc pm cdv ct : Value} (X : K.In h) (G : h.Ns mainGlobals mg) (a : PySem.W.nsIn K mainGlobals "_law_common_right" = some (some (.ref f))) (l : K.lookup f = some ⟨oc, od, .func (PySem.W.fnOf "_law_common_right" "_law_common_right" (defArgs (top 10)) (defBody (top 10)) (defScope (top 10)) .none kV doc pm an cdv ct), osl⟩) (c : PySem.W.codeIn K cdv "_law_common_right" = true) (k : PySem.W.keepIn K (.ref f) = true) : ∃ fa fd, DefAt K mg d8 fa fd :=
  ⟨f, defAt_mk X G sc8 (fun _ _ _ _ _ _ us hl => match us, hl with | [_, _], _ => rfl) a l c k⟩
theorem mk9 {f : Addr} {oc : Value} {od an : Option Addr} {osl : Array (Option Value)} {kV doc pm cdv ct : Value} (X : K.In h) (G : h.Ns mainGlobals mg) (a : PySem.W.nsIn K mainGlobals "law" = some (some (.ref f))) (l : K.lookup f = some ⟨oc, od, .func (PySem.W.fnOf "law" "law" (defArgs (top 11)) (defBody (top 11)) (defScope (top 11)) .none kV doc pm an cdv ct), osl⟩) (c : PySem.W.codeIn K cdv "law" = true) (k : PySem.W.keepIn K (.ref f) = true) : ∃ fa fd, DefAt K mg d9 fa fd :=
  ⟨f, defAt_mk X G sc9 (fun _ _ _ _ _ _ us hl => match us, hl with | [_], _ => rfl) a l c k⟩
theorem bnone (z0 : PySem.W.nsIn K mainGlobals "abs" = some none) (z1 : PySem.W.nsIn K mainGlobals "bool" = some none) (z2 : PySem.W.nsIn K mainGlobals "int" = some none) (z3 : PySem.W.nsIn K mainGlobals "isinstance" = some none) (z4 : PySem.W.nsIn K mainGlobals "len" = some none) (z5 : PySem.W.nsIn K mainGlobals "max" = some none) (z6 : PySem.W.nsIn K mainGlobals "min" = some none) (z7 : PySem.W.nsIn K mainGlobals "range" = some none) (X : K.In h) (G : h.Ns mainGlobals mg) : ∀ x, bn.contains x = true → mg x = none := by
  intro x hx
  simp only [bn, List.contains_cons, List.contains_nil, Bool.or_eq_true, beq_iff_eq, Bool.or_false] at hx
  rcases hx with rfl | rfl | rfl | rfl | rfl | rfl | rfl | rfl
  · exact PySem.W.mg_none_of X G z0
  · exact PySem.W.mg_none_of X G z1
  · exact PySem.W.mg_none_of X G z2
  · exact PySem.W.mg_none_of X G z3
  · exact PySem.W.mg_none_of X G z4
  · exact PySem.W.mg_none_of X G z5
  · exact PySem.W.mg_none_of X G z6
  · exact PySem.W.mg_none_of X G z7
end
theorem walk {l : PySem.W.OpenLaw} {q : Program} {loose : List Str} {XP : (Str → Option Value) → PySem.Heap → Prop} {YP : World → PySem.Heap → Prop} {d : DefRec} {K : Params → PySem.W.Frag} (hn : l.most = some 63) (hdf : d.params.defaults = []) (hdn : d.name = "law")
    (hY : ∀ (w : World) (h : PySem.Heap), YP w h → (K w.params).In h)
    (F : ∀ (w : World) (mg : Str → Option Value) (h : PySem.Heap), (K w.params).In h → h.Ns mainGlobals mg → All (K w.params) mg) :
    PySem.W.WalkO q loose XP YP l.row.toRowW d [] (fun f vs => PySem.call f vs) := by
  refine L2.walk_ofB (n := 63) (k := lev) (x := "_law_script") (K := K) (CX := fun w => L2.CX l.prog w) (sp := fun w => spW ⟨K w.params, fun _ => (0, "")⟩ P lev 9 1) hn (by decide) hdf ⟨rfl, by decide, by decide⟩ hY ?_ ?_ fun _ _ _ _ _ z => cx_no z
  · intro w mg fa h KX G hmg
    have A := F w mg h KX G
    obtain ⟨fa2, fd, z⟩ := A.a9
    have e : fa2 = fa := by
      have e1 := z.mg
      rw [hdn] at hmg
      have e2 := e1.symm.trans hmg
      cases e2
      rfl
    subst e
    refine ⟨fd, fun s u => ?_, fun base KB GB => fnW rfl fun W => defs_ok (C := ⟨K w.params, fun _ => (0, "")⟩) (F w mg base KB GB).at A.nob lev 9 d9 f9 fa2 fd rfl rfl (by rw [fnN_eq]; exact ok9) z⟩
    obtain ⟨oc, od, kV, doc, pm, an, cdv, ct, osl, rfl, lk, hcd⟩ := z.fn.ex
    exact .of_eq rfl
  · intro w H a ns hl hb hO hS
    obtain ⟨W, h', e⟩ := law_holds ns hl hb
    exact ⟨W, law_sp hS ⟨h', e⟩⟩
end MP.G
open PySem PySem.W PyProof.Rows in
set_option maxRecDepth 100000 in
set_option maxHeartbeats 0 in
theorem PySem.Challenge.cw_heldshapes_k02_whole_roots_and_common_holds : PySem.Challenge.rw_heldshapes_k02_whole_roots_and_common.Holds := by
  w_on; o_law; k_head; (case hw => w_witness2)
  k_fill
  refine MP.G.walk (l := PySem.Challenge.rw_heldshapes_k02_whole_roots_and_common) rfl rfl rfl (fun w h Y => PySem.W.kIn_of Y) ?F
  case F =>
    intro w mg h KX G0
    refine ⟨?dg0, ?dg1, ?dg2, ?dg3, ?dg4, ?dg5, ?dg6, ?dg7, ?dg8, ?dg9, ?dbn⟩
    (case dg0 => refine' MP.G.mk0 KX G0 ?a ?l ?c ?k; (case a => k_is); (case l => k_is); (case c => k_is); (case k => k_is))
    (case dg1 => refine' MP.G.mk1 KX G0 ?a ?l ?c ?k; (case a => k_is); (case l => k_is); (case c => k_is); (case k => k_is))
    (case dg2 => refine' MP.G.mk2 KX G0 ?a ?l ?c ?k; (case a => k_is); (case l => k_is); (case c => k_is); (case k => k_is))
    (case dg3 => refine' MP.G.mk3 KX G0 ?a ?l ?c ?k; (case a => k_is); (case l => k_is); (case c => k_is); (case k => k_is))
    (case dg4 => refine' MP.G.mk4 KX G0 ?a ?l ?c ?k; (case a => k_is); (case l => k_is); (case c => k_is); (case k => k_is))
    (case dg5 => refine' MP.G.mk5 KX G0 ?a ?l ?c ?k; (case a => k_is); (case l => k_is); (case c => k_is); (case k => k_is))
    (case dg6 => refine' MP.G.mk6 KX G0 ?a ?l ?c ?k; (case a => k_is); (case l => k_is); (case c => k_is); (case k => k_is))
    (case dg7 => refine' MP.G.mk7 KX G0 ?a ?l ?c ?k; (case a => k_is); (case l => k_is); (case c => k_is); (case k => k_is))
    (case dg8 => refine' MP.G.mk8 KX G0 ?a ?l ?c ?k; (case a => k_is); (case l => k_is); (case c => k_is); (case k => k_is))
    (case dg9 => refine' MP.G.mk9 KX G0 ?a ?l ?c ?k; (case a => k_is); (case l => k_is); (case c => k_is); (case k => k_is))
    (case dbn => refine' MP.G.bnone ?z0 ?z1 ?z2 ?z3 ?z4 ?z5 ?z6 ?z7 KX G0; (case z0 => k_is); (case z1 => k_is); (case z2 => k_is); (case z3 => k_is); (case z4 => k_is); (case z5 => k_is); (case z6 => k_is); (case z7 => k_is))
