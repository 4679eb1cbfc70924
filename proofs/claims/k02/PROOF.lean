import PyProof.Rows.All
import Wide.All
import OpenK.AllK
import Wide.FinOn
import HandS.ForExc
import HandS.Comp
import HandS.Iter
import HandS.Text
import HandS.Walk
import HandS.TupAny
import HandS.IsInst
import HandS.TryMany
import HandS.Deep
import HandS.TupLe
import HandS.Dict
import HandS.ExcOwn
import HandS.Small
import HandS.WordsExc
import HandS.ExcIs
import PySem.Challenge.RW_wholewalks_k02_whole_least_contents
set_option Elab.async false
set_option linter.all false
/-! E0: the values, the language of forms, and what a form gives. Plain Lean. -/
namespace Z9
open PySem

/-- a value as data; ref: a place of the changing heap -/
inductive D where
  | non | bl (b : Bool) | int (i : Int) | str (s : List Nat)
  | tup (xs : List D) | lst (xs : List D)
  | ins (c : Nat) (fs : List (Nat × D)) | exc (c : Nat) (xs : List D)
  | ref (i : Nat)
  | scr (ns : List Int)
  | dic (ks vs : List D)
  deriving Inhabited

/-- the changing lists and instances -/
abbrev Hh := List D

inductive Res (α : Type) where
  | ok (a : α) | exc (c : Nat) (xs : List D) (h : Hh) | no
def Res.bind {α β : Type} (r : Res α) (f : α → Res β) : Res β := match r with
  | .ok a => f a
  | .exc c xs h => .exc c xs h
  | .no => .no
@[simp] theorem Res.bind_ok {α β : Type} (a : α) (f : α → Res β) : (Res.ok a).bind f = f a := rfl
@[simp] theorem Res.bind_exc {α β : Type} (c xs h) (f : α → Res β) : (Res.exc c xs h : Res α).bind f = .exc c xs h := rfl
@[simp] theorem Res.bind_no {α β : Type} (f : α → Res β) : (Res.no : Res α).bind f = .no := rfl

/-- built-in kinds for isinstance -/
inductive Ty where
  | int | bool | str | list | tuple | dict
  deriving DecidableEq
/-- built-in functions -/
inductive BF where
  | len | abs | int | sum | all | any
  deriving DecidableEq
/-- methods of built-in values -/
inductive BM where
  | join | pop | append
  deriving DecidableEq

mutual
inductive Ex where
  | var (i : Nat) | con (d : D) | glob (k : Nat) | dic0
  | tup (es : Exs) | lst (es : Exs) | newl (es : Exs)
  | bin (o : Operator) (a b : Ex) | neg (a : Ex)
  | cmp (o : CmpOp) (a b : Ex) | cmp2 (o p : CmpOp) (a b c : Ex)
  | isn (a : Ex) | notn (a : Ex)
  | and (es : Exs) | or (es : Exs) | not (a : Ex)
  | ife (c a b : Ex)
  | ix (a i : Ex) | sl (a : Ex) (lo hi : Ox)
  | isi (a : Ex) (t : Ty)
  | bcall (f : BF) (es : Exs) | bmeth (m : BM) (a : Ex) (es : Exs)
  | call (k : Nat) (es : Exs)
  | lc (new : Bool) (elt : Ex) (t : Tg) (it : It) (ifs : Exs) (own : List Nat)
inductive Exs where
  | nil | cons (e : Ex) (es : Exs)
inductive Ox where
  | none | some (e : Ex)
inductive It where
  | seq (e : Ex) | range (e : Ex) | range2 (a b : Ex) | enum (e : Ex) | zip (a b : Ex)
inductive Tg where
  | var (i : Nat) | tup (ts : Tgs)
inductive Tgs where
  | nil | cons (t : Tg) (ts : Tgs)
end

mutual
inductive Sm where
  | set (i : Nat) (e : Ex) | asg (t : Tg) (e : Ex) | par (i j : Nat) (es : Exs) | seti (o i e : Ex)
  | aug (i : Nat) (o : Operator) (e : Ex)
  | expr (e : Ex) | ret (e : Ex) | retn
  | iff (c : Ex) (a b : Sms)
  | forr (t : Tg) (it : It) (b : Sms) | whil (c : Ex) (b : Sms)
  | brk | cont | pass
  | rais (k : Nat) (es : Exs)
  | tryy (b : Sms) (hs : Hds)
inductive Sms where
  | nil | cons (s : Sm) (ss : Sms)
inductive Hds where
  | nil | cons (k : Nat) (b : Sms) (hs : Hds)
end

/-! ### operations on data -/
def okN (n : Nat) : Bool := decide (n ≤ 16777216)
/-- int operations and the sizes that the model is asked for -/
def cMul (i j : Int) : Bool := (decide (-(2 ^ 64) < i) && decide (i < 2 ^ 64)) || (decide (-(2 ^ 64) < j) && decide (j < 2 ^ 64))
def ofB {α : Type} (b : Bool) (a : α) : Res α := if b then .ok a else .no
@[simp] theorem ofB_true {α : Type} (a : α) : ofB true a = .ok a := rfl
@[simp] theorem ofB_false {α : Type} (a : α) : ofB false a = .no := rfl
def ixN (n : Nat) (i : Int) : Option Nat := if 0 ≤ i then (if i < n then some i.toNat else none) else if -(n : Int) ≤ i then some (i + n).toNat else none
def binD (o : Operator) (x y : D) : Res D := match o, x, y with
  | .Add, .int i, .int j => .ok (.int (i + j))
  | .Sub, .int i, .int j => .ok (.int (i - j))
  | .Mult, .int i, .int j => ofB (cMul i j) (.int (i * j))
  | .Mod, .int i, .int j => ofB (decide (0 < j)) (.int (i % j))
  | .FloorDiv, .int i, .int j => ofB (decide (0 < j) && decide (j < 1073741824)) (.int (i / j))
  | .Pow, .int i, .int j => ofB (decide (0 ≤ j) && decide (j ≤ 1000000) && decide (i.natAbs < 2 ^ 64)) (.int (i ^ j.toNat))
  | .LShift, .int i, .int j => ofB (decide (0 ≤ j) && decide (j ≤ 1000000) && decide (i.natAbs < 2 ^ 64)) (.int (i * 2 ^ j.toNat))
  | .Add, .str x, .str y => ofB (okN (x.length + y.length)) (.str (x ++ y))
  | .Mult, .str x, .int j => ofB (decide (0 ≤ j) && decide (j < 1099511627776) && okN (x.length * j.toNat)) (.str (List.replicate j.toNat x).flatten)
  | .Add, .lst x, .lst y => ofB (okN (x.length + y.length)) (.lst (x ++ y))
  | .Add, .tup x, .tup y => ofB (okN (x.length + y.length)) (.tup (x ++ y))
  | _, _, _ => .no

/-- += -/
def augD (x y : D) : Res D := match x, y with
  | .int i, .int j => .ok (.int (i + j))
  | .str x, .str y => ofB (okN (x.length + y.length)) (.str (x ++ y))
  | _, _ => .no
mutual
/-- == of data (True is 1) -/
def eqD : D → D → Bool
  | .non, .non => true
  | .bl a, .bl b => a == b
  | .bl a, .int b => decide ((if a then 1 else 0) = b)
  | .int a, .bl b => decide (a = if b then 1 else 0)
  | .int a, .int b => decide (a = b)
  | .str a, .str b => decide (a = b)
  | .tup a, .tup b => eqDs a b
  | .lst a, .lst b => eqDs a b
  | _, _ => false
def eqDs : List D → List D → Bool
  | [], [] => true
  | a :: as, b :: bs => eqD a b && eqDs as bs
  | _, _ => false
end
mutual
/-- nesting, for data that == is asked of: none for a thing that it is not -/
def depD : D → Option Nat
  | .non | .bl _ | .int _ | .str _ => some 0
  | .tup xs | .lst xs => (depDs xs).map (· + 1)
  | _ => none
def depDs : List D → Option Nat
  | [] => some 0
  | x :: xs => match depD x, depDs xs with
    | some a, some b => some (max a b)
    | _, _ => none
end
/-- == may be asked -/
def canEq (d : D) : Bool := match depD d with
  | some n => decide (n ≤ 60)
  | none => false
def atomD : D → Bool
  | .non | .bl _ | .int _ | .str _ => true
  | _ => false
def hasD (x : D) (ys : List D) : Bool := ys.any fun y => eqD y x
def cmpD (o : CmpOp) (x y : D) : Res D := match o, x, y with
  | .Lt, .int i, .int j => .ok (.bl (decide (i < j)))
  | .LtE, .int i, .int j => .ok (.bl (decide (i ≤ j)))
  | .Gt, .int i, .int j => .ok (.bl (decide (j < i)))
  | .GtE, .int i, .int j => .ok (.bl (decide (j ≤ i)))
  | .Eq, x, y => ofB (canEq x && canEq y) (.bl (eqD x y))
  | .NotEq, x, y => ofB (canEq x && canEq y) (.bl (!eqD x y))
  | .In, .str x, .str y => match x with
    | [c] => .ok (.bl (decide (c ∈ y)))
    | _ => .no
  | .NotIn, .str x, .str y => match x with
    | [c] => .ok (.bl (!decide (c ∈ y)))
    | _ => .no
  | .In, x, .lst ys => ofB (canEq x && canEq (.lst ys)) (.bl (hasD x ys))
  | .NotIn, x, .lst ys => ofB (canEq x && canEq (.lst ys)) (.bl (!hasD x ys))
  | .In, x, .tup ys => ofB (canEq x && canEq (.tup ys)) (.bl (hasD x ys))
  | .NotIn, x, .tup ys => ofB (canEq x && canEq (.tup ys)) (.bl (!hasD x ys))
  | .Is, .bl a, .bl b => .ok (.bl (decide (a = b)))
  | .IsNot, .bl a, .bl b => .ok (.bl (!decide (a = b)))
  | _, _, _ => .no
/-- the item at i, counted from the end if below 0 -/
def atD {α : Type} (xs : List α) (i : Int) : Option α := (ixN xs.length i).bind fun j => xs[j]?
def ofO {α : Type} (o : Option α) : Res α := match o with
  | some a => .ok a
  | none => .no
@[simp] theorem ofO_some {α : Type} (a : α) : ofO (some a) = .ok a := rfl
@[simp] theorem ofO_none {α : Type} : ofO (none : Option α) = .no := rfl
/-- what stands at a place, for a list that is read -/
def lookD (h : Hh) (x : D) : D := match x with
  | .ref i => match h[i]? with
    | some d => d
    | none => .ref i
  | x => x
def ixD (h : Hh) (x y : D) : Res D := match lookD h x, y with
  | .lst xs, .int i => ofO (atD xs i)
  | .tup xs, .int i => ofO (atD xs i)
  | .str s, .int i => ofO ((atD s i).map fun c => .str [c])
  | _, _ => .no
def clampD (n d : Nat) : Option Int → Nat
  | none => d
  | some v => if v < 0 then (v + (n : Int)).toNat else min v.toNat n
def cutD {α : Type} (xs : List α) (lo hi : Option Int) : List α := (xs.drop (clampD xs.length 0 lo)).take (clampD xs.length xs.length hi - clampD xs.length 0 lo)
def slD (h : Hh) (x : D) (lo hi : Option Int) : Res D := match lookD h x with
  | .lst xs => .ok (.lst (cutD xs lo hi))
  | .tup xs => .ok (.tup (cutD xs lo hi))
  | .str s => .ok (.str (cutD s lo hi))
  | .scr s => .ok (.lst ((cutD s lo hi).map D.int))
  | _ => .no
/-- the kind of a value -/
inductive Tk where
  | non | bl | int | str | tup | lst | dic
  deriving DecidableEq
def tkD : D → Option Tk
  | .non => some .non | .bl _ => some .bl | .int _ => some .int | .str _ => some .str | .tup _ => some .tup | .lst _ => some .lst | .dic _ _ => some .dic
  | _ => none
def subT : Tk → Ty → Bool
  | .bl, .bool | .bl, .int | .int, .int | .str, .str | .tup, .tuple | .lst, .list | .dic, .dict => true
  | _, _ => false
def isiD (h : Hh) (x : D) (t : Ty) : Res D := (ofO (tkD (lookD h x))).bind fun k => .ok (.bl (subT k t))
def ints? : List D → Option (List Int)
  | [] => some []
  | .int i :: r => (ints? r).map (i :: ·)
  | _ => none
def bools? : List D → Option (List Bool)
  | [] => some []
  | .bl i :: r => (bools? r).map (i :: ·)
  | _ => none
def strs? : List D → Option (List (List Nat))
  | [] => some []
  | .str i :: r => (strs? r).map (i :: ·)
  | _ => none
def bLen (xs : List D) (h : Hh) : Res D := match xs with
  | [x] => match lookD h x with
    | .lst xs => .ok (.int xs.length)
    | .tup xs => .ok (.int xs.length)
    | .str s => .ok (.int s.length)
    | _ => .no
  | _ => .no
def bAbs (xs : List D) : Res D := match xs with
  | [.int i] => .ok (.int i.natAbs)
  | _ => .no
def bInt (xs : List D) : Res D := match xs with
  | [.int i] => .ok (.int i)
  | _ => .no
def bSum (xs : List D) : Res D := match xs with
  | [.lst xs] => (ofO (ints? xs)).bind fun is => .ok (.int is.sum)
  | _ => .no
def bAll (xs : List D) : Res D := match xs with
  | [.lst xs] => (ofO (bools? xs)).bind fun bs => .ok (.bl (bs.all id))
  | _ => .no
def bAny (xs : List D) : Res D := match xs with
  | [.lst xs] => (ofO (bools? xs)).bind fun bs => .ok (.bl (bs.any id))
  | _ => .no
def bcallD (f : BF) (xs : List D) (h : Hh) : Res D := match f with
  | .len => bLen xs h
  | .abs => bAbs xs
  | .int => bInt xs
  | .sum => bSum xs
  | .all => bAll xs
  | .any => bAny xs
def joinS (sep : List Nat) : List (List Nat) → List Nat
  | [] => []
  | [x] => x
  | x :: y :: r => x ++ (sep ++ joinS sep (y :: r))
def mJoin (x : D) (xs : List D) (h : Hh) : Res (D × Hh) := match x, xs with
  | .str sep, [.lst ys] => (ofO (strs? ys)).bind fun ss => ofB (okN ((ss.map List.length).sum + ss.length * sep.length)) (.str (joinS sep ss), h)
  | _, _ => .no
def mAppend (x : D) (xs : List D) (h : Hh) : Res (D × Hh) := match x, xs with
  | .ref i, [y] => match h[i]? with
    | some (.lst ys) => ofB (okN (ys.length + 1)) (.non, h.set i (.lst (ys ++ [y])))
    | _ => .no
  | _, _ => .no
def mPop (x : D) (xs : List D) (h : Hh) : Res (D × Hh) := match x, xs with
  | .ref i, [.int j] => match h[i]? with
    | some (.lst ys) => if j = 0 then match ys with
        | y :: r => .ok (y, h.set i (.lst r))
        | [] => .no
      else .no
    | _ => .no
  | .ref i, [] => match h[i]? with
    | some (.lst ys) => match ys.getLast? with
        | some y => .ok (y, h.set i (.lst ys.dropLast))
        | none => .no
    | _ => .no
  | _, _ => .no
/-- the receiver's kind -/
def recvD : BM → D → Bool
  | .join, .str _ => true
  | .append, .ref _ => true
  | .pop, .ref _ => true
  | _, _ => false
def bmethD (m : BM) (x : D) (xs : List D) (h : Hh) : Res (D × Hh) := match m with
  | .join => mJoin x xs h
  | .append => mAppend x xs h
  | .pop => mPop x xs h
def setiD (o i v : D) (h : Hh) : Res Hh := match o, i with
  | .ref r, .int j => match h[r]? with
    | some (.lst ys) => if 0 ≤ j ∧ j < ys.length then .ok (h.set r (.lst (ys.set j.toNat v))) else .no
    | _ => .no
  | _, _ => .no

/-! ### what a form gives -/
abbrev Env := List (Option D)
/-- the named things: what a def gives, what a constant is, whether the error class c is one of k -/
structure Gam where
  fn : Nat → Option (Nat × (List D → Hh → Res (D × Hh)))
  con : Nat → Option D
  sub : Nat → Nat → Option Bool
  exk : Nat → Bool
  cls : Nat → Bool
/-- the classes of the clauses are known -/
def hsOk (G : Gam) : Hds → Bool
  | .nil => true
  | .cons k _ hs => G.cls k && hsOk G hs

def getV (r : Env) (i : Nat) : Res D := match r[i]? with
  | some (some d) => .ok d
  | _ => .no
def wipeE (r : Env) : List Nat → Env
  | [] => r
  | v :: vs => (wipeE r vs).set v none
def boolD (d : D) : Res Bool := match d with
  | .bl b => .ok b
  | _ => .no
@[simp] theorem boolD_bl (b : Bool) : boolD (.bl b) = .ok b := rfl

mutual
def setT : Tg → D → Env → Res Env
  | .var i, d, r => .ok (r.set i (some d))
  | .tup ts, d, r => match d with
    | .tup xs => setTs ts xs r
    | .lst xs => setTs ts xs r
    | _ => .no
def setTs : Tgs → List D → Env → Res Env
  | .nil, [], r => .ok r
  | .cons t ts, x :: xs, r => (setT t x r).bind fun r' => setTs ts xs r'
  | _, _, _ => .no
end

/-- the turns of a comprehension -/
def lcD (f : D → Hh → Res (Option D × Hh)) : List D → List D → Hh → Res (List D × Hh)
  | [], acc, h => .ok (acc, h)
  | x :: xs, acc, h => match f x h with
    | .ok (some y, h') => if acc.length < 16777216 then lcD f xs (acc ++ [y]) h' else .no
    | .ok (none, h') => lcD f xs acc h'
    | _ => .no

mutual
def evE (G : Gam) : Ex → Env → Hh → Res (D × Hh)
  | .var i, r, h => (getV r i).bind fun d => .ok (d, h)
  | .con d, _, h => .ok (d, h)
  | .glob k, _, h => (ofO (G.con k)).bind fun d => .ok (d, h)
  | .tup es, r, h => (evEs G es r h).bind fun p => ofB (okN p.1.length) (.tup p.1, p.2)
  | .lst es, r, h => (evEs G es r h).bind fun p => ofB (okN p.1.length) (.lst p.1, p.2)
  | .newl es, r, h => (evEs G es r h).bind fun p => ofB (okN p.1.length) (.ref p.2.length, p.2 ++ [.lst p.1])
  | .bin o a b, r, h => (evE G a r h).bind fun p => (evE G b r p.2).bind fun q => (binD o p.1 q.1).bind fun d => .ok (d, q.2)
  | .neg a, r, h => (evE G a r h).bind fun p => match p.1 with
    | .int i => .ok (.int (-i), p.2)
    | _ => .no
  | .cmp o a b, r, h => (evE G a r h).bind fun p => (evE G b r p.2).bind fun q => (cmpD o p.1 q.1).bind fun d => .ok (d, q.2)
  | .cmp2 o o2 a b c, r, h => (evE G a r h).bind fun p => (evE G b r p.2).bind fun q => (cmpD o p.1 q.1).bind fun d => (boolD d).bind fun t =>
      if t then (evE G c r q.2).bind fun w => (cmpD o2 q.1 w.1).bind fun e => .ok (e, w.2) else .ok (.bl false, q.2)
  | .isn a, r, h => (evE G a r h).bind fun p => match p.1 with
    | .non => .ok (.bl true, p.2)
    | _ => .ok (.bl false, p.2)
  | .notn a, r, h => (evE G a r h).bind fun p => match p.1 with
    | .non => .ok (.bl false, p.2)
    | _ => .ok (.bl true, p.2)
  | .and es, r, h => evA G true es r h
  | .or es, r, h => evA G false es r h
  | .dic0, _, h => .ok (.dic [] [], h)
  | .not a, r, h => (evE G a r h).bind fun p => (boolD p.1).bind fun t => .ok (.bl (!t), p.2)
  | .ife c a b, r, h => (evE G c r h).bind fun p => (boolD p.1).bind fun t => if t then evE G a r p.2 else evE G b r p.2
  | .ix a i, r, h => (evE G a r h).bind fun p => (evE G i r p.2).bind fun q => (ixD q.2 p.1 q.1).bind fun d => .ok (d, q.2)
  | .sl a lo hi, r, h => (evE G a r h).bind fun p => (evO G lo r p.2).bind fun q => (evO G hi r q.2).bind fun w => (slD w.2 p.1 q.1 w.1).bind fun d => .ok (d, w.2)
  | .isi a t, r, h => (evE G a r h).bind fun p => (isiD p.2 p.1 t).bind fun d => .ok (d, p.2)
  | .bcall f es, r, h => (evEs G es r h).bind fun p => (bcallD f p.1 p.2).bind fun d => .ok (d, p.2)
  | .bmeth m a es, r, h => (evE G a r h).bind fun p => if recvD m p.1 then (evEs G es r p.2).bind fun q => bmethD m p.1 q.1 q.2 else .no
  | .call k es, r, h => match G.fn k with
    | some g => (evEs G es r h).bind fun p => if p.1.length = g.1 then g.2 p.1 p.2 else .no
    | none => .no
  | .lc new elt t it ifs own, r, h => (evI G it r h).bind fun p =>
      (lcD (fun x h1 => (setT t x (wipeE r own)).bind fun r1 => (evTs G ifs r1 h1).bind fun b => if b.1 then (evE G elt r1 b.2).bind fun y => .ok (some y.1, y.2) else .ok (none, b.2)) p.1 [] p.2).bind fun q =>
        if new then .ok (.ref q.2.length, q.2 ++ [.lst q.1]) else .ok (.lst q.1, q.2)
def evEs (G : Gam) : Exs → Env → Hh → Res (List D × Hh)
  | .nil, _, h => .ok ([], h)
  | .cons e es, r, h => (evE G e r h).bind fun p => (evEs G es r p.2).bind fun q => .ok (p.1 :: q.1, q.2)
/-- and (true), or (false) of truth values, from the left -/
def evA (G : Gam) (k : Bool) : Exs → Env → Hh → Res (D × Hh)
  | .nil, _, _ => .no
  | .cons e es, r, h => (evE G e r h).bind fun p => (boolD p.1).bind fun t => match es with
    | .nil => .ok (.bl t, p.2)
    | es => if t = k then evA G k es r p.2 else .ok (.bl t, p.2)
/-- all tests hold, from the left -/
def evTs (G : Gam) : Exs → Env → Hh → Res (Bool × Hh)
  | .nil, _, h => .ok (true, h)
  | .cons e es, r, h => (evE G e r h).bind fun p => (boolD p.1).bind fun t => if t then evTs G es r p.2 else .ok (false, p.2)
def evO (G : Gam) : Ox → Env → Hh → Res (Option Int × Hh)
  | .none, _, h => .ok (none, h)
  | .some e, r, h => (evE G e r h).bind fun p => match p.1 with
    | .int i => .ok (some i, p.2)
    | _ => .no
/-- what a loop goes through -/
def evI (G : Gam) : It → Env → Hh → Res (List D × Hh)
  | .seq e, r, h => (evE G e r h).bind fun p => match p.1 with
    | .lst xs => .ok (xs, p.2)
    | .tup xs => .ok (xs, p.2)
    | .str s => .ok (s.map fun c => .str [c], p.2)
    | _ => .no
  | .range e, r, h => (evE G e r h).bind fun p => match p.1 with
    | .int n => ofB (decide (-1099511627776 < n) && decide (n < 1099511627776)) ((List.range n.toNat).map fun (i : Nat) => .int (0 + (i : Int)), p.2)
    | _ => .no
  | .range2 a b, r, h => (evE G a r h).bind fun p => (evE G b r p.2).bind fun q => match p.1, q.1 with
    | .int m, .int n => ofB (decide (-1099511627776 < m) && decide (m < 1099511627776) && decide (-1099511627776 < n) && decide (n < 1099511627776)) ((List.range (n - m).toNat).map fun (i : Nat) => .int (m + (i : Int)), q.2)
    | _, _ => .no
  | .enum e, r, h => (evE G e r h).bind fun p => match p.1 with
    | .lst xs => .ok (xs.zipIdx.map fun y => .tup [.int y.2, y.1], p.2)
    | .tup xs => .ok (xs.zipIdx.map fun y => .tup [.int y.2, y.1], p.2)
    | _ => .no
  | .zip a b, r, h => (evE G a r h).bind fun p => (evE G b r p.2).bind fun q => match p.1, q.1 with
    | .lst xs, .lst ys => .ok ((xs.zip ys).map fun y => .tup [y.1, y.2], q.2)
    | _, _ => .no
end

inductive Out where
  | nx (r : Env) (h : Hh) | rt (d : D) (h : Hh) | bk (r : Env) (h : Hh) | ct (r : Env) (h : Hh) | ex (c : Nat) (xs : List D) (r : Env) (h : Hh)
/-- an expression within a statement: what it raises leaves the statement at these places -/
def Res.bs {a : Type} (x : Res a) (r : Env) (f : a → Res Out) : Res Out := match x with
  | .ok a => f a
  | .exc c xs h => .ok (.ex c xs r h)
  | .no => .no
@[simp] theorem Res.bs_ok {a : Type} (x : a) (r : Env) (f : a → Res Out) : (Res.ok x).bs r f = f x := rfl
@[simp] theorem Res.bs_exc {a : Type} (c xs h) (r : Env) (f : a → Res Out) : (Res.exc c xs h : Res a).bs r f = .ok (.ex c xs r h) := rfl
@[simp] theorem Res.bs_no {a : Type} (r : Env) (f : a → Res Out) : (Res.no : Res a).bs r f = .no := rfl

/-- the turns of a for -/
def forD (f : D → Env → Hh → Res Out) : List D → Env → Hh → Res Out
  | [], r, h => .ok (.nx r h)
  | x :: xs, r, h => match f x r h with
    | .ok (.nx r' h') => forD f xs r' h'
    | .ok (.ct r' h') => forD f xs r' h'
    | .ok (.bk r' h') => .ok (.nx r' h')
    | o => o
/-- n turns of a while at most -/
def whileN (c : Env → Hh → Res (Bool × Hh)) (f : Env → Hh → Res Out) : Nat → Env → Hh → Res Out
  | 0, _, _ => .no
  | n + 1, r, h => (c r h).bs r fun b => if b.1 then match f r b.2 with
      | .ok (.nx r' h') => whileN c f n r' h'
      | .ok (.ct r' h') => whileN c f n r' h'
      | .ok (.bk r' h') => .ok (.nx r' h')
      | o => o
    else .ok (.nx r b.2)
open Classical in
/-- a while, whatever the number of its turns -/
noncomputable def whileD (c : Env → Hh → Res (Bool × Hh)) (f : Env → Hh → Res Out) (r : Env) (h : Hh) : Res Out :=
  if e : ∃ n, whileN c f n r h ≠ .no then whileN c f (Classical.choose e) r h else .no

/-- two names at once -/
def parD (i j : Nat) (r : Env) (h : Hh) : List D → Res Out
  | [x, y] => .ok (.nx ((r.set i (some x)).set j (some y)) h)
  | _ => .no
mutual
noncomputable def evS (G : Gam) : Sm → Env → Hh → Res Out
  | .set i e, r, h => (evE G e r h).bs r fun p => .ok (.nx (r.set i (some p.1)) p.2)
  | .asg t e, r, h => (evE G e r h).bs r fun p => (setT t p.1 r).bs r fun r' => .ok (.nx r' p.2)
  | .par i j es, r, h => (evEs G es r h).bs r fun p => parD i j r p.2 p.1
  | .seti o i e, r, h => (evE G e r h).bs r fun p => (evE G o r p.2).bs r fun q => (evE G i r q.2).bs r fun w => (setiD q.1 w.1 p.1 w.2).bs r fun h' => .ok (.nx r h')
  | .aug i o e, r, h => (getV r i).bs r fun d => (evE G e r h).bs r fun p => (augD d p.1).bs r fun y => .ok (.nx (r.set i (some y)) p.2)
  | .expr e, r, h => (evE G e r h).bs r fun p => .ok (.nx r p.2)
  | .ret e, r, h => (evE G e r h).bs r fun p => .ok (.rt p.1 p.2)
  | .retn, _, h => .ok (.rt .non h)
  | .iff c a b, r, h => (evE G c r h).bs r fun p => (boolD p.1).bs r fun t => if t then evSs G a r p.2 else evSs G b r p.2
  | .forr t it b, r, h => (evI G it r h).bs r fun p => forD (fun x r1 h1 => (setT t x r1).bs r1 fun r2 => evSs G b r2 h1) p.1 r p.2
  | .whil c b, r, h => whileD (fun r1 h1 => (evE G c r1 h1).bind fun p => (boolD p.1).bind fun t => .ok (t, p.2)) (fun r1 h1 => evSs G b r1 h1) r h
  | .brk, r, h => .ok (.bk r h)
  | .cont, r, h => .ok (.ct r h)
  | .pass, r, h => .ok (.nx r h)
  | .rais k es, r, h => if G.exk k then (evEs G es r h).bs r fun p => .ok (.ex k p.1 r p.2) else .no
  | .tryy b hs, r, h => if hsOk G hs then match evSs G b r h with
      | .ok (.ex c xs r' h') => evH G hs c xs r' h'
      | o => o
    else .no
noncomputable def evSs (G : Gam) : Sms → Env → Hh → Res Out
  | .nil, r, h => .ok (.nx r h)
  | .cons s ss, r, h => (evS G s r h).bind fun o => match o with
    | .nx r' h' => evSs G ss r' h'
    | o => .ok o
noncomputable def evH (G : Gam) : Hds → Nat → List D → Env → Hh → Res Out
  | .nil, c, xs, r, h => .ok (.ex c xs r h)
  | .cons k b hs, c, xs, r, h => match G.sub c k with
    | some true => evSs G b r h
    | some false => evH G hs c xs r h
    | none => .no
end
/-- a body run with its arguments: n places -/
noncomputable def runD (G : Gam) (n : Nat) (b : Sms) (xs : List D) (h : Hh) : Res (D × Hh) :=
  match evSs G b (xs.map some ++ List.replicate (n - xs.length) none) h with
  | .ok (.nx _ h') => .ok (.non, h')
  | .ok (.rt d h') => .ok (d, h')
  | .ok (.ex c xs _ h') => .exc c xs h'
  | _ => .no
end Z9

set_option Elab.async false
set_option linter.all false
set_option maxRecDepth 100000
/-! E1: how data stands for values over the abstract heap. -/
namespace Z9
open PySem L2

/-- a list of the module, or one that stays -/
def SqF (K : PySem.W.Frag) (L : Addr → Prop) (f : List Addr) (H : Hp) (a : Addr) (xs : List V) : Prop :=
  (Rd H a (.lst xs) ∧ ¬ L a ∧ a ∉ f) ∨
    ∃ (o : Obj) (its : Array Value) (n : Nat), K.lookup a = some o ∧ o.cls = .type "list" ∧ o.dict = none ∧ o.data = .seq its n ∧ its.size ≤ sizeLine ∧ Vals xs its.toList
theorem SqF.sq {K : PySem.W.Frag} {L : Addr → Prop} {f : List Addr} {H : Hp} {a : Addr} {xs : List V} (h : SqF K L f H a xs) : SqL K H a xs := h.elim (fun x => .inl x.1) .inr
section
variable (K : PySem.W.Frag) (L : Addr → Prop) (f : List Addr) (H : Hp)
mutual
/-- the value v stands for the data; L: places that others may change; f: the changing places, by number -/
inductive Rep : V → D → Prop
  | non : Rep .non .non
  | bl (b : Bool) : Rep (.bl b) (.bl b)
  | int (i : Int) : Rep (.int i) (.int i)
  | str (s : List Nat) : PySem.PyData.strOk ⟨s.toArray⟩ = true → s.length ≤ sizeLine → Rep (.str ⟨s.toArray⟩) (.str s)
  | tup {a : Addr} {vs : List V} {ds : List D} : SqT K H a vs → RepL vs ds → Rep (.ref a) (.tup ds)
  | lst {a : Addr} {vs : List V} {ds : List D} : H a = some (.lst vs) → ¬ L a → a ∉ f → RepL vs ds → Rep (.ref a) (.lst ds)
  | ref {a : Addr} {i : Nat} : f[i]? = some a → Rep (.ref a) (.ref i)
  | dic0 {a : Addr} : H a = some (.dK []) → ¬ L a → a ∉ f → Rep (.ref a) (.dic [] [])
  | scr {a : Addr} {ns : List Int} : SqF K L f H a (ns.map V.int) → Rep (.ref a) (.scr ns)
inductive RepL : List V → List D → Prop
  | nil : RepL [] []
  | cons {v : V} {vs : List V} {d : D} {ds : List D} : Rep v d → RepL vs ds → RepL (v :: vs) (d :: ds)
end
end

section
variable {K : PySem.W.Frag} {L : Addr → Prop} {f : List Addr} {H : Hp}
theorem RepL.length : ∀ {vs : List V} {ds : List D}, RepL K L f H vs ds → vs.length = ds.length
  | _, _, .nil => rfl
  | _, _, .cons _ t => by simp [RepL.length t]
theorem RepL.append : ∀ {vs ws : List V} {ds es : List D}, RepL K L f H vs ds → RepL K L f H ws es → RepL K L f H (vs ++ ws) (ds ++ es)
  | _, _, _, _, .nil, h => h
  | _, _, _, _, .cons r t, h => .cons r (RepL.append t h)
theorem RepL.get : ∀ {vs : List V} {ds : List D} {i : Nat} {d : D}, RepL K L f H vs ds → ds[i]? = some d → ∃ v, vs[i]? = some v ∧ Rep K L f H v d
  | _, _, _, _, .nil, e => by simp at e
  | _, _, 0, _, .cons r _, e => by simp at e; subst e; exact ⟨_, rfl, r⟩
  | _, _, i + 1, d, .cons _ t, e => by
    obtain ⟨v, h1, h2⟩ := RepL.get (i := i) (d := d) t (by simpa using e)
    exact ⟨v, by simpa using h1, h2⟩
theorem RepL.getV : ∀ {vs : List V} {ds : List D} {i : Nat} {v : V}, RepL K L f H vs ds → vs[i]? = some v → ∃ d, ds[i]? = some d ∧ Rep K L f H v d
  | _, _, _, _, .nil, e => by simp at e
  | _, _, 0, _, .cons r _, e => by simp at e; subst e; exact ⟨_, rfl, r⟩
  | _, _, i + 1, d, .cons _ t, e => by
    obtain ⟨v, h1, h2⟩ := RepL.getV (i := i) (v := d) t (by simpa using e)
    exact ⟨v, by simpa using h1, h2⟩
theorem RepL.take : ∀ {vs : List V} {ds : List D} (n : Nat), RepL K L f H vs ds → RepL K L f H (vs.take n) (ds.take n)
  | _, _, 0, _ => by simpa using .nil
  | _, _, _ + 1, .nil => by simpa using .nil
  | _, _, n + 1, .cons r t => .cons r (RepL.take n t)
theorem RepL.drop : ∀ {vs : List V} {ds : List D} (n : Nat), RepL K L f H vs ds → RepL K L f H (vs.drop n) (ds.drop n)
  | _, _, 0, h => h
  | _, _, _ + 1, .nil => by simpa using .nil
  | _, _, n + 1, .cons r t => RepL.drop n t
theorem RepL.set {v : V} {d : D} (r : Rep K L f H v d) : ∀ {vs : List V} {ds : List D} (i : Nat), RepL K L f H vs ds → RepL K L f H (vs.set i v) (ds.set i d)
  | _, _, _, .nil => .nil
  | _, _, 0, .cons _ t => .cons r t
  | _, _, i + 1, .cons q t => .cons q (RepL.set r i t)
theorem RepL.ints : ∀ (ns : List Int), RepL K L f H (ns.map V.int) (ns.map D.int)
  | [] => .nil
  | n :: ns => .cons (.int n) (RepL.ints ns)
theorem RepL.split : ∀ {vs : List V} {ds es : List D}, RepL K L f H vs (ds ++ es) → ∃ us ws, vs = us ++ ws ∧ RepL K L f H us ds ∧ RepL K L f H ws es
  | vs, [], es, h => ⟨[], vs, rfl, .nil, h⟩
  | _, d :: ds, es, .cons r t => by
    obtain ⟨us, ws, e, a, b⟩ := RepL.split (ds := ds) t
    exact ⟨_ :: us, ws, by rw [e]; rfl, .cons r a, b⟩
end

/-- the state's changing objects -/
structure SRel (K : PySem.W.Frag) (L : Addr → Prop) (f : List Addr) (h : Hh) (H : Hp) : Prop where
  len : f.length = h.length
  nd : f.Nodup
  out : ∀ a, L a → H a ≠ none
  dis : ∀ a ∈ f, ¬ L a
  obj : ∀ (i : Nat) (d : D), h[i]? = some d → ∃ (a : Addr) (ds : List D) (vs : List V), f[i]? = some a ∧ d = D.lst ds ∧ H a = some (.lst vs) ∧ RepL K L f H vs ds

/-- what may have become of the state -/
structure Le (f : List Addr) (H : Hp) (f' : List Addr) (H' : Hp) : Prop where
  pre : ∃ g, f' = f ++ g ∧ ∀ a ∈ g, H a = none
  keep : ∀ a o, H a = some o → a ∉ f → H' a = some o

section
variable {K : PySem.W.Frag} {L : Addr → Prop} {f f' f2 : List Addr} {h h' : Hh} {H H' H2 : Hp}
theorem Le.refl : Le f H f H := ⟨⟨[], by simp, by simp⟩, fun _ _ e _ => e⟩
theorem SRel.at (S : SRel K L f h H) {a : Addr} (ha : a ∈ f) : ∃ vs, H a = some (.lst vs) := by
  obtain ⟨i, hi, e⟩ := List.getElem_of_mem ha
  have hi' : i < h.length := by rw [← S.len]; exact hi
  obtain ⟨b, ds, vs, e1, _, e2, _⟩ := S.obj i h[i] (by simp [hi'])
  have : b = a := by
    rw [List.getElem?_eq_getElem hi, e] at e1
    exact (Option.some.inj e1).symm
  subst this
  exact ⟨vs, e2⟩
theorem Le.none {L0 L1 : Addr → Prop} (l : Le f H f' H') (S : SRel K L0 f h H) (S' : SRel K L1 f' h' H') {a : Addr} (e : H' a = .none) : H a = .none := by
  cases q : H a with
  | none => rfl
  | some o =>
    exfalso
    by_cases hm : a ∈ f
    · obtain ⟨g, e1, _⟩ := l.pre
      obtain ⟨vs, e2⟩ := S'.at (a := a) (by rw [e1]; exact List.mem_append_left _ hm)
      rw [e] at e2
      cases e2
    · rw [l.keep a o q hm] at e
      cases e
theorem Le.trans {L0 L1 : Addr → Prop} (S : SRel K L0 f h H) (S' : SRel K L1 f' h' H') (l : Le f H f' H') (m : Le f' H' f2 H2) : Le f H f2 H2 := by
  obtain ⟨g, e1, n1⟩ := id l.pre
  obtain ⟨k, e2, n2⟩ := id m.pre
  refine ⟨⟨g ++ k, by rw [e2, e1, List.append_assoc], fun a ha => ?_⟩, fun a o e hn => ?_⟩
  · rcases List.mem_append.mp ha with h1 | h1
    · exact n1 a h1
    · exact l.none S S' (n2 a h1)
  · have hn' : a ∉ f' := by
      rw [e1]
      intro hm
      rcases List.mem_append.mp hm with h1 | h1
      · exact hn h1
      · rw [n1 a h1] at e
        cases e
    exact m.keep a o (l.keep a o e hn) hn'
mutual
theorem Rep.mono {L0 : Addr → Prop} (S : SRel K L0 f h H) (l : Le f H f' H') : ∀ {v : V} {d : D}, Rep K L f H v d → Rep K L f' H' v d
  | _, _, .non => .non
  | _, _, .bl b => .bl b
  | _, _, .int i => .int i
  | _, _, .str s a b => .str s a b
  | _, _, .tup (a := a) (vs := vs) hs r => .tup (by
      rcases hs with (e | ⟨o, e⟩) | k
      · refine .inl (.inl (l.keep _ _ e fun hm => ?_))
        obtain ⟨ws, e2⟩ := S.at hm
        rw [e] at e2
        cases e2
      · refine .inl (.inr ⟨o, l.keep _ _ e fun hm => ?_⟩)
        obtain ⟨ws, e2⟩ := S.at hm
        rw [e] at e2
        cases e2
      · exact .inr k) (RepL.mono S l r)
  | _, _, .lst e nl nf r => .lst (l.keep _ _ e nf) nl (by
      obtain ⟨g, e1, n1⟩ := l.pre
      rw [e1]
      intro hm
      rcases List.mem_append.mp hm with h1 | h1
      · exact nf h1
      · rw [n1 _ h1] at e
        cases e) (RepL.mono S l r)
  | _, _, .dic0 e nl nf => .dic0 (l.keep _ _ e nf) nl (by
      obtain ⟨g, e1, n1⟩ := l.pre
      rw [e1]
      intro hm
      rcases List.mem_append.mp hm with h1 | h1
      · exact nf h1
      · rw [n1 _ h1] at e
        cases e)
  | _, _, .ref (i := i) e => .ref (by
      obtain ⟨g, e1, _⟩ := l.pre
      rw [e1]
      have hi : i < f.length := (List.getElem?_eq_some_iff.mp e).1
      rw [List.getElem?_append_left hi]
      exact e)
  | _, _, .scr (a := a) (ns := ns) hs => .scr (by
      rcases hs with ⟨e, nl, nf⟩ | k
      · have e' : Rd H' a (.lst (ns.map V.int)) := by
          rcases e with e | ⟨o, e⟩
          · exact .inl (l.keep _ _ e nf)
          · exact .inr ⟨o, l.keep _ _ e nf⟩
        refine .inl ⟨e', nl, ?_⟩
        obtain ⟨g, e1, n1⟩ := l.pre
        rw [e1]
        intro hm
        rcases List.mem_append.mp hm with h1 | h1
        · exact nf h1
        · rcases e with e | ⟨o, e⟩
          · rw [n1 _ h1] at e
            cases e
          · rw [n1 _ h1] at e
            cases e
      · exact .inr k)
theorem RepL.mono {L0 : Addr → Prop} (S : SRel K L0 f h H) (l : Le f H f' H') : ∀ {vs : List V} {ds : List D}, RepL K L f H vs ds → RepL K L f' H' vs ds
  | _, _, .nil => .nil
  | _, _, .cons r t => .cons (Rep.mono S l r) (RepL.mono S l t)
end
/-- a new object that stays -/
theorem SRel.alloc {p : Addr} {o : HO} (S : SRel K L f h H) (hp : H p = .none) : Le f H f (upd H p o) ∧ SRel K L f h (upd H p o) ∧ ¬ L p ∧ p ∉ f := by
  have hl : ¬ L p := fun x => S.out p x hp
  have hf : p ∉ f := fun x => by
    obtain ⟨vs, e⟩ := S.at x
    rw [hp] at e
    cases e
  have l : Le f H f (upd H p o) := ⟨⟨[], by simp, by simp⟩, fun a u e _ => by
    rw [upd_ne (fun z => by rw [z, hp] at e; cases e)]
    exact e⟩
  refine ⟨l, ⟨S.len, S.nd, fun a x => ?_, S.dis, fun i d e => ?_⟩, hl, hf⟩
  · by_cases z : a = p
    · subst z
      rw [upd_same]
      exact fun y => nomatch y
    · rw [upd_ne z]
      exact S.out a x
  · obtain ⟨a, ds, vs, e1, e2, e3, r⟩ := S.obj i d e
    refine ⟨a, ds, vs, e1, e2, ?_, RepL.mono S l r⟩
    rw [upd_ne (fun z => by rw [z, hp] at e3; cases e3)]
    exact e3
/-- more places that others may change: new ones -/
structure Lw (L : Addr → Prop) (H : Hp) (L1 : Addr → Prop) : Prop where
  sub : ∀ a, L a → L1 a
  new : ∀ a, L1 a → L a ∨ H a = .none
theorem Lw.refl : Lw L H L := ⟨fun _ h => h, fun _ h => .inl h⟩
mutual
theorem Rep.wide {L1 : Addr → Prop} (w : Lw L H L1) : ∀ {v : V} {d : D}, Rep K L f H v d → Rep K L1 f H v d
  | _, _, .non => .non
  | _, _, .bl b => .bl b
  | _, _, .int i => .int i
  | _, _, .str s a b => .str s a b
  | _, _, .tup hs r => .tup hs (RepL.wide w r)
  | _, _, .lst e nl nf r => .lst e (fun x => (w.new _ x).elim nl fun z => by rw [z] at e; cases e) nf (RepL.wide w r)
  | _, _, .ref e => .ref e
  | _, _, .dic0 e nl nf => .dic0 e (fun x => (w.new _ x).elim nl fun z => by rw [z] at e; cases e) nf
  | _, _, .scr hs => .scr (by
      rcases hs with ⟨e, nl, nf⟩ | k
      · refine .inl ⟨e, fun x => (w.new _ x).elim nl fun z => ?_, nf⟩
        rcases e with e | ⟨o, e⟩ <;> (rw [z] at e; cases e)
      · exact .inr k)
theorem RepL.wide {L1 : Addr → Prop} (w : Lw L H L1) : ∀ {vs : List V} {ds : List D}, RepL K L f H vs ds → RepL K L1 f H vs ds
  | _, _, .nil => .nil
  | _, _, .cons r t => .cons (Rep.wide w r) (RepL.wide w t)
end
mutual
theorem Rep.narrow {L1 : Addr → Prop} (w : ∀ a, L1 a → L a) : ∀ {v : V} {d : D}, Rep K L f H v d → Rep K L1 f H v d
  | _, _, .non => .non
  | _, _, .bl b => .bl b
  | _, _, .int i => .int i
  | _, _, .str s a b => .str s a b
  | _, _, .tup hs r => .tup hs (RepL.narrow w r)
  | _, _, .lst e nl nf r => .lst e (fun x => nl (w _ x)) nf (RepL.narrow w r)
  | _, _, .ref e => .ref e
  | _, _, .dic0 e nl nf => .dic0 e (fun x => nl (w _ x)) nf
  | _, _, .scr hs => .scr (by
      rcases hs with ⟨e, nl, nf⟩ | k
      · exact .inl ⟨e, fun x => nl (w _ x), nf⟩
      · exact .inr k)
theorem RepL.narrow {L1 : Addr → Prop} (w : ∀ a, L1 a → L a) : ∀ {vs : List V} {ds : List D}, RepL K L f H vs ds → RepL K L1 f H vs ds
  | _, _, .nil => .nil
  | _, _, .cons r t => .cons (Rep.narrow w r) (RepL.narrow w t)
end
mutual
theorem Rep.up {p : Addr} (np : ¬ L p) : ∀ {v : V} {d : D}, Rep K (fun a => L a ∨ a = p) f H v d → Rep K L (f ++ [p]) H v d
  | _, _, .non => .non
  | _, _, .bl b => .bl b
  | _, _, .int i => .int i
  | _, _, .str s a b => .str s a b
  | _, _, .tup hs r => .tup hs (RepL.up np r)
  | _, _, .lst e nl nf r => .lst e (fun x => nl (.inl x)) (fun m => (List.mem_append.mp m).elim nf fun z => nl (.inr (List.mem_singleton.mp z))) (RepL.up np r)
  | _, _, .ref (i := i) e => .ref (by
      have hi : i < f.length := (List.getElem?_eq_some_iff.mp e).1
      rw [List.getElem?_append_left hi]
      exact e)
  | _, _, .dic0 e nl nf => .dic0 e (fun x => nl (.inl x)) (fun m => (List.mem_append.mp m).elim nf fun z => nl (.inr (List.mem_singleton.mp z)))
  | _, _, .scr hs => .scr (by
      rcases hs with ⟨e, nl, nf⟩ | k
      · exact .inl ⟨e, fun x => nl (.inl x), fun m => (List.mem_append.mp m).elim nf fun z => nl (.inr (List.mem_singleton.mp z))⟩
      · exact .inr k)
theorem RepL.up {p : Addr} (np : ¬ L p) : ∀ {vs : List V} {ds : List D}, RepL K (fun a => L a ∨ a = p) f H vs ds → RepL K L (f ++ [p]) H vs ds
  | _, _, .nil => .nil
  | _, _, .cons r t => .cons (Rep.up np r) (RepL.up np t)
end
theorem SRel.narrow {L1 : Addr → Prop} (w : ∀ a, L1 a → L a) (S : SRel K L f h H) : SRel K L1 f h H :=
  ⟨S.len, S.nd, fun a x => S.out a (w a x), fun a m x => S.dis a m (w a x), fun i d e => let ⟨a, ds, vs, e1, e2, e3, r⟩ := S.obj i d e; ⟨a, ds, vs, e1, e2, e3, RepL.narrow w r⟩⟩
/-- one place more that others may change -/
theorem SRel.widen {p : Addr} (S : SRel K L f h H) (hp : H p ≠ .none) (hf : p ∉ f) (r : ∀ vs ds, RepL K L f H vs ds → RepL K (fun a => L a ∨ a = p) f H vs ds) : SRel K (fun a => L a ∨ a = p) f h H :=
  ⟨S.len, S.nd, fun a x => x.elim (S.out a) fun z => by rw [z]; exact hp, fun a m x => x.elim (S.dis a m) fun z => hf (by rw [← z]; exact m),
    fun i d e => let ⟨a, ds, vs, e1, e2, e3, q⟩ := S.obj i d e; ⟨a, ds, vs, e1, e2, e3, r _ _ q⟩⟩
mutual
theorem Rep.poke {p : Addr} {o : HO} {xs : List V} (hp : L p) (hl : H p = some (.lst xs)) : ∀ {v : V} {d : D}, Rep K L f H v d → Rep K L f (upd H p o) v d
  | _, _, .non => .non
  | _, _, .bl b => .bl b
  | _, _, .int i => .int i
  | _, _, .str s a b => .str s a b
  | _, _, .tup hs r => .tup (by
      rcases hs with (e | ⟨u, e⟩) | k
      · exact .inl (.inl (by rw [upd_ne (fun z => by rw [z, hl] at e; cases e)]; exact e))
      · exact .inl (.inr ⟨u, by rw [upd_ne (fun z => by rw [z, hl] at e; cases e)]; exact e⟩)
      · exact .inr k) (RepL.poke hp hl r)
  | _, _, .lst e nl nf r => .lst (by rw [upd_ne (fun z => nl (by rw [z]; exact hp))]; exact e) nl nf (RepL.poke hp hl r)
  | _, _, .ref e => .ref e
  | _, _, .dic0 e nl nf => .dic0 (by rw [upd_ne (fun z => nl (by rw [z]; exact hp))]; exact e) nl nf
  | _, _, .scr hs => .scr (by
      rcases hs with ⟨e, nl, nf⟩ | k
      · refine .inl ⟨?_, nl, nf⟩
        rcases e with e | ⟨u, e⟩
        · exact .inl (by rw [upd_ne (fun z => nl (by rw [z]; exact hp))]; exact e)
        · exact .inr ⟨u, by rw [upd_ne (fun z => nl (by rw [z]; exact hp))]; exact e⟩
      · exact .inr k)
theorem RepL.poke {p : Addr} {o : HO} {xs : List V} (hp : L p) (hl : H p = some (.lst xs)) : ∀ {vs : List V} {ds : List D}, RepL K L f H vs ds → RepL K L f (upd H p o) vs ds
  | _, _, .nil => .nil
  | _, _, .cons r t => .cons (Rep.poke hp hl r) (RepL.poke hp hl t)
end
theorem SRel.poke {p : Addr} {o : HO} {xs : List V} (S : SRel K L f h H) (hp : L p) (hl : H p = some (.lst xs)) : SRel K L f h (upd H p o) := by
  refine ⟨S.len, S.nd, fun a x => ?_, S.dis, fun i d e => ?_⟩
  · by_cases z : a = p
    · subst z
      rw [upd_same]
      exact fun y => nomatch y
    · rw [upd_ne z]
      exact S.out a x
  · obtain ⟨a, ds, vs, e1, e2, e3, r⟩ := S.obj i d e
    refine ⟨a, ds, vs, e1, e2, ?_, RepL.poke hp hl r⟩
    rw [upd_ne (fun z => S.dis a (List.mem_of_getElem? e1) (by rw [z]; exact hp))]
    exact e3
/-- a new object that this one may change, and no other knows -/
theorem SRel.lay {p : Addr} {o : HO} (S : SRel K L f h H) (hp : H p = .none) : Le f H f (upd H p o) ∧ SRel K (fun a => L a ∨ a = p) f h (upd H p o) ∧ Lw L H (fun a => L a ∨ a = p) ∧ ¬ L p ∧ p ∉ f := by
  obtain ⟨l, S', n1, n2⟩ := S.alloc (o := o) hp
  have w : Lw L H (fun a => L a ∨ a = p) := ⟨fun a x => .inl x, fun a x => x.imp id fun z => by rw [z]; exact hp⟩
  refine ⟨l, ⟨S.len, S.nd, fun a x => ?_, fun a m x => ?_, fun i d e => ?_⟩, w, n1, n2⟩
  · rcases x with x | x
    · exact S'.out a x
    · rw [x, upd_same]
      exact fun y => nomatch y
  · rcases x with x | x
    · exact S.dis a m x
    · rw [x] at m
      exact n2 m
  · obtain ⟨a, ds, vs, e1, e2, e3, r⟩ := S.obj i d e
    refine ⟨a, ds, vs, e1, e2, ?_, RepL.mono S l (RepL.wide w r)⟩
    rw [upd_ne (fun z => by rw [z, hp] at e3; cases e3)]
    exact e3
end
end Z9

set_option Elab.async false
set_option linter.all false
set_option maxRecDepth 100000
set_option maxHeartbeats 1000000
/-! E2: the operations by values. -/
namespace Z9
open PySem PySem.Spec PyProof.Rows L2

section
variable {K : PySem.W.Frag} {L : Addr → Prop} {f f' : List Addr} {h : Hh} {H H' : Hp}
theorem str_len (s : List Nat) : (⟨s.toArray⟩ : Str).length = s.length := by simp [Str.length]
theorem strOk_iff {s : List Nat} : PySem.PyData.strOk ⟨s.toArray⟩ = true ↔ ∀ c ∈ s, c < 0x110000 := by
  simp [PySem.PyData.strOk]
theorem Rep.app {x y : List Nat} {a b : Str} (h1 : Rep K L f H (.str a) (.str x)) (h2 : Rep K L f H (.str b) (.str y)) (hz : x.length + y.length ≤ sizeLine) : Rep K L f H (.str (a ++ b)) (.str (x ++ y)) := by
  cases h1 with
  | str _ o1 z1 =>
    cases h2 with
    | str _ o2 z2 =>
      have e : ((⟨x.toArray⟩ : Str) ++ (⟨y.toArray⟩ : Str)) = (⟨(x ++ y).toArray⟩ : Str) := by
        show (⟨x.toArray ++ y.toArray⟩ : Str) = _
        simp
      rw [e]
      refine .str _ ?_ (by rw [List.length_append]; exact hz)
      rw [strOk_iff] at o1 o2 ⊢
      intro c hc
      rcases List.mem_append.mp hc with k | k
      · exact o1 c k
      · exact o2 c k
/-- any text of signs that are let -/
theorem Rep.strOf {x : List Nat} (o : ∀ c ∈ x, c < 0x110000) (z : x.length ≤ sizeLine) : Rep K L f H (.str ⟨x.toArray⟩) (.str x) := .str x (strOk_iff.mpr o) z
theorem Rep.signs {x : List Nat} {v : V} (h : Rep K L f H v (.str x)) : v = .str ⟨x.toArray⟩ ∧ (∀ c ∈ x, c < 0x110000) ∧ x.length ≤ sizeLine := by
  cases h with
  | str _ o z => exact ⟨rfl, strOk_iff.mp o, z⟩
theorem Rep.seqT {ds : List D} {v : V} (h : Rep K L f H v (.tup ds)) : ∃ a vs, v = .ref a ∧ SqT K H a vs ∧ RepL K L f H vs ds := by
  cases h with
  | tup s r => exact ⟨_, _, rfl, s, r⟩
theorem Rep.seqL {ds : List D} {v : V} (h : Rep K L f H v (.lst ds)) : ∃ a vs, v = .ref a ∧ H a = some (.lst vs) ∧ ¬ L a ∧ a ∉ f ∧ RepL K L f H vs ds := by
  cases h with
  | lst s n1 n2 r => exact ⟨_, _, rfl, s, n1, n2, r⟩
theorem Rep.intE {i : Int} {v : V} (h : Rep K L f H v (.int i)) : v = .int i := by cases h; rfl
theorem Rep.blE {i : Bool} {v : V} (h : Rep K L f H v (.bl i)) : v = .bl i := by cases h; rfl
end

/-- what an operation by values asks -/
def rD (K : PySem.W.Frag) (g : D → D → Hh → Res D) : R2 := fun x y H Q => ∃ (L : Addr → Prop) (f : List Addr) (h : Hh) (d e : D), SRel K L f h H ∧ Rep K L f H x d ∧ Rep K L f H y e ∧
  match g d e h with
  | .ok z => ∀ (H' : Hp) (v : V), Le f H f H' → SRel K L f h H' → Rep K L f H' v z → Q v H'
  | _ => False

section
variable {X : Cx}
theorem ofB_ok {α : Type} {b : Bool} {a z : α} (h : ofB b a = .ok z) : b = true ∧ a = z := by
  cases b with
  | true => exact ⟨rfl, Res.ok.inj h⟩
  | false => cases h
theorem rD_ok {g : Res D} {P : D → Prop} (h : match g with | .ok z => P z | _ => False) : ∃ z, g = .ok z ∧ P z := by
  cases g with
  | ok z => exact ⟨z, rfl, h⟩
  | exc c xs h' => exact h.elim
  | no => exact h.elim
/-- a new list that stays -/
theorem fin_list {pins : List (Addr × Obj)} {σ : L2.St} {s : Shared} {H : Hp} {K : PySem.W.Frag} {L : Addr → Prop} {f : List Addr} {h : Hh} {vs : List V} {ds : List D} {Q : VK} {p : Addr} (S : SRel K L f h H) (r : RepL K L f H vs ds)
    (q : ∀ (H' : Hp) (v : V), Le f H f H' → SRel K L f h H' → Rep K L f H' v (.lst ds) → Q v H') (hp : H p = none) : Q (.ref p) (upd H p (.lst vs)) := by
  obtain ⟨l, S', n1, n2⟩ := S.alloc (o := .lst vs) hp
  exact q _ _ l S' (.lst upd_same n1 n2 (RepL.mono S l r))
theorem fin_tup {H : Hp} {K : PySem.W.Frag} {L : Addr → Prop} {f : List Addr} {h : Hh} {vs : List V} {ds : List D} {Q : VK} {p : Addr} (S : SRel K L f h H) (r : RepL K L f H vs ds)
    (q : ∀ (H' : Hp) (v : V), Le f H f H' → SRel K L f h H' → Rep K L f H' v (.tup ds) → Q v H') (hp : H p = none) : Q (.ref p) (upd H p (.tup vs)) := by
  obtain ⟨l, S', n1, n2⟩ := S.alloc (o := .tup vs) hp
  exact q _ _ l S' (.tup (.of upd_same) (RepL.mono S l r))

theorem foldl_cps (a : Array Nat) : ∀ (n : Nat) (acc : Array Nat), (List.replicate n a).foldl (· ++ ·) acc = (acc.toList ++ (List.replicate n a.toList).flatten).toArray
  | 0, acc => by simp
  | n + 1, acc => by
    rw [List.replicate_succ, List.foldl_cons, foldl_cps a n]
    simp [List.replicate_succ]
theorem tooLong_of {n : Nat} (h : n ≤ sizeLine) : PySem.Builtin.Str.tooLong n = false := decide_eq_false (by omega)
/-- a text times a number -/
theorem mulS {s : Shared} {Q : Value → Shared → Prop} {E : Value → Shared → Prop} {a : List Nat} {j : Int} {t u : Tok} (hj : 0 ≤ j) (hj2 : j < 1099511627776) (hz : a.length * j.toNat ≤ sizeLine)
    (h : ∀ (t' : Nat) (tk : Tok), Q (.str ⟨(List.replicate j.toNat a).flatten.toArray⟩ tk) { s with toks := t' }) : wpAny (model X.prog X.w) X.A (binaryOp .Mult (.str ⟨a.toArray⟩ t) (.int j u)) Q E s := by
  have hs : sizeLine = 16777216 := sizeLine_eq
  have hz2 : (a.length : Int) * j ≤ 16777216 := by
    have e : (a.length : Int) * j = ((a.length * j.toNat : Nat) : Int) := by
      rw [Int.natCast_mul, Int.toNat_of_nonneg hj]
    rw [e]
    omega
  refine PySem.P.mul_str ?_ (fun h1 _ => ?_) (fun _ _ => ?_) ?_
  · have e1 : decide (j < -(2 ^ 63 : Int)) = false := decide_eq_false (by omega)
    have e2 : decide (j ≥ 2 ^ 63) = false := decide_eq_false (by omega)
    rw [e1, e2]
    rfl
  · rw [str_len]
    intro hgt
    have h2 : (a.length : Int) ≤ (2 ^ 63 - 1) / j := by
      rw [Int.le_ediv_iff_mul_le (by omega)]
      exact Int.le_trans hz2 (by decide)
    omega
  · rw [str_len]
    exact tooLong_of hz
  · by_cases h1 : j < 1
    · rw [if_pos h1]
      have e : j = 0 := by omega
      subst e
      exact ⟨by decide, h _ _⟩
    · rw [if_neg h1]
      by_cases h2 : (j == 1 || (⟨a.toArray⟩ : Str).length == 0) = true
      · rw [if_pos h2]
        have e : (List.replicate j.toNat a).flatten = a := by
          rw [str_len, Bool.or_eq_true] at h2
          rcases h2 with h2 | h2
          · have : j = 1 := by simpa using h2
            subst this
            simp
          · have : a = [] := by simpa using h2
            subst this
            simp
        have q := h s.toks t
        rw [e] at q
        exact q
      · rw [if_neg h2]
        have e : List.foldl (fun x1 x2 => x1 ++ x2) #[] (List.replicate j.toNat (⟨a.toArray⟩ : Str).cps) = (List.replicate j.toNat a).flatten.toArray := by
          rw [foldl_cps]
          simp
        rw [e]
        refine ⟨?_, h _ _⟩
        rw [str_len]
        simpa [Nat.mul_comm] using hz
theorem op_binD (o : Operator) : OpR X (binaryOp o) (rD X.K fun x y _ => binD o x y) := by
  intro pins s σ H x y v u Q I rx ry hh
  obtain ⟨L, f, h, d, e, S, rd, re, q0⟩ := hh
  obtain ⟨z, hz, q⟩ := rD_ok q0
  replace hz : binD o d e = .ok z := hz
  unfold binD at hz
  split at hz
  · cases rd; cases re; cases hz
    exact op_add pins s σ H _ _ v u Q I rx ry ⟨_, _, rfl, rfl, q H _ .refl S (.int _)⟩
  · cases rd; cases re; cases hz
    exact op_sub pins s σ H _ _ v u Q I rx ry ⟨_, _, rfl, rfl, q H _ .refl S (.int _)⟩
  · cases rd; cases re
    obtain ⟨hc, rfl⟩ := ofB_ok hz
    simp only [cMul, Bool.or_eq_true, Bool.and_eq_true, decide_eq_true_eq] at hc
    exact op_mul pins s σ H _ _ v u Q I rx ry ⟨_, _, rfl, rfl, hc, q H _ .refl S (.int _)⟩
  · cases rd; cases re
    obtain ⟨hc, rfl⟩ := ofB_ok hz
    exact op_mod pins s σ H _ _ v u Q I rx ry ⟨_, _, rfl, rfl, of_decide_eq_true hc, q H _ .refl S (.int _)⟩
  · cases rd; cases re
    obtain ⟨hc, rfl⟩ := ofB_ok hz
    simp only [Bool.and_eq_true, decide_eq_true_eq] at hc
    exact op_fdiv pins s σ H _ _ v u Q I rx ry ⟨_, _, rfl, rfl, hc, q H _ .refl S (.int _)⟩
  · cases rd; cases re
    obtain ⟨hc, rfl⟩ := ofB_ok hz
    simp only [Bool.and_eq_true, decide_eq_true_eq] at hc
    exact op_pow pins s σ H _ _ v u Q I rx ry ⟨_, _, rfl, rfl, ⟨hc.1.1, hc.1.2, hc.2⟩, q H _ .refl S (.int _)⟩
  · cases rd; cases re
    obtain ⟨hc, rfl⟩ := ofB_ok hz
    simp only [Bool.and_eq_true, decide_eq_true_eq] at hc
    exact op_shl pins s σ H _ _ v u Q I rx ry ⟨_, _, rfl, rfl, ⟨hc.1.1, hc.1.2, hc.2⟩, q H _ .refl S (.int _)⟩
  · rename_i a b
    obtain ⟨hc, rfl⟩ := ofB_ok hz
    have hz : a.length + b.length ≤ sizeLine := of_decide_eq_true hc
    obtain ⟨rfl, _, _⟩ := rd.signs
    obtain ⟨rfl, _, _⟩ := re.signs
    exact op_add_str pins s σ H _ _ v u Q I rx ry ⟨_, _, rfl, rfl, by rw [str_len, str_len]; exact hz, q H _ .refl S (rd.app re hz)⟩
  · rename_i a j
    obtain ⟨hc, rfl⟩ := ofB_ok hz
    simp only [Bool.and_eq_true, decide_eq_true_eq] at hc
    obtain ⟨⟨hj, hj2⟩, hz⟩ := hc
    have hz : a.length * j.toNat ≤ sizeLine := of_decide_eq_true hz
    obtain ⟨rfl, oa, za⟩ := rd.signs
    cases re
    obtain ⟨t, rfl⟩ := rx
    obtain ⟨t', rfl⟩ := ry
    exact mulS hj hj2 hz fun t tk => ⟨.str _, H, I.tok t, ⟨tk, rfl⟩, q H _ .refl S (.strOf (fun c hc => by
      obtain ⟨l, hl, hc⟩ := List.mem_flatten.mp hc
      rw [(List.mem_replicate.mp hl).2] at hc
      exact oa c hc) (by simpa [Nat.mul_comm] using hz))⟩
  · rename_i a b
    obtain ⟨hc, rfl⟩ := ofB_ok hz
    have hz : a.length + b.length ≤ sizeLine := of_decide_eq_true hc
    obtain ⟨p1, v1, rfl, e1, _, _, r1⟩ := rd.seqL
    obtain ⟨p2, v2, rfl, e2, _, _, r2⟩ := re.seqL
    refine op_cat pins s σ H _ _ v u Q I rx ry ⟨p1, p2, v1, v2, rfl, rfl, e1, e2, by rw [r1.length, r2.length]; exact hz, fun p hp => ?_⟩
    exact fin_list (pins := pins) (σ := σ) (s := s) S (r1.append r2) q hp
  · rename_i a b
    obtain ⟨hc, rfl⟩ := ofB_ok hz
    have hz : a.length + b.length ≤ sizeLine := of_decide_eq_true hc
    obtain ⟨p1, v1, rfl, e1, r1⟩ := rd.seqT
    obtain ⟨p2, v2, rfl, e2, r2⟩ := re.seqT
    refine op_catA pins s σ H _ _ v u Q I rx ry ⟨p1, p2, v1, v2, rfl, rfl, e1, e2, by rw [r1.length, r2.length]; exact hz, fun z => ?_, fun _ z => ?_, fun _ _ p hp => fin_tup S (r1.append r2) q hp⟩
    · subst z
      cases r1
      exact q H _ .refl S re
    · subst z
      cases r2
      rw [List.append_nil] at q
      exact q H _ .refl S rd
  · cases hz

/-! ### == -/
mutual
def toP : D → PyData
  | .non => .none
  | .bl b => .bool b
  | .int i => .int i
  | .str s => .str ⟨s.toArray⟩
  | .tup xs => .tuple (toPs xs)
  | .lst xs => .list (toPs xs)
  | _ => .none
def toPs : List D → List PyData
  | [] => []
  | x :: xs => toP x :: toPs xs
end
theorem int_beq (a b : Int) : (a == b) = decide (a = b) := by rw [Bool.eq_iff_iff]; simp
theorem str_beq (a b : List Nat) : ((⟨a.toArray⟩ : Str) == ⟨b.toArray⟩) = decide (a = b) := by rw [Bool.eq_iff_iff]; simp
mutual
theorem eqv_toP : ∀ (d e : D) (n m : Nat), depD d = some n → depD e = some m → PyData.eqv (toP d) (toP e) = eqD d e
  | .non, e, n, m, hd, he => by cases e <;> simp_all [toP, eqD, depD, PyData.eqv]
  | .bl b, e, n, m, hd, he => by cases e <;> simp_all [toP, eqD, depD, PyData.eqv, int_beq]
  | .int b, e, n, m, hd, he => by cases e <;> simp_all [toP, eqD, depD, PyData.eqv, int_beq]
  | .str b, e, n, m, hd, he => by cases e <;> simp_all [toP, eqD, depD, PyData.eqv, str_beq]
  | .tup b, e, n, m, hd, he => by
    cases e with
    | tup c =>
      simp only [toP, eqD, PyData.eqv]
      simp only [depD, Option.map_eq_some_iff] at hd he
      obtain ⟨n1, hd, _⟩ := hd
      obtain ⟨m1, he, _⟩ := he
      exact eqv_toPs b c n1 m1 hd he
    | _ => simp_all [toP, eqD, depD, PyData.eqv]
  | .lst b, e, n, m, hd, he => by
    cases e with
    | lst c =>
      simp only [toP, eqD, PyData.eqv]
      simp only [depD, Option.map_eq_some_iff] at hd he
      obtain ⟨n1, hd, _⟩ := hd
      obtain ⟨m1, he, _⟩ := he
      exact eqv_toPs b c n1 m1 hd he
    | _ => simp_all [toP, eqD, depD, PyData.eqv]
  | .ref _, _, _, _, hd, _ => by simp [depD] at hd
  | .scr _, _, _, _, hd, _ => by simp [depD] at hd
  | .ins _ _, _, _, _, hd, _ => by simp [depD] at hd
  | .exc _ _, _, _, _, hd, _ => by simp [depD] at hd
  | .dic _ _, _, _, _, hd, _ => by simp [depD] at hd
theorem eqv_toPs : ∀ (d e : List D) (n m : Nat), depDs d = some n → depDs e = some m → PyData.eqvAll (toPs d) (toPs e) = eqDs d e
  | [], [], _, _, _, _ => by simp [toPs, eqDs, PyData.eqvAll]
  | [], _ :: _, _, _, _, _ => by simp [toPs, eqDs, PyData.eqvAll]
  | _ :: _, [], _, _, _, _ => by simp [toPs, eqDs, PyData.eqvAll]
  | a :: as, b :: bs, n, m, hd, he => by
    simp only [depDs] at hd he
    split at hd
    · rename_i x y h1 h2
      split at he
      · rename_i x' y' h3 h4
        simp only [toPs, eqDs, PyData.eqvAll, eqv_toP a b _ _ h1 h3, eqv_toPs as bs _ _ h2 h4]
      · cases he
    · cases hd
end
mutual
theorem dep_shape : ∀ (d : D) (n : Nat), depD d = some n → (toP d).depth ≤ n
  | .non, n, h => by simp_all [depD, toP, PyData.depth]
  | .bl _, n, h => by simp_all [depD, toP, PyData.depth]
  | .int _, n, h => by simp_all [depD, toP, PyData.depth]
  | .str _, n, h => by simp_all [depD, toP, PyData.depth]
  | .tup b, n, h => by
    simp only [depD, Option.map_eq_some_iff] at h
    obtain ⟨m, h, rfl⟩ := h
    have := dep_shapes b m h
    simp only [toP, PyData.depth]
    omega
  | .lst b, n, h => by
    simp only [depD, Option.map_eq_some_iff] at h
    obtain ⟨m, h, rfl⟩ := h
    have := dep_shapes b m h
    simp only [toP, PyData.depth]
    omega
  | .ref _, _, h => by simp [depD] at h
  | .scr _, _, h => by simp [depD] at h
  | .ins _ _, _, h => by simp [depD] at h
  | .exc _ _, _, h => by simp [depD] at h
  | .dic _ _, _, h => by simp [depD] at h
theorem dep_shapes : ∀ (d : List D) (n : Nat), depDs d = some n → PyData.depthAll (toPs d) ≤ n
  | [], n, h => by simp_all [depDs, toPs, PyData.depthAll]
  | a :: as, n, h => by
    simp only [depDs] at h
    split at h
    · rename_i x y h1 h2
      cases h
      have e1 := dep_shape a x h1
      have e2 := dep_shapes as y h2
      simp only [toPs, PyData.depthAll]
      omega
    · cases h
end
section
variable {K : PySem.W.Frag} {L : Addr → Prop} {f : List Addr} {H : Hp}
mutual
theorem rep_dp : ∀ (d : D) (n : Nat) (v : V), depD d = some n → Rep K L f H v d → Dp K H v (toP d) ∧ (toP d).canLay0 = true
  | .non, n, v, h, r => by cases r; exact ⟨.non, rfl⟩
  | .bl _, n, v, h, r => by cases r; exact ⟨.bl _, rfl⟩
  | .int _, n, v, h, r => by cases r; exact ⟨.int _, rfl⟩
  | .str s, n, v, h, r => by
    cases r with
    | str _ o z => exact ⟨.str _, by simpa [toP, PyData.canLay0] using o⟩
  | .tup b, n, v, h, r => by
    simp only [depD, Option.map_eq_some_iff] at h
    obtain ⟨m, h, rfl⟩ := h
    obtain ⟨a, vs, rfl, e, q⟩ := r.seqT
    obtain ⟨x1, x2⟩ := rep_dps b m vs h q
    exact ⟨.tup e x1, by simpa [toP, PyData.canLay0] using x2⟩
  | .lst b, n, v, h, r => by
    simp only [depD, Option.map_eq_some_iff] at h
    obtain ⟨m, h, rfl⟩ := h
    obtain ⟨a, vs, rfl, e, _, _, q⟩ := r.seqL
    obtain ⟨x1, x2⟩ := rep_dps b m vs h q
    exact ⟨.lst (.of e) x1, by simpa [toP, PyData.canLay0] using x2⟩
  | .ref _, _, _, h, _ => by simp [depD] at h
  | .scr _, _, _, h, _ => by simp [depD] at h
  | .ins _ _, _, _, h, _ => by simp [depD] at h
  | .exc _ _, _, _, h, _ => by simp [depD] at h
  | .dic _ _, _, _, h, _ => by simp [depD] at h
theorem rep_dps : ∀ (d : List D) (n : Nat) (v : List V), depDs d = some n → RepL K L f H v d → DpAll K H v (toPs d) ∧ PyData.canLayAll0 (toPs d) = true
  | [], n, v, h, r => by cases r; exact ⟨.nil, rfl⟩
  | a :: as, n, v, h, r => by
    simp only [depDs] at h
    split at h
    · rename_i x y h1 h2
      cases r with
      | cons r1 r2 =>
        obtain ⟨a1, a2⟩ := rep_dp a x _ h1 r1
        obtain ⟨b1, b2⟩ := rep_dps as y _ h2 r2
        exact ⟨.cons a1 b1, by simp only [toPs, PyData.canLayAll0, a2, b2, Bool.and_self]⟩
    · cases h
end
theorem canEq_dep {d : D} (h : canEq d = true) : ∃ n, depD d = some n ∧ n ≤ 60 := by
  unfold canEq at h
  split at h
  · rename_i n e
    exact ⟨n, e, of_decide_eq_true h⟩
  · cases h
theorem eq_data {d : D} {v : V} (h : canEq d = true) (r : Rep K L f H v d) : Dp K H v (toP d) ∧ SeqAt.shaped (toP d) = true := by
  obtain ⟨n, e, hn⟩ := canEq_dep h
  obtain ⟨a, b⟩ := rep_dp d n v e r
  refine ⟨a, ?_⟩
  have := dep_shape d n e
  show ((toP d).canLay0 && decide ((toP d).depth ≤ 64)) = true
  rw [b, decide_eq_true (by omega)]
  rfl
end
theorem any_eqv (x : D) (nx : Nat) (hx : depD x = some nx) : ∀ (ys : List D) (n : Nat), depDs ys = some n → ((toPs ys).any fun z => PyData.eqv z (toP x)) = hasD x ys
  | [], _, _ => rfl
  | y :: ys, n, h => by
    simp only [depDs] at h
    split at h
    · rename_i a b h1 h2
      simp only [toPs, hasD, List.any_cons, eqv_toP y x _ _ h1 hx]
      rw [any_eqv x nx hx ys b h2]
      rfl
    · cases h
end
end Z9

set_option Elab.async false
set_option linter.all false
set_option maxRecDepth 100000
set_option maxHeartbeats 1000000
/-! E3: comparisons, places, calls of built-in functions by values. -/
namespace Z9
open PySem PySem.Spec PyProof.Rows L2

section
variable {X : Cx}
theorem op_cmpD (hu : X.A.units + 65 < cLine) (o : CmpOp) : OpR X (compareOp o) (rD X.K fun x y _ => cmpD o x y) := by
  intro pins s σ H x y v u Q I rx ry hh
  obtain ⟨L, f, h, d, e, S, rd, re, q0⟩ := hh
  obtain ⟨z, hz, q⟩ := rD_ok q0
  replace hz : cmpD o d e = .ok z := hz
  unfold cmpD at hz
  split at hz
  · cases rd; cases re; cases hz
    exact op_lt pins s σ H _ _ v u Q I rx ry ⟨_, _, rfl, rfl, q H _ .refl S (.bl _)⟩
  · cases rd; cases re; cases hz
    exact op_le pins s σ H _ _ v u Q I rx ry ⟨_, _, rfl, rfl, q H _ .refl S (.bl _)⟩
  · cases rd; cases re; cases hz
    exact op_gt pins s σ H _ _ v u Q I rx ry ⟨_, _, rfl, rfl, q H _ .refl S (.bl _)⟩
  · cases rd; cases re; cases hz
    exact op_ge pins s σ H _ _ v u Q I rx ry ⟨_, _, rfl, rfl, q H _ .refl S (.bl _)⟩
  · obtain ⟨hc, rfl⟩ := ofB_ok hz
    rw [Bool.and_eq_true] at hc
    obtain ⟨a1, a2⟩ := eq_data hc.1 rd
    obtain ⟨b1, b2⟩ := eq_data hc.2 re
    obtain ⟨n, en, _⟩ := canEq_dep hc.1
    obtain ⟨m, em, _⟩ := canEq_dep hc.2
    exact op_eqD (by omega) pins s σ H _ _ v u Q I rx ry ⟨_, _, a1, b1, a2, b2, by rw [eqv_toP _ _ _ _ en em]; exact q H _ .refl S (.bl _)⟩
  · obtain ⟨hc, rfl⟩ := ofB_ok hz
    rw [Bool.and_eq_true] at hc
    obtain ⟨a1, a2⟩ := eq_data hc.1 rd
    obtain ⟨b1, b2⟩ := eq_data hc.2 re
    obtain ⟨n, en, _⟩ := canEq_dep hc.1
    obtain ⟨m, em, _⟩ := canEq_dep hc.2
    exact op_neD (by omega) pins s σ H _ _ v u Q I rx ry ⟨_, _, a1, b1, a2, b2, by rw [eqv_toP _ _ _ _ en em]; exact q H _ .refl S (.bl _)⟩
  · split at hz
    · cases hz
      obtain ⟨rfl, _, _⟩ := rd.signs
      obtain ⟨rfl, _, _⟩ := re.signs
      exact op_in_sign pins s σ H _ _ v u Q I rx ry ⟨_, _, rfl, rfl, by simpa using q H _ .refl S (.bl _)⟩
    · cases hz
  · split at hz
    · cases hz
      obtain ⟨rfl, _, _⟩ := rd.signs
      obtain ⟨rfl, _, _⟩ := re.signs
      exact op_notIn_sign pins s σ H _ _ v u Q I rx ry ⟨_, _, rfl, rfl, by simpa using q H _ .refl S (.bl _)⟩
    · cases hz
  all_goals
    try
      obtain ⟨hc, rfl⟩ := ofB_ok hz
      rw [Bool.and_eq_true] at hc
      obtain ⟨a1, a2⟩ := eq_data hc.1 rd
      obtain ⟨b1, b2⟩ := eq_data hc.2 re
      obtain ⟨n, en, _⟩ := canEq_dep hc.1
      obtain ⟨m, em, _⟩ := canEq_dep hc.2
      simp only [depD, Option.map_eq_some_iff] at em
      obtain ⟨m', em, _⟩ := em
      obtain ⟨as, r1⟩ := Dp.reads I _ x v a1 rx
      obtain ⟨bs, r2⟩ := Dp.reads I _ y u b1 ry
      have fin := q H _ .refl S (.bl _)
      rw [← any_eqv _ n en _ m' em] at fin
  · exact SeqAt.in_list_reads r2 r1 (SeqAt.canLay_of_shaped b2) (SeqAt.canLay_of_shaped a2) (room_in_shaped a2 hu) ⟨.bl _, H, I, rfl, fin⟩
  · exact SeqAt.notIn_list_reads r2 r1 (SeqAt.canLay_of_shaped b2) (SeqAt.canLay_of_shaped a2) (room_in_shaped a2 hu) ⟨.bl _, H, I, rfl, fin⟩
  · exact SeqAt.in_tuple_reads r2 r1 (SeqAt.canLay_of_shaped b2) (SeqAt.canLay_of_shaped a2) (room_in_shaped a2 hu) ⟨.bl _, H, I, rfl, fin⟩
  · exact SeqAt.notIn_tuple_reads r2 r1 (SeqAt.canLay_of_shaped b2) (SeqAt.canLay_of_shaped a2) (room_in_shaped a2 hu) ⟨.bl _, H, I, rfl, fin⟩
  · cases rd; cases re; cases hz
    exact op_is_bl pins s σ H _ _ v u Q I rx ry ⟨_, _, rfl, rfl, q H _ .refl S (.bl _)⟩
  · cases rd; cases re; cases hz
    exact op_isnot_bl pins s σ H _ _ v u Q I rx ry ⟨_, _, rfl, rfl, q H _ .refl S (.bl _)⟩
  · cases hz

/-! ### a list or a tuple that is read, wherever it stands -/
theorem SRel.look {K : PySem.W.Frag} {L : Addr → Prop} {f : List Addr} {h : Hh} {H : Hp} (S : SRel K L f h H) {v : V} {d : D} (r : Rep K L f H v d) (ne : ∀ i, lookD h d ≠ .ref i) :
    (Rep K L f H v d ∧ lookD h d = d ∧ ∀ i, d ≠ .ref i) ∨ ∃ i a ds vs, d = .ref i ∧ v = .ref a ∧ lookD h d = .lst ds ∧ H a = some (.lst vs) ∧ RepL K L f H vs ds := by
  cases d with
  | ref i =>
    cases e : h[i]? with
    | none => exact absurd (by simp [lookD, e]) (ne i)
    | some d' =>
      obtain ⟨a, ds, vs, e1, rfl, e3, rr⟩ := S.obj i d' e
      cases r with
      | ref e2 =>
        rw [e1] at e2
        cases e2
        exact .inr ⟨i, _, ds, vs, rfl, rfl, by simp [lookD, e], e3, rr⟩
  | _ => exact .inl ⟨r, rfl, fun _ z => nomatch z⟩
theorem ixN_eq (n : Nat) (i : Int) : ixN n i = L2.ixN n i := rfl
theorem atD_of {K : PySem.W.Frag} {L : Addr → Prop} {f : List Addr} {H : Hp} {vs : List V} {ds : List D} {i : Int} {d : D} (r : RepL K L f H vs ds) (e : atD ds i = some d) : ∃ v, L2.atI vs i = some v ∧ Rep K L f H v d := by
  unfold atD at e
  cases k : ixN ds.length i with
  | none => rw [k] at e; cases e
  | some j =>
    rw [k] at e
    obtain ⟨v, h1, h2⟩ := r.get (show ds[j]? = some d from e)
    exact ⟨v, by unfold L2.atI; rw [r.length, ← ixN_eq, k]; exact h1, h2⟩
theorem ix_D : IxR X (rD X.K fun x y h => ixD h x y) := by
  intro value slice pins s σ H x y v u Q I rx ry hh hs
  obtain ⟨L, f, h, d, e, S, rd, re, q0⟩ := hh
  obtain ⟨z, hz, q⟩ := rD_ok q0
  replace hz : ixD h d e = .ok z := hz
  unfold ixD at hz
  have key : ∀ {vs : List V} {ds : List D} {i : Int}, RepL X.K L f H vs ds → ofO (atD ds i) = .ok z → ∃ w, L2.atI vs i = some w ∧ Q w H := by
    intro vs ds i r hz
    cases k : atD ds i with
    | none => rw [k] at hz; cases hz
    | some d' =>
      rw [k] at hz
      cases hz
      obtain ⟨w, h1, h2⟩ := atD_of r k
      exact ⟨w, h1, q H _ .refl S h2⟩
  split at hz
  · rename_i xs i el
    rcases S.look rd (by rw [el]; exact fun _ z => nomatch z) with ⟨rd', e1, _⟩ | ⟨j, a, ds, vs, rfl, rfl, e1, e2, r⟩
    · rw [e1] at el
      subst el
      obtain ⟨a, vs, rfl, ea, _, _, r⟩ := rd.seqL
      obtain ⟨w, h1, h2⟩ := key r hz
      cases re
      exact ix_list value slice pins s σ H _ _ v u Q I rx ry ⟨a, vs, i, w, rfl, rfl, .of ea, h1, h2⟩ hs
    · rw [e1] at el
      cases el
      obtain ⟨w, h1, h2⟩ := key r hz
      cases re
      exact ix_list value slice pins s σ H _ _ v u Q I rx ry ⟨a, vs, i, w, rfl, rfl, .of e2, h1, h2⟩ hs
  · rename_i xs i el
    rcases S.look rd (by rw [el]; exact fun _ z => nomatch z) with ⟨rd', e1, _⟩ | ⟨j, a, ds, vs, rfl, rfl, e1, e2, r⟩
    · rw [e1] at el
      subst el
      obtain ⟨a, vs, rfl, ea, r⟩ := rd.seqT
      obtain ⟨w, h1, h2⟩ := key r hz
      cases re
      exact ix_tup value slice pins s σ H _ _ v u Q I rx ry ⟨a, vs, i, w, rfl, rfl, ea, h1, h2⟩ hs
    · rw [e1] at el
      cases el
  · rename_i xs i el
    rcases S.look rd (by rw [el]; exact fun _ z => nomatch z) with ⟨rd', e1, _⟩ | ⟨j, a, ds, vs, rfl, rfl, e1, e2, r⟩
    · rw [e1] at el
      subst el
      obtain ⟨rfl, o, zz⟩ := rd.signs
      cases k : atD xs i with
      | none => rw [k] at hz; cases hz
      | some c =>
        rw [k] at hz
        cases hz
        cases re
        have hm : c ∈ xs := by
          unfold atD at k
          cases k2 : ixN xs.length i with
          | none => rw [k2] at k; cases k
          | some j => rw [k2] at k; exact List.mem_of_getElem? k
        refine ix_str value slice pins s σ H _ _ v u Q I rx ry ⟨_, i, c, rfl, rfl, by rw [str_len]; exact zz, k, ?_⟩ hs
        exact q H _ .refl S (.strOf (x := [c]) (fun c' hc' => by rw [List.mem_singleton.mp hc']; exact o c hm) (by show 1 ≤ sizeLine; decide))
    · rw [e1] at el
      cases el
  · cases hz

/-! ### slices -/
def rSlD (K : PySem.W.Frag) : V → Option Int → Option Int → Hp → VK → Prop := fun x lo hi H Q => ∃ (L : Addr → Prop) (f : List Addr) (h : Hh) (d : D), SRel K L f h H ∧ Rep K L f H x d ∧
  match slD h d lo hi with
  | .ok z => ∀ (H' : Hp) (v : V), Le f H f H' → SRel K L f h H' → Rep K L f H' v z → Q v H'
  | _ => False
theorem clamp_eq (n d : Nat) (o : Option Int) : clampD n d o = HT.sIx n d o := by cases o <;> rfl
theorem cut_eq (vs : List V) (lo hi : Option Int) : cutD vs lo hi = cutV vs lo hi := by simp only [cutD, cutV, clamp_eq]
theorem RepL.cut {K : PySem.W.Frag} {L : Addr → Prop} {f : List Addr} {H : Hp} {vs : List V} {ds : List D} (lo hi : Option Int) (r : RepL K L f H vs ds) : RepL K L f H (cutV vs lo hi) (cutD ds lo hi) := by
  rw [← cut_eq]
  unfold cutD
  rw [r.length]
  exact RepL.take _ (RepL.drop _ r)
theorem cut_mem {α : Type} {xs : List α} {lo hi : Option Int} {c : α} (h : c ∈ cutD xs lo hi) : c ∈ xs := List.mem_of_mem_drop (List.mem_of_mem_take h)
theorem cut_len {α : Type} (xs : List α) (lo hi : Option Int) : (cutD xs lo hi).length ≤ xs.length := by
  unfold cutD
  rw [List.length_take, List.length_drop]
  omega
theorem sl_D : SlR X (rSlD X.K) := by
  intro pins s σ H x v vl vu lo hi sl Q I rx hs pl pu hh
  obtain ⟨L, f, h, d, S, rd, q0⟩ := hh
  obtain ⟨z, hz, q⟩ := rD_ok q0
  unfold slD at hz
  split at hz
  · rename_i xs el
    cases hz
    rcases S.look rd (by rw [el]; exact fun _ z => nomatch z) with ⟨rd', e1, _⟩ | ⟨j, a, ds, vs, rfl, rfl, e1, e2, r⟩
    · rw [e1] at el
      subst el
      obtain ⟨a, vs, rfl, ea, _, _, r⟩ := rd.seqL
      exact sl_list pins s σ H _ v vl vu lo hi sl Q I rx hs pl pu ⟨a, vs, rfl, .of ea, fun p hp => fin_list (pins := pins) (σ := σ) (s := s) S (r.cut lo hi) q hp⟩
    · rw [e1] at el
      cases el
      exact sl_list pins s σ H _ v vl vu lo hi sl Q I rx hs pl pu ⟨a, vs, rfl, .of e2, fun p hp => fin_list (pins := pins) (σ := σ) (s := s) S (r.cut lo hi) q hp⟩
  · rename_i xs el
    cases hz
    rcases S.look rd (by rw [el]; exact fun _ z => nomatch z) with ⟨rd', e1, _⟩ | ⟨j, a, ds, vs, rfl, rfl, e1, e2, r⟩
    · rw [e1] at el
      subst el
      obtain ⟨a, vs, rfl, ea, r⟩ := rd.seqT
      refine sl_tupA pins s σ H _ v vl vu lo hi sl Q I rx hs pl pu ⟨a, vs, rfl, ea, fun hw => ?_, fun _ p hp => fin_tup S (r.cut lo hi) q hp⟩
      refine q H _ .refl S ?_
      have e : cutD xs lo hi = xs := by
        unfold cutD
        rw [clamp_eq, clamp_eq, ← r.length, hw.1, hw.2]
        simp [r.length]
      rw [e]
      exact rd
    · rw [e1] at el
      cases el
  · rename_i xs el
    cases hz
    rcases S.look rd (by rw [el]; exact fun _ z => nomatch z) with ⟨rd', e1, _⟩ | ⟨j, a, ds, vs, rfl, rfl, e1, e2, r⟩
    · rw [e1] at el
      subst el
      obtain ⟨rfl, o, zz⟩ := rd.signs
      refine sl_str pins s σ H _ v vl vu lo hi sl Q I rx hs pl pu ⟨_, rfl, by rw [str_len]; exact zz, ?_⟩
      have e : cutS (⟨xs.toArray⟩ : Str) lo hi = ⟨(cutD xs lo hi).toArray⟩ := by
        unfold cutS cutD
        rw [str_len, clamp_eq, clamp_eq]
      rw [e]
      exact q H _ .refl S (.strOf (fun c hc => o c (cut_mem hc)) (Nat.le_trans (cut_len _ _ _) zz))
    · rw [e1] at el
      cases el
  · rename_i xs el
    cases hz
    rcases S.look rd (by rw [el]; exact fun _ z => nomatch z) with ⟨rd', e1, _⟩ | ⟨j, a, ds, vs, rfl, rfl, e1, e2, r⟩
    · rw [e1] at el
      subst el
      cases rd with
      | scr hq =>
        refine sl_list pins s σ H _ v vl vu lo hi sl Q I rx hs pl pu ⟨_, _, rfl, hq.sq, fun p hp => ?_⟩
        refine fin_list (pins := pins) (σ := σ) (s := s) S ?_ q hp
        have e : cutV (xs.map V.int) lo hi = (cutD xs lo hi).map V.int := by
          rw [← cut_eq]
          unfold cutD
          rw [List.map_take, List.map_drop, List.length_map]
        rw [e]
        exact RepL.ints _
    · rw [e1] at el
      cases el
  · cases hz
end
end Z9

set_option Elab.async false
set_option linter.all false
set_option maxRecDepth 100000
set_option maxHeartbeats 1000000
/-! E4: calls of built-in functions and methods by values. -/
namespace Z9
open PySem PySem.Spec PyProof.Rows L2

section
variable {K : PySem.W.Frag} {L : Addr → Prop} {f : List Addr} {h : Hh} {H : Hp}
/-- a changing list is changed -/
theorem SRel.change (S : SRel K L f h H) {i : Nat} {a : Addr} {vs : List V} {ds : List D} (hi : i < h.length) (ea : f[i]? = some a) (r : RepL K L f H vs ds) :
    Le f H f (upd H a (.lst vs)) ∧ SRel K L f (h.set i (.lst ds)) (upd H a (.lst vs)) := by
  have ha : a ∈ f := List.mem_of_getElem? ea
  have l : Le f H f (upd H a (.lst vs)) := ⟨⟨[], by simp, by simp⟩, fun b u e hb => by
    rw [upd_ne (fun z => hb (by rw [z]; exact ha))]
    exact e⟩
  refine ⟨l, by rw [List.length_set]; exact S.len, S.nd, fun b x => ?_, S.dis, fun j d e => ?_⟩
  · by_cases z : b = a
    · subst z
      rw [upd_same]
      exact fun y => nomatch y
    · rw [upd_ne z]
      exact S.out b x
  · by_cases hj : j = i
    · subst hj
      rw [List.getElem?_set_self hi] at e
      cases e
      exact ⟨a, ds, vs, ea, rfl, upd_same, RepL.mono S l r⟩
    · rw [List.getElem?_set_ne (Ne.symm hj)] at e
      obtain ⟨b, ds', vs', e1, e2, e3, r'⟩ := S.obj j d e
      refine ⟨b, ds', vs', e1, e2, ?_, RepL.mono S l r'⟩
      rw [upd_ne fun z => hj ?_]
      · exact e3
      · subst z
        obtain ⟨h1, q1⟩ := List.getElem?_eq_some_iff.mp e1
        obtain ⟨h2, q2⟩ := List.getElem?_eq_some_iff.mp ea
        exact (List.getElem_inj S.nd).mp (q1.trans q2.symm)
/-- a new changing list -/
theorem SRel.push {p : Addr} {vs : List V} {ds : List D} (S : SRel K L f h H) (hp : H p = none) (r : RepL K L f H vs ds) :
    Le f H (f ++ [p]) (upd H p (.lst vs)) ∧ SRel K L (f ++ [p]) (h ++ [.lst ds]) (upd H p (.lst vs)) := by
  obtain ⟨l0, S0, n1, n2⟩ := S.alloc (o := .lst vs) hp
  have l : Le f H (f ++ [p]) (upd H p (.lst vs)) := ⟨⟨[p], rfl, fun a ha => by rw [List.mem_singleton.mp ha]; exact hp⟩, l0.keep⟩
  refine ⟨l, by simp [S.len], ?_, S0.out, fun a ha => ?_, fun j d e => ?_⟩
  · rw [List.nodup_append]
    refine ⟨S.nd, by simp, fun a ha b hb => ?_⟩
    rw [List.mem_singleton.mp hb]
    rintro rfl
    exact n2 ha
  · rcases List.mem_append.mp ha with k | k
    · exact S.dis a k
    · rw [List.mem_singleton.mp k]
      exact n1
  · by_cases hj : j < h.length
    · rw [List.getElem?_append_left hj] at e
      obtain ⟨b, ds', vs', e1, e2, e3, r'⟩ := S.obj j d e
      refine ⟨b, ds', vs', ?_, e2, ?_, RepL.mono S l r'⟩
      · rw [List.getElem?_append_left (by rw [S.len]; exact hj)]
        exact e1
      · rw [upd_ne (fun z => by rw [z, hp] at e3; cases e3)]
        exact e3
    · have hj' : j = h.length := by
        have := (List.getElem?_eq_some_iff.mp e).1
        simp at this
        omega
      subst hj'
      simp at e
      subst e
      refine ⟨p, ds, vs, ?_, rfl, upd_same, RepL.mono S l r⟩
      rw [← S.len]
      simp
theorem ints_rep : ∀ {vs : List V} {ds : List D} {is : List Int}, RepL K L f H vs ds → ints? ds = some is → vs = is.map V.int
  | _, [], is, .nil, e => by cases e; rfl
  | _, d :: ds, is, .cons r t, e => by
    cases d <;> simp only [ints?, Option.map_eq_some_iff] at e <;> try cases e
    rename_i i js hj
    obtain ⟨h1, rfl⟩ := hj
    rw [r.intE, ints_rep t h1]
    rfl
theorem bools_rep : ∀ {vs : List V} {ds : List D} {is : List Bool}, RepL K L f H vs ds → bools? ds = some is → vs = is.map V.bl
  | _, [], is, .nil, e => by cases e; rfl
  | _, d :: ds, is, .cons r t, e => by
    cases d <;> simp only [bools?, Option.map_eq_some_iff] at e <;> try cases e
    rename_i i js hj
    obtain ⟨h1, rfl⟩ := hj
    rw [r.blE, bools_rep t h1]
    rfl
theorem strs_rep : ∀ {vs : List V} {ds : List D} {is : List (List Nat)}, RepL K L f H vs ds → strs? ds = some is → vs = (is.map fun s => (⟨s.toArray⟩ : Str)).map V.str ∧ ∀ s ∈ is, ∀ c ∈ s, c < 0x110000
  | _, [], is, .nil, e => by cases e; exact ⟨rfl, by simp⟩
  | _, d :: ds, is, .cons r t, e => by
    cases d <;> simp only [strs?, Option.map_eq_some_iff] at e <;> try cases e
    rename_i i js hj
    obtain ⟨h1, rfl⟩ := hj
    obtain ⟨e1, o, _⟩ := r.signs
    obtain ⟨e2, o2⟩ := strs_rep t h1
    refine ⟨by rw [e1, e2]; rfl, fun s hs => ?_⟩
    rcases List.mem_cons.mp hs with rfl | hs
    · exact o
    · exact o2 s hs
end

/-- what a call by values asks -/
def rB (K : PySem.W.Frag) (g : List D → Hh → Res D) : List V → Hp → VK → Prop := fun vs H Q => ∃ (L : Addr → Prop) (f : List Addr) (h : Hh) (ds : List D), SRel K L f h H ∧ RepL K L f H vs ds ∧
  match g ds h with
  | .ok z => ∀ (H' : Hp) (v : V), Le f H f H' → SRel K L f h H' → Rep K L f H' v z → Q v H'
  | _ => False
def rM (K : PySem.W.Frag) (g : D → List D → Hh → Res (D × Hh)) : V → List V → Hp → VK → Prop := fun x vs H Q => ∃ (L : Addr → Prop) (f : List Addr) (h : Hh) (d : D) (ds : List D), SRel K L f h H ∧ Rep K L f H x d ∧ RepL K L f H vs ds ∧
  match g d ds h with
  | .ok z => ∀ (f' : List Addr) (H' : Hp) (v : V), Le f H f' H' → SRel K L f' z.2 H' → Rep K L f' H' v z.1 → Q v H'
  | _ => False
theorem rM_ok {g : Res (D × Hh)} {P : D × Hh → Prop} (h : match g with | .ok z => P z | _ => False) : ∃ z, g = .ok z ∧ P z := by
  cases g with
  | ok z => exact ⟨z, rfl, h⟩
  | exc c xs h' => exact h.elim
  | no => exact h.elim
section
variable {X : Cx}
theorem c_len : CallR X (.builtin "len") (rB X.K (bcallD .len)) := by
  intro pins s σ H vs us Q I rs hh
  obtain ⟨L, f, h, ds, S, r, q0⟩ := hh
  obtain ⟨z, hz, q⟩ := rD_ok q0
  cases r with
  | nil => cases hz
  | @cons v vs d ds r t =>
    cases t with
    | cons _ _ => cases hz
    | nil =>
      replace hz : bLen [d] h = .ok z := hz
      unfold bLen at hz
      simp only at hz
      split at hz
      · rename_i xs el
        cases hz
        rcases S.look r (by rw [el]; exact fun _ z => nomatch z) with ⟨rd', e1, _⟩ | ⟨j, a, ds, vs, rfl, rfl, e1, e2, rr⟩
        · rw [e1] at el
          subst el
          obtain ⟨a, ws, rfl, ea, _, _, rr⟩ := r.seqL
          exact call_len_seq pins s σ H _ us Q I rs ⟨a, ws, rfl, .inl (.of ea), by rw [rr.length]; exact q H _ .refl S (.int _)⟩
        · rw [e1] at el
          cases el
          exact call_len_seq pins s σ H _ us Q I rs ⟨a, _, rfl, .inl (.of e2), by rw [rr.length]; exact q H _ .refl S (.int _)⟩
      · rename_i xs el
        cases hz
        rcases S.look r (by rw [el]; exact fun _ z => nomatch z) with ⟨rd', e1, _⟩ | ⟨j, a, ds, vs, rfl, rfl, e1, e2, rr⟩
        · rw [e1] at el
          subst el
          obtain ⟨a, ws, rfl, ea, rr⟩ := r.seqT
          exact call_len_seq pins s σ H _ us Q I rs ⟨a, ws, rfl, .inr ea, by rw [rr.length]; exact q H _ .refl S (.int _)⟩
        · rw [e1] at el
          cases el
      · rename_i xs el
        cases hz
        rcases S.look r (by rw [el]; exact fun _ z => nomatch z) with ⟨rd', e1, _⟩ | ⟨j, a, ds, vs, rfl, rfl, e1, e2, rr⟩
        · rw [e1] at el
          subst el
          obtain ⟨rfl, o, zz⟩ := r.signs
          exact call_len_str pins s σ H _ us Q I rs ⟨_, rfl, by rw [str_len]; exact zz, by rw [str_len]; exact q H _ .refl S (.int _)⟩
        · rw [e1] at el
          cases el
      · cases hz
theorem c_abs : CallR X (.builtin "abs") (rB X.K (bcallD .abs)) := by
  intro pins s σ H vs us Q I rs hh
  obtain ⟨L, f, h, ds, S, r, q0⟩ := hh
  obtain ⟨z, hz, q⟩ := rD_ok q0
  replace hz : bAbs ds = .ok z := hz
  unfold bAbs at hz
  split at hz <;> try cases hz
  · cases r with
    | cons r t =>
      cases t
      cases r
      rename_i i
      refine call_abs pins s σ H _ us Q I rs ⟨i, rfl, ?_⟩
      have e : (if i < 0 then -i else i) = (i.natAbs : Int) := by split <;> omega
      rw [e]
      exact q H _ .refl S (.int _)
theorem c_int : CallR X (.type "int") (rB X.K (bcallD .int)) := by
  intro pins s σ H vs us Q I rs hh
  obtain ⟨L, f, h, ds, S, r, q0⟩ := hh
  obtain ⟨z, hz, q⟩ := rD_ok q0
  replace hz : bInt ds = .ok z := hz
  unfold bInt at hz
  split at hz <;> try cases hz
  · cases r with
    | cons r t =>
      cases t
      cases r
      exact call_int1 pins s σ H _ us Q I rs (.inl ⟨_, rfl, q H _ .refl S (.int _)⟩)
theorem bind_ok {α β : Type} {x : Res α} {g : α → Res β} {z : β} (h : x.bind g = .ok z) : ∃ a, x = .ok a ∧ g a = .ok z := by
  cases x with
  | ok a => exact ⟨a, rfl, h⟩
  | exc c xs h' => cases h
  | no => cases h
theorem ofO_ok {α : Type} {o : Option α} {a : α} (h : ofO o = .ok a) : o = some a := by
  cases o with
  | none => cases h
  | some b => cases h; rfl
theorem c_sum (hc : X.calm = true) : CallR X (.builtin "sum") (rB X.K (bcallD .sum)) := by
  intro pins s σ H vs us Q I rs hh
  obtain ⟨L, f, h, ds, S, r, q0⟩ := hh
  obtain ⟨z, hz, q⟩ := rD_ok q0
  replace hz : bSum ds = .ok z := hz
  unfold bSum at hz
  split at hz <;> try cases hz
  · obtain ⟨is, e1, e2⟩ := bind_ok hz
    cases e2
    cases r with
    | cons r t =>
      cases t
      obtain ⟨a, ws, rfl, ea, _, _, rr⟩ := r.seqL
      have := ints_rep rr (ofO_ok e1)
      subst this
      exact cr_sum hc pins s σ H _ us Q I rs ⟨a, is, rfl, .of ea, q H _ .refl S (.int _)⟩
theorem c_all (hc : X.calm = true) : CallR X (.builtin "all") (rB X.K (bcallD .all)) := by
  intro pins s σ H vs us Q I rs hh
  obtain ⟨L, f, h, ds, S, r, q0⟩ := hh
  obtain ⟨z, hz, q⟩ := rD_ok q0
  replace hz : bAll ds = .ok z := hz
  unfold bAll at hz
  split at hz <;> try cases hz
  · obtain ⟨is, e1, e2⟩ := bind_ok hz
    cases e2
    cases r with
    | cons r t =>
      cases t
      obtain ⟨a, ws, rfl, ea, _, _, rr⟩ := r.seqL
      have := bools_rep rr (ofO_ok e1)
      subst this
      exact cr_all hc pins s σ H _ us Q I rs ⟨a, is, rfl, .of ea, q H _ .refl S (.bl _)⟩
theorem c_any (hc : X.calm = true) : CallR X (.builtin "any") (rB X.K (bcallD .any)) := by
  intro pins s σ H vs us Q I rs hh
  obtain ⟨L, f, h, ds, S, r, q0⟩ := hh
  obtain ⟨z, hz, q⟩ := rD_ok q0
  replace hz : bAny ds = .ok z := hz
  unfold bAny at hz
  split at hz <;> try cases hz
  · obtain ⟨is, e1, e2⟩ := bind_ok hz
    cases e2
    cases r with
    | cons r t =>
      cases t
      obtain ⟨a, ws, rfl, ea, _, _, rr⟩ := r.seqL
      have := bools_rep rr (ofO_ok e1)
      subst this
      exact cr_any hc pins s σ H _ us Q I rs ⟨a, is, rfl, .of ea, q H _ .refl S (.bl _)⟩

/-! ### isinstance(x, T) -/
def Ty.name : Ty → String
  | .int => "int" | .bool => "bool" | .str => "str" | .list => "list" | .tuple => "tuple" | .dict => "dict"
def Tk.name : Tk → String
  | .non => "NoneType" | .bl => "bool" | .int => "int" | .str => "str" | .tup => "tuple" | .lst => "list" | .dic => "dict"
theorem kit_tk (k : Tk) (t : Ty) : kitB k.name t.name = some (subT k t) := by cases k <;> cases t <;> decide +kernel
theorem c_isi (t : Ty) : CallR X (.builtin "isinstance") (fun vs H Q => ∃ v, vs = [v, .ty t.name] ∧ rB X.K (fun ds h => match ds with | [d] => isiD h d t | _ => .no) [v] H Q) := by
  intro pins s σ H vs us Q I rs hh
  obtain ⟨v, rfl, L, f, h, ds, S, r, q0⟩ := hh
  obtain ⟨z, hz, q⟩ := rD_ok q0
  cases r with
  | @cons v vs d ds r t' =>
    cases t'
    replace hz : isiD h d t = .ok z := hz
    obtain ⟨k, e1, e2⟩ := bind_ok hz
    cases e2
    have ek := ofO_ok e1
    have ty : TyX X.K H v (.type k.name) := by
      rcases S.look r (fun i z => by rw [z] at ek; cases ek) with ⟨rd', e1, _⟩ | ⟨j, a, ds, vs, rfl, rfl, e1, e2, rr⟩
      · rw [e1] at ek
        cases rd' with
        | non => cases ek; exact .base .non
        | bl b => cases ek; exact .base (.bl _)
        | int i => cases ek; exact .base (.int _)
        | str => cases ek; exact .base (.str _)
        | tup ea =>
          cases ek
          rcases ea with (ea | ⟨o, ea⟩) | ⟨o, its, n, k1, k2, _⟩
          · exact .base (.tup ea)
          · exact .fTuple ea
          · exact .kTuple k1 k2
        | lst ea => cases ek; exact .base (.lst ea)
        | dic0 e => cases ek; exact .base (.dK e)
        | ref => cases ek
        | scr => cases ek
      · rw [e1] at ek
        cases ek
        exact .base (.lst e2)
    exact call_isi pins s σ H _ us Q I rs ⟨v, .ty t.name, .type k.name, .type t.name, subT k t, rfl, .ty _, ty, kit_ty (kit_tk k t), q H _ .refl S (.bl _)⟩

/-! ### methods -/
theorem joinS_eq (sep : List Nat) : ∀ ss : List (List Nat), joinS sep ss = TL.joinL sep ss
  | [] => rfl
  | [_] => rfl
  | x :: y :: r => by
    show x ++ (sep ++ joinS sep (y :: r)) = x ++ (sep ++ TL.joinL sep (y :: r))
    rw [joinS_eq sep (y :: r)]
theorem joinS_mem (sep : List Nat) {P : Nat → Prop} (hs : ∀ c ∈ sep, P c) : ∀ ss : List (List Nat), (∀ s ∈ ss, ∀ c ∈ s, P c) → ∀ c ∈ joinS sep ss, P c
  | [], _, c, hc => by simp [joinS] at hc
  | [x], h, c, hc => h x List.mem_cons_self c hc
  | x :: y :: r, h, c, hc => by
    rcases List.mem_append.mp hc with k | k
    · exact h x List.mem_cons_self c k
    · rcases List.mem_append.mp k with k | k
      · exact hs c k
      · exact joinS_mem sep hs (y :: r) (fun s h' => h s (List.mem_cons_of_mem _ h')) c k
theorem joinS_len (sep : List Nat) : ∀ ss : List (List Nat), (joinS sep ss).length ≤ (ss.map List.length).sum + ss.length * sep.length
  | [] => by simp [joinS]
  | [x] => by simp [joinS]
  | x :: y :: r => by
    have := joinS_len sep (y :: r)
    simp only [joinS, List.length_append, List.map_cons, List.sum_cons, List.length_cons] at this ⊢
    simp only [Nat.add_mul, Nat.one_mul] at this ⊢
    omega
theorem m_join : MtR X "str.join" (rM X.K (bmethD .join)) := by
  intro pins s σ H x vs v us Q I rx rs hh
  obtain ⟨L, f, h, d, ds, S, rd, r, q0⟩ := hh
  obtain ⟨z, hz, q⟩ := rM_ok q0
  replace hz : mJoin d ds h = .ok z := hz
  unfold mJoin at hz
  split at hz <;> try cases hz
  · rename_i sep ys
    obtain ⟨ss, e1, e2⟩ := bind_ok hz
    obtain ⟨hc, rfl⟩ := ofB_ok e2
    cases r with
    | cons r t =>
      cases t
      obtain ⟨rfl, o, _⟩ := rd.signs
      obtain ⟨a, ws, rfl, ea, _, _, rr⟩ := r.seqL
      obtain ⟨e3, o2⟩ := strs_rep rr (ofO_ok e1)
      have hz : (ss.map List.length).sum + ss.length * sep.length ≤ 16777216 := of_decide_eq_true hc
      rw [e3] at ea
      refine mt_join pins s σ H _ _ v us Q I rx rs ⟨_, a, _, rfl, rfl, .inl (.of ea), ?_, ?_⟩
      · rw [List.map_map, List.length_map, str_len]
        have e : ((fun x : Str => x.length) ∘ fun s : List Nat => (⟨s.toArray⟩ : Str)) = List.length := by
          funext z
          exact str_len z
        rw [e]
        exact hz
      · have e : Txt.join (⟨sep.toArray⟩ : Str) (ss.map fun s => (⟨s.toArray⟩ : Str)) = ⟨(joinS sep ss).toArray⟩ := by
          rw [TL.join_eq]
          have t := TL.tl_join (⟨sep.toArray⟩ : Str) (ss.map fun s => (⟨s.toArray⟩ : Str))
          have e5 : (ss.map fun s => (⟨s.toArray⟩ : Str)).map TL.tl = ss := by
            rw [List.map_map]
            have : (TL.tl ∘ fun s : List Nat => (⟨s.toArray⟩ : Str)) = id := by
              funext z
              simp [TL.tl]
            rw [this, List.map_id]
          rw [e5] at t
          rw [joinS_eq]
          have t2 : (Str.join (⟨sep.toArray⟩ : Str) (ss.map fun s => (⟨s.toArray⟩ : Str))).cps.toList = TL.joinL sep ss := by simpa [TL.tl] using t
          show Str.join _ _ = _
          rw [← t2]
        rw [e]
        exact q f H _ .refl S (.strOf (joinS_mem sep o ss o2) (by have := joinS_len sep ss; have := sizeLine_eq; omega))
theorem m_append : MtR X "list.append" (rM X.K (bmethD .append)) := by
  intro pins s σ H x vs v us Q I rx rs hh
  obtain ⟨L, f, h, d, ds, S, rd, r, q0⟩ := hh
  obtain ⟨z, hz, q⟩ := rM_ok q0
  replace hz : mAppend d ds h = .ok z := hz
  unfold mAppend at hz
  split at hz <;> try cases hz
  · rename_i i y
    split at hz <;> try cases hz
    rename_i ys ei
    obtain ⟨hc, rfl⟩ := ofB_ok hz
    obtain ⟨a, ds, ws, e1, e2, e3, rr⟩ := S.obj i _ ei
    cases e2
    cases rd with
    | ref e4 =>
      rw [e1] at e4
      cases e4
      cases r with
      | cons r t =>
        cases t
        have hi : i < h.length := (List.getElem?_eq_some_iff.mp ei).1
        obtain ⟨l, S'⟩ := S.change hi e1 (rr.append (.cons r .nil))
        have hl : ys.length + 1 ≤ sizeLine := of_decide_eq_true hc
        exact mt_append pins s σ H _ _ v us Q I rx rs ⟨a, ws, _, rfl, rfl, e3, by rw [rr.length]; omega, q _ _ _ l S' .non⟩
theorem m_pop : MtR X "list.pop" (rM X.K (bmethD .pop)) := by
  intro pins s σ H x vs v us Q I rx rs hh
  obtain ⟨L, f, h, d, ds, S, rd, r, q0⟩ := hh
  obtain ⟨z, hz, q⟩ := rM_ok q0
  replace hz : mPop d ds h = .ok z := hz
  unfold mPop at hz
  split at hz <;> try cases hz
  · rename_i i j
    split at hz <;> try cases hz
    rename_i ys ei
    split at hz <;> try cases hz
    rename_i hj
    subst hj
    split at hz <;> try cases hz
    rename_i y ys
    obtain ⟨a, ds, ws, e1, e2, e3, rr⟩ := S.obj i _ ei
    cases e2
    cases rd with
    | ref e4 =>
      rw [e1] at e4
      cases e4
      cases r with
      | cons r t =>
        cases t
        cases r
        cases rr with
        | cons r1 r2 =>
          have hi : i < h.length := (List.getElem?_eq_some_iff.mp ei).1
          obtain ⟨l, S'⟩ := S.change hi e1 r2
          refine mt_popAt pins s σ H _ _ v us Q I rx rs ⟨a, _, 0, 0, _, rfl, rfl, e3, by decide, by decide, ?_, rfl, q _ _ _ l S' (Rep.mono S l r1)⟩
          show seqIndex? 0 _ = some 0
          unfold seqIndex?
          simp
  · rename_i i
    split at hz <;> try cases hz
    rename_i ys ei
    split at hz <;> try cases hz
    rename_i y ey
    obtain ⟨a, ds, ws, e1, e2, e3, rr⟩ := S.obj i _ ei
    cases e2
    cases rd with
    | ref e4 =>
      rw [e1] at e4
      cases e4
      cases r
      have hi : i < h.length := (List.getElem?_eq_some_iff.mp ei).1
      have hd : RepL X.K L f H ws.dropLast ys.dropLast := by
        rw [List.dropLast_eq_take, List.dropLast_eq_take, rr.length]
        exact rr.take _
      obtain ⟨l, S'⟩ := S.change hi e1 hd
      rw [List.getLast?_eq_getElem?] at ey
      obtain ⟨w, h1, h2⟩ := rr.get ey
      exact mt_pop pins s σ H _ _ v us Q I rx rs ⟨a, ws, w, rfl, rfl, e3, by rw [rr.length]; exact h1, q _ _ _ l S' (Rep.mono S l h2)⟩
end
end Z9

set_option Elab.async false
set_option linter.all false
set_option maxRecDepth 100000
set_option maxHeartbeats 1000000
/-! E5: forms against the text, and what a form's evaluation asks. -/
namespace Z9
open PySem PySem.Spec PyProof.Rows L2

/-! ### a form stands for a text -/
/-- N: the def's names by place; nm: the names of the module by number -/
structure Mc where
  N : List Str
  nm : List Str
def isLoc (sc : Scope) (x : Str) : Bool := match sc.names.lookup x with
  | some .local => true
  | some .cell => true
  | some .free => true
  | _ => false
def isGl (sc : Scope) (x : Str) : Bool := match sc.names.lookup x with
  | some .globalImplicit => true
  | _ => false
/-- a name that is stored to; k: a captured one too -/
def isSt (k : Bool) (sc : Scope) (x : Str) : Bool := match sc.names.lookup x with
  | some .local => true
  | some .cell => k
  | _ => false
def okNm (x : Str) : Bool := !(x == ("__debug__" : Str)) && !(x == ("__classdict__" : Str)) && !(x == ("__name__" : Str))
def okC (d : D) (c : Const) : Bool := match d, c with
  | .non, .none => true
  | .bl a, .bool b => a == b
  | .int a, .int b => a == b
  | .str s, .str x => x == ⟨s.toArray⟩ && PySem.PyData.strOk x && decide (s.length ≤ 1000)
  | _, _ => false
def BF.nm : BF → Str
  | .len => "len" | .abs => "abs" | .int => "int" | .sum => "sum" | .all => "all" | .any => "any"
def BM.nm : BM → Str
  | .join => "join" | .pop => "pop" | .append => "append"
def Ty.nm (t : Ty) : Str := t.name
def noSlice : Expr → Bool
  | .Slice .. => false
  | _ => true
def noSuper : Expr → Bool
  | .Call (.Name x _) [] [] _ => !(x == ("super" : Str))
  | _ => true
def glName (sc : Scope) (x y : Str) : Bool := x == y && isGl sc x && okNm x
mutual
/-- the places that a target stores to are among these -/
def tgIn : Tg → List Nat → Bool
  | .var i, vs => decide (i ∈ vs)
  | .tup ts, vs => tgsIn ts vs
def tgsIn : Tgs → List Nat → Bool
  | .nil, _ => true
  | .cons t ts, vs => tgIn t vs && tgsIn ts vs
end
mutual
def mE (C : Mc) (sc : Scope) : Ex → Expr → Bool
  | .var i, .Name x _ => decide (C.N[i]? = some x) && isLoc sc x && okNm x
  | .con d, .Constant c _ _ => okC d c
  | .glob k, .Name x _ => decide (C.nm[k]? = some x) && isGl sc x && okNm x
  | .dic0, .Dict [] [] _ => true
  | .tup es, .Tuple xs _ _ => mEs C sc es xs
  | .lst es, .List xs _ => mEs C sc es xs
  | .newl es, .List xs _ => mEs C sc es xs
  | .bin o a b, .BinOp x o' y _ => decide (o = o') && mE C sc a x && mE C sc b y
  | .neg a, .UnaryOp .USub x _ => mE C sc a x
  | .cmp o a b, .Compare x [o'] [y] _ => decide (o = o') && !behindInMarks o' y && mE C sc a x && mE C sc b y
  | .cmp2 o p a b c, .Compare x [o', p'] [y, z] _ => decide (o = o') && decide (p = p') && !lastMarks [o', p'] [y, z] && mE C sc a x && mE C sc b y && mE C sc c z
  | .isn a, .Compare x [.Is] [.Constant .none _ _] _ => mE C sc a x
  | .notn a, .Compare x [.IsNot] [.Constant .none _ _] _ => mE C sc a x
  | .and es, .BoolOp .And xs _ => mEs C sc es xs
  | .or es, .BoolOp .Or xs _ => mEs C sc es xs
  | .not a, .UnaryOp .Not x _ => mE C sc a x
  | .ife c a b, .IfExp x y z _ => mE C sc c x && mE C sc a y && mE C sc b z
  | .ix a i, .Subscript x y _ => noSlice y && mE C sc a x && mE C sc i y
  | .sl a lo hi, .Subscript x (.Slice l u none _) _ => mE C sc a x && mO C sc lo l && mO C sc hi u
  | .isi a t, .Call (.Name f _) [x, .Name y _] [] _ => glName sc f "isinstance" && glName sc y t.nm && mE C sc a x
  | .bcall f es, .Call (.Name x _) (y :: ys) [] _ => glName sc x f.nm && mEs C sc es (y :: ys)
  | .bmeth m a es, .Call (.Attribute o n p) xs [] q => noSuper o && decide (n = m.nm) && p.endLine == q.line && mE C sc a o && mEs C sc es xs && decide (xs.length < 5)
  | .call k es, .Call (.Name x _) xs [] _ => decide (C.nm[k]? = some x) && isGl sc x && okNm x && mEs C sc es xs
  | .lc _ elt t it ifs own, .ListComp e [⟨tg, iter, fs, 0⟩] scope _ => tgIn t own && blkC C.N sc scope (own.map fun i => (C.N.getD i Str.empty, i)) && own.all (fun i => decide (i < C.N.length)) && mI C sc it iter && mT C false (relS scope sc) t tg && decide (fs.length ≤ 1) && mEs C (relS scope sc) ifs fs && mE C (relS scope sc) elt e
  | _, _ => false
def mEs (C : Mc) (sc : Scope) : Exs → List Expr → Bool
  | .nil, [] => true
  | .cons e es, x :: xs => mE C sc e x && mEs C sc es xs
  | _, _ => false
def mO (C : Mc) (sc : Scope) : Ox → Option Expr → Bool
  | .none, none => true
  | .some e, some x => mE C sc e x
  | _, _ => false
def mI (C : Mc) (sc : Scope) : It → Expr → Bool
  | .seq e, x => mE C sc e x
  | .range e, .Call (.Name x _) [y] [] _ => glName sc x "range" && mE C sc e y
  | .range2 a b, .Call (.Name x _) [y, z] [] _ => glName sc x "range" && mE C sc a y && mE C sc b z
  | _, _ => false
def mT (C : Mc) (k : Bool) (sc : Scope) : Tg → Expr → Bool
  | .var i, .Name x _ => decide (C.N[i]? = some x) && okNm x && isSt k sc x
  | .tup ts, .Tuple xs _ _ => mTs C k sc ts xs
  | _, _ => false
def mTs (C : Mc) (k : Bool) (sc : Scope) : Tgs → List Expr → Bool
  | .nil, [] => true
  | .cons t ts, x :: xs => mT C k sc t x && mTs C k sc ts xs
  | _, _ => false
end

/-- never a starred one, a set's display, a slice -/
theorem mE_plain {C : Mc} {sc : Scope} : ∀ {e : Ex} {x : Expr}, mE C sc e x = true → (∀ a p, x ≠ .Starred a p) ∧ (∀ a k p, x ≠ .Set a k p) ∧ ∀ a b c p, x ≠ .Slice a b c p := by
  intro e x h
  refine ⟨?_, ?_, ?_⟩ <;> (intros; rintro rfl; cases e <;> simp [mE] at h)
theorem star_cons {x : Expr} {xs : List Expr} {env : PySem.Env} (h : ∀ a p, x ≠ .Starred a p) : starEach (x :: xs) env = (false, eval x env) :: starEach xs env := by
  cases x <;> first
    | rfl
    | exact absurd rfl (h _ _)
theorem mEs_star {C : Mc} {sc : Scope} {env : PySem.Env} : ∀ {es : Exs} {xs : List Expr}, mEs C sc es xs = true → ∀ pos, (backTo pos (starEach xs env)).any (·.1) = false
  | .nil, [], _, _ => rfl
  | .nil, _ :: _, h, _ => by simp [mEs] at h
  | .cons _ _, [], h, _ => by simp [mEs] at h
  | .cons e es, x :: xs, h, pos => by
    simp only [mEs, Bool.and_eq_true] at h
    rw [star_cons (mE_plain h.1).1]
    exact mEs_star (es := es) h.2 pos

/-! ### what an evaluation asks -/
/-- what has become, and R of it -/
def PostR (K : PySem.W.Frag) (L : Addr → Prop) (f : List Addr) (H : Hp) (ca : Nat → Value) (WE : Value → Option Addr → Hp → Prop) {α : Type} (res : Res (α × Hh)) (R : α → List Addr → Hh → Hp → Prop) : Prop :=
  match res with
  | .ok p => ∀ (f' : List Addr) (H' : Hp), Le f H f' H' → SRel K L f' p.2 H' → R p.1 f' p.2 H'
  | .exc c _ h' => ∀ (f' : List Addr) (H' : Hp) (dd : Option Addr), Le f H f' H' → SRel K L f' h' H' → WE (ca c) dd H'
  | .no => False
section
variable {K : PySem.W.Frag} {L : Addr → Prop} {f : List Addr} {h : Hh} {H : Hp} {ca : Nat → Value} {WE : Value → Option Addr → Hp → Prop} {α β : Type} {res : Res (α × Hh)} {R R' : α → List Addr → Hh → Hp → Prop}
theorem PostR.mono (p : PostR K L f H ca WE res R) (hm : ∀ a f' h' H', Le f H f' H' → SRel K L f' h' H' → R a f' h' H' → R' a f' h' H') : PostR K L f H ca WE res R' := by
  cases res with
  | ok q => exact fun f' H' l S => hm _ _ _ _ l S (p f' H' l S)
  | exc c xs h' => exact p
  | no => exact p
theorem PostR.bind {g : α × Hh → Res (β × Hh)} {R : β → List Addr → Hh → Hp → Prop} (S : SRel K L f h H) (p : PostR K L f H ca WE (res.bind g) R) :
    PostR K L f H ca WE res fun a f1 h1 H1 => PostR K L f1 H1 ca WE (g (a, h1)) R := by
  cases res with
  | ok q =>
    intro f1 H1 l1 S1
    show PostR K L f1 H1 ca WE (g (q.1, q.2)) R
    have p' : PostR K L f H ca WE (g (q.1, q.2)) R := p
    revert p'
    cases g (q.1, q.2) with
    | ok z => exact fun p' f2 H2 l2 S2 => p' f2 H2 (Le.trans S S1 l1 l2) S2
    | exc c xs h' => exact fun p' f2 H2 dd l2 S2 => p' f2 H2 dd (Le.trans S S1 l1 l2) S2
    | no => exact fun p' => p'
  | exc c xs h' => exact p
  | no => exact p
/-- from further on -/
theorem PostR.later {f' : List Addr} {h' : Hh} {H' : Hp} (S : SRel K L f h H) (S' : SRel K L f' h' H') (l : Le f H f' H') (p : PostR K L f H ca WE res R) : PostR K L f' H' ca WE res R := by
  cases res with
  | ok q => exact fun f2 H2 l2 S2 => p f2 H2 (Le.trans S S' l l2) S2
  | exc c xs h' => exact fun f2 H2 dd l2 S2 => p f2 H2 dd (Le.trans S S' l l2) S2
  | no => exact p
/-- here and now -/
theorem PostR.here {a : α} (S : SRel K L f h H) (p : PostR K L f H ca WE (.ok (a, h)) R) : R a f h H := p f H .refl S
/-- a step that is no state -/
theorem PostR.pureBind {γ : Type} {m : Res γ} {g : γ → Res (α × Hh)} (p : PostR K L f H ca WE (m.bind g) R) (hm : ∀ c xs h', m ≠ .exc c xs h') : ∃ z, m = .ok z ∧ PostR K L f H ca WE (g z) R := by
  cases m with
  | ok z => exact ⟨z, rfl, p⟩
  | exc c xs h' => exact absurd rfl (hm _ _ _)
  | no => exact p.elim
end

/-- the places -/
structure SlR (K : PySem.W.Frag) (L : Addr → Prop) (f : List Addr) (H : Hp) (r : Z9.Env) (σ : L2.St) : Prop where
  len : r.length = σ.length
  at_ : ∀ (i : Nat) (d : D), r[i]? = some (some d) → ∃ v, σ[i]? = some (some v) ∧ Rep K L f H v d
theorem SlR.mono {K : PySem.W.Frag} {L L0 : Addr → Prop} {f f' : List Addr} {h : Hh} {H H' : Hp} {r : Z9.Env} {σ : L2.St} (S : SRel K L0 f h H) (l : Le f H f' H') (s : SlR K L f H r σ) : SlR K L f' H' r σ :=
  ⟨s.len, fun i d e => let ⟨v, a, b⟩ := s.at_ i d e; ⟨v, a, b.mono S l⟩⟩

section
variable (K : PySem.W.Frag) (ca : Nat → Value) (W : WX) (G : Gam)
/-- the reading of a form -/
def tE (e : Ex) : TE := fun σ H Q => ∃ (L : Addr → Prop) (f : List Addr) (r : Z9.Env) (h : Hh), SRel K L f h H ∧ SlR K L f H r σ ∧
  PostR K L f H ca (fun c d H' => W c d σ H') (evE G e r h) fun d f' _ H' => ∀ v, Rep K L f' H' v d → Q v H'
def tT (e : Ex) : TT := fun σ H Q => ∃ (L : Addr → Prop) (f : List Addr) (r : Z9.Env) (h : Hh), SRel K L f h H ∧ SlR K L f H r σ ∧
  PostR K L f H ca (fun c d H' => W c d σ H') ((evE G e r h).bind fun p => (boolD p.1).bind fun t => .ok (t, p.2)) fun b _ _ H' => Q b H'
def tEs (es : Exs) : TA := fun σ H Q => ∃ (L : Addr → Prop) (f : List Addr) (r : Z9.Env) (h : Hh), SRel K L f h H ∧ SlR K L f H r σ ∧
  PostR K L f H ca (fun c d H' => W c d σ H') (evEs G es r h) fun ds f' _ H' => ∀ vs, RepL K L f' H' vs ds → Q vs H'
def tTs (es : Exs) : TT := fun σ H Q => ∃ (L : Addr → Prop) (f : List Addr) (r : Z9.Env) (h : Hh), SRel K L f h H ∧ SlR K L f H r σ ∧
  PostR K L f H ca (fun c d H' => W c d σ H') (evTs G es r h) fun b _ _ H' => Q b H'
def tO (e : Ox) : TO := fun σ H Q => ∃ (L : Addr → Prop) (f : List Addr) (r : Z9.Env) (h : Hh), SRel K L f h H ∧ SlR K L f H r σ ∧
  PostR K L f H ca (fun c d H' => W c d σ H') (evO G e r h) fun o _ _ H' => Q o H'
/-- an iterator goes through data -/
def WalkD (L : Addr → Prop) (f0 : List Addr) (H0 : Hp) (xs : List D) (J : L2.It) : Prop := ∃ (Gd : Hp → Prop) (Y : Nat → Hp → V → Hp → Prop), Walk J xs.length Gd Y ∧
  (∀ L1 f h H, Lw L H0 L1 → Le f0 H0 f H → SRel K L1 f h H → Gd H) ∧
  ∀ L1 i f h H x H', i < xs.length → Lw L H0 L1 → Le f0 H0 f H → SRel K L1 f h H → Y i H x H' → ∃ d, xs[i]? = some d ∧ Le f H f H' ∧ SRel K L1 f h H' ∧ Rep K L1 f H' x d
def tI (it : Z9.It) : TI := fun σ H R => ∃ (L : Addr → Prop) (f : List Addr) (r : Z9.Env) (h : Hh), SRel K L f h H ∧ SlR K L f H r σ ∧
  PostR K L f H ca (fun c d H' => W c d σ H') (evI G it r h) fun xs f' _ H' => ∀ J, WalkD K L f' H' xs J → R J H'
/-- what a def promises: n arguments, g -/
def spG (n : Nat) (g : List D → Hh → Res (D × Hh)) : Sp := fun vs H Q E => vs.length = n ∧ ∃ (L : Addr → Prop) (f : List Addr) (h : Hh) (ds : List D), SRel K L f h H ∧ RepL K L f H vs ds ∧
  PostR K L f H ca E (g ds h) fun d f' _ H' => ∀ v, Rep K L f' H' v d → Q v H'
end

/-- the names of built-in things that the module leaves -/
def bnames : List Str := ["len", "abs", "int", "sum", "all", "any", "list", "tuple", "min", "max", "sorted", "str", "range", "enumerate", "zip", "isinstance", "bool", "dict", "set"]
/-- what is known of the named things -/
structure GOk (nm : List Str) (ca : Nat → Value) (G : Gam) (lv : Nat) (P : Program) (w : World) (K : PySem.W.Frag) (mg : Str → Option Value) (base : Heap) : Prop where
  fn : ∀ k n g x, G.fn k = some (n, g) → nm[k]? = some x → ∃ (fa : Addr) (fd : FuncData) (ps : List Str), mg x = some (.ref fa) ∧ PySem.W.keepIn K (.ref fa) = true ∧ Binds K fd ps [] ∧ ps.length = n ∧ FnOk P w K mg base (L2.CX P w) lv fa fd ps (spG K ca n g)
  con : ∀ k d x, G.con k = some d → nm[k]? = some x → ∃ v u, mg x = some u ∧ RelV v u ∧ ∀ L f H, Rep K L f H v d
  blt : ∀ x ∈ bnames, mg x = none
/-- where a form is read -/
structure COk (nm : List Str) (ca : Nat → Value) (G : Gam) (lv : Nat) (N : List Str) (sc : Scope) (X : Cx) : Prop where
  N : X.N = N
  nd : X.N.Nodup
  sc : X.env.scope = sc
  calm : X.calm = true
  room : Room lv X.A
  gam : GOk nm ca G lv X.prog X.w X.K X.mg X.base
theorem COk.hu {nm : List Str} {ca : Nat → Value} {G : Gam} {lv : Nat} {N : List Str} {sc : Scope} {X : Cx} (c : COk nm ca G lv N sc X) : X.A.units + 65 < cLine := by
  have := c.room.un
  omega
end Z9

set_option Elab.async false
set_option linter.all false
set_option maxRecDepth 100000
set_option maxHeartbeats 4000000
/-! E6: a form's evaluation is the text's. -/
namespace Z9
open PySem PySem.Spec PyProof.Rows L2

theorem PEm {X : Cx} {e : Expr} {t t' : TE} (h : PE X e t) (k : ∀ σ H Q, t' σ H Q → t σ H Q) : PE X e t' := ⟨fun pins s σ H Q I q => h.run pins s σ H Q I (k σ H Q q)⟩
theorem PTm {X : Cx} {e : Expr} {t t' : TT} (h : PT X e t) (k : ∀ σ H Q, t' σ H Q → t σ H Q) : PT X e t' := ⟨fun pins s σ H Q I q => h.run pins s σ H Q I (k σ H Q q)⟩
theorem PAm {X : Cx} {e : List Expr} {t t' : TA} (h : PA X e t) (k : ∀ σ H Q, t' σ H Q → t σ H Q) : PA X e t' := ⟨fun pos pins s σ H Q I q => h.run pos pins s σ H Q I (k σ H Q q)⟩

section
variable {nm : List Str} {ca : Nat → Value} {G : Gam} {lv : Nat} {N : List Str} {sc : Scope} {X : Cx} {W : WX}
theorem isLoc_vis {x : Str} (h : isLoc sc x = true) : Vis sc x := by
  unfold isLoc at h
  unfold Vis
  split at h
  · rename_i e; exact .inl e
  · rename_i e; exact .inr (.inl e)
  · rename_i e; exact .inr (.inr e)
  · cases h
theorem isGl_gl (c : COk nm ca G lv N sc X) {x : Str} (h : isGl sc x = true) : Gl X x := by
  unfold isGl at h
  split at h
  · rename_i e
    show X.env.kindOf x = _
    unfold PySem.Env.kindOf
    rw [c.sc]
    exact e
  · cases h
theorem okNm_of {x : Str} (h : okNm x = true) : (x == ("__debug__" : Str)) = false ∧ (x == ("__classdict__" : Str)) = false ∧ x ≠ ("__name__" : Str) := by
  unfold okNm at h
  simp only [Bool.and_eq_true, Bool.not_eq_true'] at h
  exact ⟨h.1.1, h.1.2, by intro e; rw [e] at h; exact absurd h.2 (by simp)⟩
/-- the state of a reading that is asked again -/
theorem tE_of {e : Ex} {σ : L2.St} {H : Hp} {Q : VK} {L : Addr → Prop} {f : List Addr} {r : Z9.Env} {h : Hh} (S : SRel X.K L f h H) (sl : SlR X.K L f H r σ)
    (p : PostR X.K L f H ca (fun c d H' => W c d σ H') (evE G e r h) fun d f' _ H' => ∀ v, Rep X.K L f' H' v d → Q v H') : tE X.K ca W G e σ H Q := ⟨L, f, r, h, S, sl, p⟩

theorem boolD_ok {d : D} {b : Bool} (h : boolD d = .ok b) : d = .bl b := by
  cases d <;> simp [boolD] at h
  rw [h]
theorem boolD_exc {d : D} : ∀ c xs h', boolD d ≠ .exc c xs h' := by intro c xs h'; cases d <;> simp [boolD]
theorem ofO_exc {α : Type} {o : Option α} : ∀ c xs h', ofO o ≠ .exc c xs h' := by intro c xs h'; cases o <;> simp [ofO]
theorem ofB_exc {α : Type} {b : Bool} {a : α} : ∀ c xs h', ofB b a ≠ .exc c xs h' := by intro c xs h'; cases b <;> simp [ofB]
theorem getV_exc {r : Z9.Env} {i : Nat} : ∀ c xs h', getV r i ≠ .exc c xs h' := by
  intro c xs h'
  unfold getV
  split <;> simp
theorem getV_ok {r : Z9.Env} {i : Nat} {d : D} (h : getV r i = .ok d) : r[i]? = some (some d) := by
  unfold getV at h
  split at h
  · rename_i e; cases h; exact e
  · cases h

/-- an operation by values, behind two readings -/
theorem bin_go {a b : Ex} {g : D → D → Hh → Res D} (hg : ∀ d e h c xs h', g d e h ≠ .exc c xs h') {σ : L2.St} {H : Hp} {Q : VK} {L : Addr → Prop} {f : List Addr} {r : Z9.Env} {h : Hh} (S : SRel X.K L f h H) (sl : SlR X.K L f H r σ)
    (p : PostR X.K L f H ca (fun c d H' => W c d σ H') ((evE G a r h).bind fun p => (evE G b r p.2).bind fun q => (g p.1 q.1 q.2).bind fun d => .ok (d, q.2)) fun d f' _ H' => ∀ v, Rep X.K L f' H' v d → Q v H') :
    tOp (rD X.K g) (tE X.K ca W G a) (tE X.K ca W G b) σ H Q := by
  refine tE_of S sl ((p.bind S).mono fun d f1 h1 H1 l1 S1 p1 v rv => ?_)
  refine tE_of S1 (sl.mono S l1) ((p1.bind S1).mono fun e f2 h2 H2 l2 S2 p2 w rw => ?_)
  obtain ⟨z, ez, p3⟩ := p2.pureBind (hg _ _ _)
  refine ⟨L, f2, h2, d, e, S2, rv.mono S1 l2, rw, ?_⟩
  have ez : g d e h2 = .ok z := ez
  rw [ez]
  exact fun H' v l S' rv => p3 f2 H' l S' v rv
theorem binD_exc (o : Operator) (d e : D) (h : Hh) : ∀ c xs h', (fun x y (_ : Hh) => binD o x y) d e h ≠ .exc c xs h' := by
  intro c xs h'
  show binD o d e ≠ _
  unfold binD
  split <;> first | exact ofB_exc _ _ _ | simp
theorem cmpD_exc (o : CmpOp) (d e : D) (h : Hh) : ∀ c xs h', (fun x y (_ : Hh) => cmpD o x y) d e h ≠ .exc c xs h' := by
  intro c xs h'
  show cmpD o d e ≠ _
  unfold cmpD
  split <;> first
    | exact ofB_exc _ _ _
    | (split <;> simp)
    | simp
theorem map_exc {α : Type} {o : Option α} : ∀ c xs h', ofO o ≠ .exc c xs h' := ofO_exc
theorem ixD_exc (d e : D) (h : Hh) : ∀ c xs h', (fun x y h => ixD h x y) d e h ≠ .exc c xs h' := by
  intro c xs h'
  show ixD h d e ≠ _
  unfold ixD
  split <;> first
    | exact ofO_exc _ _ _
    | simp
theorem slD_exc (h : Hh) (d : D) (lo hi : Option Int) : ∀ c xs h', slD h d lo hi ≠ .exc c xs h' := by
  intro c xs h'
  unfold slD
  split <;> simp
theorem bindC_exc {α β : Type} {x : Res α} {g : α → Res β} (h1 : ∀ c xs h', x ≠ .exc c xs h') (h2 : ∀ a c xs h', g a ≠ .exc c xs h') : ∀ c xs h', x.bind g ≠ .exc c xs h' := by
  intro c xs h'
  cases x with
  | ok a => exact h2 a c xs h'
  | exc c2 x2 h2 => exact absurd rfl (h1 c2 x2 h2)
  | no => simp
theorem bcallD_exc (f : BF) (xs : List D) (h : Hh) : ∀ c ys h', bcallD f xs h ≠ .exc c ys h' := by
  intro c ys h'
  cases f <;> simp only [bcallD, bLen, bAbs, bInt, bSum, bAll, bAny] <;> first
    | (split <;> first
        | (split <;> simp)
        | exact bindC_exc ofO_exc (by intros; simp) _ _ _
        | simp)
    | simp
theorem bmethD_exc (m : BM) (x : D) (xs : List D) (h : Hh) : ∀ c ys h', bmethD m x xs h ≠ .exc c ys h' := by
  intro c ys h'
  cases m <;> simp only [bmethD, mJoin, mAppend, mPop] <;> first
    | (split <;> first
        | exact bindC_exc ofO_exc (fun _ => ofB_exc) _ _ _
        | (split <;> first
            | exact ofB_exc _ _ _
            | (split <;> first
                | (split <;> simp)
                | simp)
            | simp)
        | simp)
    | simp
end
end Z9

set_option Elab.async false
set_option linter.all false
set_option maxRecDepth 100000
set_option maxHeartbeats 4000000
/-! E7: targets, what is gone through, comprehensions. -/
namespace Z9
open PySem PySem.Spec PyProof.Rows L2

/-! ### slots that are wiped -/
theorem wipe_set_mem {σ : L2.St} {i : Nat} {x : Option V} : ∀ {vs : List Nat}, i ∈ vs → L2.wipe (σ.set i x) vs = L2.wipe σ vs
  | [], h => by cases h
  | v :: vs, h => by
    show (L2.wipe (σ.set i x) vs).set v none = (L2.wipe σ vs).set v none
    by_cases hi : i ∈ vs
    · rw [wipe_set_mem hi]
    · have e : i = v := by
        rcases List.mem_cons.mp h with e | h
        · exact e
        · exact absurd h hi
      subst e
      have k : ∀ (us : List Nat) (τ : L2.St), i ∉ us → L2.wipe (τ.set i x) us = (L2.wipe τ us).set i x := by
        intro us
        induction us with
        | nil => intro τ _; rfl
        | cons u us ih =>
          intro τ hn
          show (L2.wipe (τ.set i x) us).set u none = ((L2.wipe τ us).set u none).set i x
          rw [ih τ (fun z => hn (List.mem_cons_of_mem _ z))]
          exact List.set_comm _ _ (fun z => hn (by rw [z]; exact List.mem_cons_self))
      rw [k vs σ hi, List.set_set]
theorem wipe_set_out : ∀ {vs : List Nat} {σ : L2.St} {i : Nat}, L2.wipe (σ.set i none) vs = (L2.wipe σ vs).set i none
  | [], _, _ => rfl
  | v :: vs, σ, i => by
    show (L2.wipe (σ.set i none) vs).set v none = ((L2.wipe σ vs).set v none).set i none
    rw [wipe_set_out (vs := vs)]
    by_cases h : i = v
    · subst h; rfl
    · exact List.set_comm _ _ h
theorem wipe_wipe : ∀ {vs : List Nat} {σ : L2.St}, L2.wipe (L2.wipe σ vs) vs = L2.wipe σ vs
  | [], _ => rfl
  | v :: vs, σ => by
    show (L2.wipe ((L2.wipe σ vs).set v none) vs).set v none = (L2.wipe σ vs).set v none
    rw [wipe_set_out, wipe_wipe, List.set_set]
section
variable {K : PySem.W.Frag} {L : Addr → Prop} {f : List Addr} {h : Hh} {H : Hp} {r : Z9.Env} {σ : L2.St}
theorem SlR.set {i : Nat} {d : D} {v : V} (s : SlR K L f H r σ) (q : Rep K L f H v d) : SlR K L f H (r.set i (some d)) (σ.set i (some v)) := by
  refine ⟨by simp [s.len], fun j e hj => ?_⟩
  by_cases hji : j = i
  · subst hji
    have hl : j < r.length := by
      have := (List.getElem?_eq_some_iff.mp hj).1
      simpa using this
    rw [List.getElem?_set_self hl] at hj
    cases hj
    exact ⟨v, by rw [List.getElem?_set_self (by rw [← s.len]; exact hl)], q⟩
  · rw [List.getElem?_set_ne (Ne.symm hji)] at hj
    obtain ⟨w, h1, h2⟩ := s.at_ j e hj
    exact ⟨w, by rw [List.getElem?_set_ne (Ne.symm hji)]; exact h1, h2⟩
theorem SlR.setN {i : Nat} (s : SlR K L f H r σ) : SlR K L f H (r.set i none) (σ.set i none) := by
  refine ⟨by simp [s.len], fun j e hj => ?_⟩
  by_cases hji : j = i
  · subst hji
    have hl : j < r.length := by
      have := (List.getElem?_eq_some_iff.mp hj).1
      simpa using this
    rw [List.getElem?_set_self hl] at hj
    cases hj
  · rw [List.getElem?_set_ne (Ne.symm hji)] at hj
    obtain ⟨w, h1, h2⟩ := s.at_ j e hj
    exact ⟨w, by rw [List.getElem?_set_ne (Ne.symm hji)]; exact h1, h2⟩
theorem SlR.wipe (s : SlR K L f H r σ) : ∀ vs : List Nat, SlR K L f H (wipeE r vs) (L2.wipe σ vs)
  | [] => s
  | _ :: vs => (SlR.wipe s vs).setN
theorem SlR.wide {L1 : Addr → Prop} (w : Lw L H L1) (s : SlR K L f H r σ) : SlR K L1 f H r σ :=
  ⟨s.len, fun i d e => let ⟨v, a, b⟩ := s.at_ i d e; ⟨v, a, b.wide w⟩⟩
end

/-! ### targets -/
/-- a target's reading -/
def gD (K : PySem.W.Frag) (t : Tg) : TG := fun v σ H Q => ∃ (L : Addr → Prop) (f : List Addr) (h : Hh) (r r' : Z9.Env) (d : D), SRel K L f h H ∧ SlR K L f H r σ ∧ Rep K L f H v d ∧ setT t d r = .ok r' ∧
  ∀ σ', SlR K L f H r' σ' → (∀ vs, tgIn t vs = true → L2.wipe σ' vs = L2.wipe σ vs) → Q σ' H
def gDs (K : PySem.W.Frag) (ts : Tgs) : TGs := fun vs σ H Q => ∃ (L : Addr → Prop) (f : List Addr) (h : Hh) (r r' : Z9.Env) (ds : List D), SRel K L f h H ∧ SlR K L f H r σ ∧ RepL K L f H vs ds ∧ setTs ts ds r = .ok r' ∧
  ∀ σ', SlR K L f H r' σ' → (∀ us, tgsIn ts us = true → L2.wipe σ' us = L2.wipe σ us) → Q σ' H
theorem PGm {X : Cx} {e : Expr} {t t' : TG} (h : PG X e t) (k : ∀ v σ H Q, t' v σ H Q → t v σ H Q) : PG X e t' := ⟨fun pins s σ H v u Q I r q => h.run pins s σ H v u Q I r (k v σ H Q q)⟩
theorem PGsm {X : Cx} {e : List Expr} {t t' : TGs} (h : PGs X e t) (k : ∀ v σ H Q, t' v σ H Q → t v σ H Q) : PGs X e t' := ⟨fun pins s σ H v u Q I r q => h.run pins s σ H v u Q I r (k v σ H Q q)⟩
theorem mT_plain {C : Mc} {k : Bool} {sc : Scope} {t : Tg} {x : Expr} (h : mT C k sc t x = true) : ∀ a p, x ≠ .Starred a p := by
  intro a p e
  subst e
  cases t <;> simp [mT] at h
theorem assign_cons {x : Expr} {xs : List Expr} {env : PySem.Env} (h : ∀ a p, x ≠ .Starred a p) : assignEach (x :: xs) env = (false, assign x env) :: assignEach xs env := by
  cases x <;> first
    | rfl
    | exact absurd rfl (h _ _)
theorem assign_facts {C : Mc} {k : Bool} {sc : Scope} {env : PySem.Env} : ∀ {ts : Tgs} {xs : List Expr}, mTs C k sc ts xs = true → (assignEach xs env).length = xs.length ∧ (assignEach xs env).findIdx? (·.1) = none
  | .nil, [], _ => ⟨rfl, rfl⟩
  | .nil, _ :: _, h => by simp [mTs] at h
  | .cons _ _, [], h => by simp [mTs] at h
  | .cons t ts, x :: xs, h => by
    simp only [mTs, Bool.and_eq_true] at h
    obtain ⟨a, b⟩ := assign_facts (env := env) (ts := ts) h.2
    rw [assign_cons (mT_plain h.1)]
    exact ⟨by simp [a], by rw [List.findIdx?_cons]; simp [b]⟩
theorem mTs_len {C : Mc} {k : Bool} {sc : Scope} : ∀ {ts : Tgs} {xs : List Expr} {r r' : Z9.Env} {ds : List D}, mTs C k sc ts xs = true → setTs ts ds r = .ok r' → ds.length = xs.length
  | .nil, [], _, _, [], _, _ => rfl
  | .nil, [], _, _, _ :: _, _, h => by simp [setTs] at h
  | .nil, _ :: _, _, _, _, h, _ => by simp [mTs] at h
  | .cons _ _, [], _, _, _, h, _ => by simp [mTs] at h
  | .cons t ts, x :: xs, r, r', [], h, h2 => by simp [setTs] at h2
  | .cons t ts, x :: xs, r, r', d :: ds, h, h2 => by
    simp only [mTs, Bool.and_eq_true] at h
    simp only [setTs] at h2
    obtain ⟨r1, _, h3⟩ := bind_ok h2
    simp [mTs_len h.2 h3]
theorem isSt_of {k : Bool} {sc : Scope} {X : Cx} {x : Str} (hs : X.env.scope = sc) (hk : k = true → ∀ x, X.fn x = true) (h : isSt k sc x = true) : Loc X.env.scope x ∧ (X.fn x = true ∨ X.env.scope.names.lookup x = some .local) := by
  unfold isSt at h
  rw [← hs] at h
  split at h
  · rename_i e; exact ⟨.inl e, .inr e⟩
  · rename_i e; exact ⟨.inr e, .inl (hk h x)⟩
  · cases h
mutual
theorem soundTg {C : Mc} {k : Bool} {sc : Scope} {X : Cx} (hN : X.N = C.N) (nd : X.N.Nodup) (hs : X.env.scope = sc) (hc : X.calm = true) (hk : k = true → ∀ x, X.fn x = true) : ∀ (t : Tg) (x : Expr), mT C k sc t x = true → PG X x (gD X.K t)
  | .var i, x, h => by
    cases x <;> simp only [mT, Bool.and_eq_true, Bool.false_eq_true, decide_eq_true_eq] at h
    rename_i id pos
    obtain ⟨⟨h1, h2⟩, h3⟩ := h
    have hl := isSt_of (X := X) hs hk h3
    refine PGm (pg_name (i := i) nd (by rw [hN]; exact h1) hl.1 hl.2) fun v σ H Q q => ?_
    obtain ⟨L, f, h, r, r', d, S, sl, rv, e, q⟩ := q
    simp only [setT] at e
    cases e
    exact q _ (sl.set rv) fun vs hv => wipe_set_mem (by simpa [tgIn] using hv)
  | .tup ts, x, h => by
    cases x <;> simp only [mT, Bool.false_eq_true] at h
    rename_i xs kk pos
    obtain ⟨a1, a2⟩ := assign_facts (env := X.env) h
    have ih := soundTgs (C := C) (k := k) (sc := sc) hN nd hs hc hk ts xs h
    refine ⟨fun pins s σ H v u Q I ru q => ?_⟩
    obtain ⟨L, f, hh, r, r', d, S, sl, rv, e, q⟩ := q
    simp only [setT] at e
    split at e
    · rename_i ds
      obtain ⟨a, vs, rfl, ea, rr⟩ := rv.seqT
      refine (pg_tup (n := xs.length) hc ih a1 a2).run pins s σ H _ u Q I ru ⟨a, vs, rfl, ea, by rw [rr.length]; exact mTs_len h e, ?_⟩
      exact ⟨L, f, hh, r, r', ds, S, sl, rr, e, fun σ' s' w => q σ' s' fun vs hv => w vs (by simpa [tgIn] using hv)⟩
    · rename_i ds
      obtain ⟨a, vs, rfl, ea, _, _, rr⟩ := rv.seqL
      refine (pg_lst (n := xs.length) hc ih a1 a2).run pins s σ H _ u Q I ru ⟨a, vs, rfl, .of ea, by rw [rr.length]; exact mTs_len h e, ?_⟩
      exact ⟨L, f, hh, r, r', ds, S, sl, rr, e, fun σ' s' w => q σ' s' fun vs hv => w vs (by simpa [tgIn] using hv)⟩
    · cases e
theorem soundTgs {C : Mc} {k : Bool} {sc : Scope} {X : Cx} (hN : X.N = C.N) (nd : X.N.Nodup) (hs : X.env.scope = sc) (hc : X.calm = true) (hk : k = true → ∀ x, X.fn x = true) : ∀ (ts : Tgs) (xs : List Expr), mTs C k sc ts xs = true → PGs X xs (gDs X.K ts)
  | .nil, [], _ => PGsm pgs_nil fun vs σ H Q q => by
    obtain ⟨L, f, h, r, r', ds, S, sl, rv, e, q⟩ := q
    cases ds with
    | nil =>
      cases rv
      simp only [setTs] at e
      cases e
      exact ⟨rfl, q σ sl fun _ _ => rfl⟩
    | cons _ _ => simp [setTs] at e
  | .nil, _ :: _, h => by simp [mTs] at h
  | .cons _ _, [], h => by simp [mTs] at h
  | .cons t ts, x :: xs, h => by
    simp only [mTs, Bool.and_eq_true] at h
    refine PGsm (pgs_cons (soundTg hN nd hs hc hk t x h.1) (soundTgs hN nd hs hc hk ts xs h.2) (by rw [assign_cons (mT_plain h.1)]; rfl)) fun vs σ H Q q => ?_
    obtain ⟨L, f, hh, r, r', ds, S, sl, rv, e, q⟩ := q
    cases ds with
    | nil => simp [setTs] at e
    | cons d ds =>
      cases rv with
      | @cons v vs _ _ rv rvs =>
        simp only [setTs] at e
        obtain ⟨r1, e1, e2⟩ := bind_ok e
        refine ⟨v, vs, rfl, L, f, hh, r, r1, d, S, sl, rv, e1, fun σ1 s1 w1 => ⟨L, f, hh, r1, r', ds, S, s1, rvs, e2, fun σ2 s2 w2 => q σ2 s2 fun us hu => ?_⟩⟩
        simp only [tgsIn, Bool.and_eq_true] at hu
        rw [w2 us hu.2, w1 us hu.1]
end

/-! ### a comprehension's turns -/
theorem lcD_exc (F : D → Hh → Res (Option D × Hh)) : ∀ (xs acc : List D) (h : Hh) c ys h', lcD F xs acc h ≠ .exc c ys h'
  | [], _, _, _, _, _ => by simp [lcD]
  | x :: xs, acc, h, c, ys, h' => by
    unfold lcD
    split
    · split
      · exact lcD_exc F xs _ _ _ _ _
      · simp
    · exact lcD_exc F xs _ _ _ _ _
    · simp
section
variable {K : PySem.W.Frag} {L : Addr → Prop} {f f' : List Addr} {h h' : Hh} {H H' : Hp}
theorem Lw.trans (S : SRel K L f h H) (S' : SRel K L f' h' H') (l : Le f H f' H') {L1 : Addr → Prop} (w : Lw L H' L1) : Lw L H L1 :=
  ⟨w.sub, fun a x => (w.new a x).imp id fun e => l.none S S' e⟩
/-- a list that a comprehension has filled becomes a changing one -/
theorem SRel.adopt {p : Addr} {vs : List V} {ds : List D} (S : SRel K (fun a => L a ∨ a = p) f h H) (np : ¬ L p) (hp : H p = some (.lst vs)) (r : RepL K (fun a => L a ∨ a = p) f H vs ds) :
    SRel K L (f ++ [p]) (h ++ [.lst ds]) H := by
  have nf : p ∉ f := fun m => S.dis p m (.inr rfl)
  have up : ∀ {vs : List V} {ds : List D}, RepL K (fun a => L a ∨ a = p) f H vs ds → RepL K L (f ++ [p]) H vs ds := fun r => RepL.up np r
  refine ⟨by simp [S.len], ?_, fun a x => S.out a (.inl x), fun a m x => ?_, fun i d e => ?_⟩
  · rw [List.nodup_append]
    refine ⟨S.nd, by simp, fun a ha b hb => ?_⟩
    rw [List.mem_singleton.mp hb]
    rintro rfl
    exact nf ha
  · rcases List.mem_append.mp m with m | m
    · exact S.dis a m (.inl x)
    · rw [List.mem_singleton.mp m] at x
      exact np x
  · by_cases hj : i < h.length
    · rw [List.getElem?_append_left hj] at e
      obtain ⟨b, ds', vs', e1, e2, e3, r'⟩ := S.obj i d e
      refine ⟨b, ds', vs', ?_, e2, e3, up r'⟩
      rw [List.getElem?_append_left (by rw [S.len]; exact hj)]
      exact e1
    · have hj' : i = h.length := by
        have := (List.getElem?_eq_some_iff.mp e).1
        simp at this
        omega
      subst hj'
      simp at e
      subst e
      refine ⟨p, ds, vs, ?_, rfl, hp, up r⟩
      rw [← S.len]
      simp
end
end Z9

set_option Elab.async false
set_option linter.all false
set_option maxRecDepth 100000
set_option maxHeartbeats 8000000
/-! E8: every form's evaluation is the text's. -/
namespace Z9
open PySem PySem.Spec PyProof.Rows L2

section
variable {nm : List Str} {ca : Nat → Value} {G : Gam} {lv : Nat} {N : List Str}

theorem glName_of {sc : Scope} {X : Cx} (c : COk nm ca G lv N sc X) {x y : Str} (h : glName sc x y = true) (hb : y ∈ bnames) : x = y ∧ Gl X x ∧ X.mg x = none ∧ (x == ("__debug__" : Str)) = false ∧ x ≠ ("__name__" : Str) := by
  unfold glName at h
  simp only [Bool.and_eq_true, beq_iff_eq] at h
  obtain ⟨⟨rfl, h1⟩, h2⟩ := h
  obtain ⟨a, b, d⟩ := okNm_of h2
  exact ⟨rfl, isGl_gl c h1, c.gam.blt _ hb, a, d⟩
theorem not_set {C : Mc} {sc : Scope} {e : Ex} {x : Expr} {env : PySem.Env} (h : mE C sc e x = true) : ∀ v, foldedSetIterable x env v = pure v := by
  intro v
  have := (mE_plain h).2.1
  cases x <;> first
    | rfl
    | exact absurd rfl (this _ _ _)
theorem plain_ix {x : Expr} (h : noSlice x = true) : PlainIx x := by
  intro o i
  cases x <;> first
    | rfl
    | (simp [noSlice] at h)
theorem base_of {x : Expr} {env : PySem.Env} {n : Str} (hn : noSuper x = true) : attributeBase x n env (eval x env) = eval x env := by
  cases x <;> first
    | rfl
    | skip
  rename_i fn args kws pos
  cases fn <;> first
    | rfl
    | skip
  rename_i id p
  cases args <;> first
    | rfl
    | skip
  cases kws <;> first
    | rfl
    | skip
  unfold attributeBase
  have h : ¬ id = ("super" : Str) := by simpa [noSuper] using hn
  simp [h]
theorem few_of {C : Mc} {sc : Scope} {env : PySem.Env} {pos : Pos} : ∀ {es : Exs} {xs : List Expr}, mEs C sc es xs = true → (backTo pos (starEach xs env)).all (fun x => !x.1) = true
  | .nil, [], _ => rfl
  | .nil, _ :: _, h => by simp [mEs] at h
  | .cons _ _, [], h => by simp [mEs] at h
  | .cons e es, x :: xs, h => by
    simp only [mEs, Bool.and_eq_true] at h
    rw [star_cons (mE_plain h.1).1]
    exact few_of (es := es) h.2
theorem lookO {K : PySem.W.Frag} {L : Addr → Prop} {f : List Addr} {h : Hh} {H : Hp} (S : SRel K L f h H) {v : V} {i : Nat} {x : Option D} (e : h[i]? = x) (r : Rep K L f H v (.ref i)) : (∃ d, x = some d) → ∃ a ds vs, v = .ref a ∧ x = some (.lst ds) ∧ H a = some (.lst vs) ∧ RepL K L f H vs ds := by
  rintro ⟨d, rfl⟩
  obtain ⟨a, ds, vs, e1, rfl, e3, rr⟩ := S.obj i d e
  cases r with
  | ref e2 =>
    rw [e1] at e2
    cases e2
    exact ⟨_, ds, vs, rfl, rfl, e3, rr⟩

/-! ### lists of readings -/
theorem PTsm {X : Cx} {e : List Expr} {t t' : TT} (h : PTs X e t) (k : ∀ σ H Q, t' σ H Q → t σ H Q) : PTs X e t' := ⟨fun pins s σ H Q I q => h.run pins s σ H Q I (k σ H Q q)⟩
theorem POm {X : Cx} {e : Option Expr} {t t' : TO} (h : PO X e t) (k : ∀ σ H Q, t' σ H Q → t σ H Q) : PO X e t' := ⟨fun pins s σ H Q I q => h.run pins s σ H Q I (k σ H Q q)⟩
theorem PWm {X : Cx} {e : Expr} {t t' : TT} (h : PW X e t) (k : ∀ σ H Q, t' σ H Q → t σ H Q) : PW X e t' := ⟨fun wh pins s σ H Q I q => h.run wh pins s σ H Q I (k σ H Q q)⟩

/-- a value that is a truth, as a test: forms that are no and, or, not, comparison -/
def plainT : Expr → Bool
  | .BoolOp .. => false
  | .UnaryOp .Not .. => false
  | .Compare .. => false
  | .NamedExpr .. => false
  | .IfExp .. => false
  | _ => true
theorem isTrue_of {x : Expr} {env : PySem.Env} (h : plainT x = true) : ∀ whole, isTrue x env whole = (do let v ← whole; standAt x.pos; holding [v] (truthy v)) := by
  intro w
  cases x <;> first
    | rfl
    | (simp [plainT] at h; done)
    | skip
  rename_i op a pos
  cases op <;> first
    | rfl
    | (simp [plainT] at h)
variable {sc : Scope} {X : Cx} {W : WX}
/-- from a reading to a test's -/
theorem tT_tE {e : Ex} {σ : L2.St} {H : Hp} {Q : Bool → Hp → Prop} (q : tT X.K ca W G e σ H Q) : tE X.K ca W G e σ H fun x H1 => ∃ c, x = .bl c ∧ Q c H1 := by
  obtain ⟨L, f, r, h, S, sl, p⟩ := q
  refine tE_of S sl ((p.bind S).mono fun d f1 h1 H1 l1 S1 p1 v rv => ?_)
  obtain ⟨b, eb, p2⟩ := p1.pureBind boolD_exc
  have := boolD_ok eb
  simp only at this
  subst this
  exact ⟨b, rv.blE, p2.here S1⟩
end
end Z9

set_option Elab.async false
set_option linter.all false
set_option maxRecDepth 100000
set_option maxHeartbeats 16000000
/-! E9: the evaluation of every form. -/
namespace Z9
open PySem PySem.Spec PyProof.Rows L2

section
variable {nm : List Str} {ca : Nat → Value} {G : Gam} {lv : Nat} {N : List Str}

theorem blkCOk {sc : Scope} {X : Cx} (c : COk nm ca G lv N sc X) (s : Shared) (H : Hp) (scope : Scope) (C : Addr) (cl : List (Str × Addr)) (fp : List Addr) : COk nm ca G lv N (relS scope sc) (X.blk s H scope (compEnvC scope cl C X.env) fp) :=
  ⟨c.N, c.nd, by show relS scope X.env.scope = _; rw [c.sc], c.calm, c.room, c.gam⟩

/-- the readings of a comprehension's parts give the whole's -/
theorem lc_go {sc : Scope} {X : Cx} {W : WX} (c : COk nm ca G lv N sc X) (new : Bool) (elt : Ex) (t : Tg) (it : Z9.It) (ifs : Exs) (own : List Nat) (ht : tgIn t own = true) {σ : L2.St} {H : Hp} {Q : VK}
    (q : tE X.K ca W G (.lc new elt t it ifs own) σ H Q) : tLc (tI X.K ca W G it) (gD X.K t) (tTs X.K ca (fun _ _ _ _ => False) G ifs) (tE X.K ca (fun _ _ _ _ => False) G elt) own σ H Q := by
  obtain ⟨L, f, r, h, S, sl, p⟩ := q
  refine ⟨L, f, r, h, S, sl, (p.bind S).mono fun xs f1 h1 H1 l1 S1 p1 J wd da hD => ?_⟩
  have sl1 := sl.mono S l1
  obtain ⟨Gd, Y, wk, hG, hY⟩ := wd
  generalize hF : (fun (x : D) (h1 : Hh) => (setT t x (wipeE r own)).bind fun r1 => (evTs G ifs r1 h1).bind fun b => if b.1 then (evE G elt r1 b.2).bind fun y => Res.ok (some y.1, y.2) else Res.ok (none, b.2)) = F at p1
  -- the turns come to an end
  obtain ⟨q, eq⟩ : ∃ q, lcD F xs [] h1 = .ok q := by
    cases e : lcD F xs [] h1 with
    | ok q => exact ⟨q, rfl⟩
    | exc c ys h' => exact absurd e (lcD_exc F xs [] h1 c ys h')
    | no =>
      have p1' : PostR X.K L f1 H1 ca (fun c d H' => W c d σ H') ((lcD F xs [] h1).bind fun q => if new then Res.ok (D.ref q.2.length, q.2 ++ [D.lst q.1]) else Res.ok (D.lst q.1, q.2)) _ := p1
      rw [e] at p1'
      exact p1'.elim
  obtain ⟨lA, SA, hw, nL, nf⟩ := S1.lay (o := .lst []) hD
  refine lc_it (G := Gd) (Y := Y) wk (fun i H2 => ∃ (f2 : List Addr) (h2 : Hh) (acc : List V) (ds : List D), H2 da = some (.lst acc) ∧ Le f1 H1 f2 H2 ∧ SRel X.K (fun a => L a ∨ a = da) f2 h2 H2 ∧ RepL X.K (fun a => L a ∨ a = da) f2 H2 acc ds ∧ lcD F (xs.drop i) ds h2 = .ok q)
    ⟨f1, h1, [], [], upd_same, lA, SA, .nil, by simpa using eq⟩ (fun i H2 _ ⟨f2, h2, _, _, _, l2, S2, _, _⟩ => hG _ f2 h2 H2 hw l2 S2) ?_ ?_
  · rintro i x H2 H3 hi ⟨f2, h2, acc, ds, eD, l2, S2, racc, e⟩ hy
    obtain ⟨d, ed, l3, S3, rd⟩ := hY _ i f2 h2 H2 x H3 hi hw l2 S2 hy
    have l13 := Le.trans S1 S2 l2 l3
    have eD3 : H3 da = some (.lst acc) := l3.keep _ _ eD fun m => S2.dis da m (.inr rfl)
    have racc3 := RepL.mono S2 l3 racc
    rw [List.drop_eq_getElem_cons hi] at e
    have ed' : xs[i] = d := by
      rw [List.getElem?_eq_getElem hi] at ed
      exact Option.some.inj ed
    rw [ed'] at e
    have slw : SlR X.K (fun a => L a ∨ a = da) f2 H3 (wipeE r own) (L2.wipe σ own) := ((sl1.wide hw).mono S1 l13).wipe own
    -- the target
    have eF : F d h2 = (setT t d (wipeE r own)).bind fun r1 => (evTs G ifs r1 h2).bind fun b => if b.1 then (evE G elt r1 b.2).bind fun y => Res.ok (some y.1, y.2) else Res.ok (none, b.2) := by rw [← hF]
    unfold lcD at e
    cases k1 : setT t d (wipeE r own) with
    | no => rw [eF, k1] at e; cases e
    | exc c ys h' => rw [eF, k1] at e; cases e
    | ok r1 =>
      rw [k1] at eF
      simp only [Res.bind_ok] at eF
      refine ⟨_, f2, h2, wipeE r own, r1, d, S3, slw, rd, k1, fun σ2 sl2 hw2 => ⟨by rw [hw2 own ht, wipe_wipe], ?_⟩⟩
      cases k2 : evTs G ifs r1 h2 with
      | no => rw [eF, k2] at e; cases e
      | exc c ys h' => rw [eF, k2] at e; cases e
      | ok b =>
        rw [k2] at eF
        simp only [Res.bind_ok] at eF
        refine ⟨_, f2, r1, h2, S3, sl2, ?_⟩
        rw [k2]
        intro f4 H4 l4 S4
        have l14 := Le.trans S1 S3 l13 l4
        have eD4 : H4 da = some (.lst acc) := l4.keep _ _ eD3 fun m => S3.dis da m (.inr rfl)
        have racc4 := RepL.mono S3 l4 racc3
        cases hb : b.1 with
        | false =>
          rw [hb] at eF
          refine iteF ?_
          rw [eF] at e
          exact ⟨f4, b.2, acc, ds, eD4, l14, S4, racc4, e⟩
        | true =>
          rw [hb] at eF
          refine iteT ?_
          simp only [if_true] at eF
          cases k3 : evE G elt r1 b.2 with
          | no => rw [eF, k3] at e; cases e
          | exc c ys h' => rw [eF, k3] at e; cases e
          | ok y =>
            rw [k3] at eF
            simp only [Res.bind_ok] at eF
            rw [eF] at e
            simp only at e
            refine ⟨_, f4, r1, b.2, S4, sl2.mono S3 l4, ?_⟩
            rw [k3]
            intro f5 H5 l5 S5 w rw'
            have l15 := Le.trans S1 S4 l14 l5
            have eD5 : H5 da = some (.lst acc) := l5.keep _ _ eD4 fun m => S4.dis da m (.inr rfl)
            have racc5 := RepL.mono S4 l5 racc4
            split at e
            · rename_i hlt
              have ha : acc.length < sizeLine := by
                rw [racc5.length, sizeLine_eq]
                exact hlt
              refine ⟨acc, eD5, ha, f5, y.2, acc ++ [w], ds ++ [y.1], upd_same, ⟨l15.pre, fun a o ea na => ?_⟩, S5.poke (.inr rfl) eD5, RepL.poke (.inr rfl) eD5 (racc5.append (.cons rw' .nil)), e⟩
              rw [upd_ne (fun z => by rw [z, hD] at ea; cases ea)]
              exact l15.keep a o ea na
            · cases e
  · rintro H2 ⟨f2, h2, acc, ds, eD, l2, S2, racc, e⟩
    rw [List.drop_length] at e
    simp only [lcD] at e
    cases e
    have p2 : PostR X.K L f1 H1 ca (fun c d H' => W c d σ H') (if new then Res.ok (D.ref h2.length, h2 ++ [D.lst ds]) else Res.ok (D.lst ds, h2)) fun d f' _ H' => ∀ v, Rep X.K L f' H' v d → Q v H' := by
      have p1' : PostR X.K L f1 H1 ca (fun c d H' => W c d σ H') ((lcD F xs [] h1).bind fun q => if new then Res.ok (D.ref q.2.length, q.2 ++ [D.lst q.1]) else Res.ok (D.lst q.1, q.2)) fun d f' _ H' => ∀ v, Rep X.K L f' H' v d → Q v H' := p1
      rw [eq] at p1'
      exact p1'
    have nf2 : da ∉ f2 := fun m => S2.dis da m (.inr rfl)
    cases new with
    | false => exact p2 f2 H2 l2 (S2.narrow fun a x => .inl x) _ (.lst eD nL nf2 (RepL.narrow (fun a x => .inl x) racc))
    | true =>
      refine p2 (f2 ++ [da]) H2 ⟨?_, l2.keep⟩ (S2.adopt nL eD racc) _ (.ref ?_)
      · obtain ⟨g, eg, hg⟩ := l2.pre
        refine ⟨g ++ [da], by rw [eg, List.append_assoc], fun a ha => ?_⟩
        rcases List.mem_append.mp ha with ha | ha
        · exact hg a ha
        · rw [List.mem_singleton.mp ha]
          exact hD
      · rw [← S2.len]
        simp
end
end Z9

set_option Elab.async false
set_option linter.all false
set_option maxRecDepth 100000
set_option maxHeartbeats 16000000
/-! E10: the evaluation of every form. -/
namespace Z9
open PySem PySem.Spec PyProof.Rows L2

section
variable {K : PySem.W.Frag} {L L0 : Addr → Prop} {f f' : List Addr} {h : Hh} {H H' : Hp}
theorem SqT_mono (S : SRel K L0 f h H) (l : Le f H f' H') {a : Addr} {vs : List V} (hs : SqT K H a vs) : SqT K H' a vs := by
  rcases hs with (e | ⟨o, e⟩) | k
  · refine .inl (.inl (l.keep _ _ e fun hm => ?_))
    obtain ⟨ws, e2⟩ := S.at hm
    rw [e] at e2
    cases e2
  · refine .inl (.inr ⟨o, l.keep _ _ e fun hm => ?_⟩)
    obtain ⟨ws, e2⟩ := S.at hm
    rw [e] at e2
    cases e2
  · exact .inr k
theorem walkD_list (S : SRel K L f h H) {a : Addr} {vs : List V} {ds : List D} (ea : H a = some (.lst vs)) (nf : a ∉ f) (r : RepL K L f H vs ds) : WalkD K L f H ds (Itl K a) := by
  refine ⟨fun H2 => SqL K H2 a vs, YAt vs, by rw [← r.length]; exact walk_list, fun L1 f2 h2 H2 w l S2 => .of (l.keep _ _ ea nf), fun L1 i f2 h2 H2 x H3 hi w l S2 y => ?_⟩
  obtain ⟨rfl, ex⟩ := y
  obtain ⟨d, e1, e2⟩ := r.getV ex
  exact ⟨d, e1, .refl, S2, (e2.wide w).mono S l⟩
theorem walkD_tup (S : SRel K L f h H) {a : Addr} {vs : List V} {ds : List D} (ea : SqT K H a vs) (r : RepL K L f H vs ds) : WalkD K L f H ds (Itt K a) := by
  refine ⟨fun H2 => SqT K H2 a vs, YAt vs, by rw [← r.length]; exact walk_tup, fun L1 f2 h2 H2 w l S2 => SqT_mono S l ea, fun L1 i f2 h2 H2 x H3 hi w l S2 y => ?_⟩
  obtain ⟨rfl, ex⟩ := y
  obtain ⟨d, e1, e2⟩ := r.getV ex
  exact ⟨d, e1, .refl, S2, (e2.wide w).mono S l⟩
theorem walkD_str {s : List Nat} (o : ∀ c ∈ s, c < 0x110000) : WalkD K L f H (s.map fun c => D.str [c]) (Its ⟨s.toArray⟩) := by
  refine ⟨fun _ => True, _, by rw [List.length_map]; simpa using walk_str (z := (⟨s.toArray⟩ : Str)), fun _ _ _ _ _ _ _ => trivial, fun L1 i f2 h2 H2 x H3 hi w l S2 y => ?_⟩
  obtain ⟨rfl, c, ec, rfl⟩ := y
  have ec' : s[i]? = some c := by simpa using ec
  refine ⟨.str [c], by rw [List.getElem?_map, ec']; rfl, .refl, S2, ?_⟩
  exact .strOf (x := [c]) (fun c' hc' => by rw [List.mem_singleton.mp hc']; exact o c (List.mem_of_getElem? ec')) (by show 1 ≤ sizeLine; decide)
theorem walkD_range {lo : Int} {n : Nat} : WalkD K L f H ((List.range n).map fun i : Nat => D.int (lo + (i : Int))) (Itr lo n) := by
  refine ⟨fun _ => True, _, by rw [List.length_map, List.length_range]; exact walk_range, fun _ _ _ _ _ _ _ => trivial, fun L1 i f2 h2 H2 x H3 hi w l S2 y => ?_⟩
  obtain ⟨rfl, rfl⟩ := y
  rw [List.length_map, List.length_range] at hi
  exact ⟨.int (lo + i), by simp [hi], .refl, S2, .int _⟩
end

section
variable {C : Mc} {sc : Scope} {x : Expr} {a b w : Ex} {o o2 : CmpOp} {lo hi : Ox} {t : Ty} {es : Exs} {g : BF} {m : BM} {k : Nat} {new : Bool} {elt : Ex} {tg : Tg} {it : Z9.It} {ifs : Exs} {own : List Nat}
theorem inv_cmp2 (h : mE C sc (.cmp2 o o2 a b w) x = true) : ∃ y o' p' z u pos, x = .Compare y [o', p'] [z, u] pos ∧ (decide (o = o') && decide (o2 = p') && !lastMarks [o', p'] [z, u] && mE C sc a y && mE C sc b z && mE C sc w u) = true := by
  unfold mE at h
  split at h
  all_goals first
    | (rename_i hh; cases hh; exact ⟨_, _, _, _, _, _, rfl, h⟩)
    | (rename_i hh; cases hh; done)
    | cases h
theorem inv_isn (h : mE C sc (.isn a) x = true) : ∃ y j p pos, x = .Compare y [.Is] [.Constant .none j p] pos ∧ mE C sc a y = true := by
  unfold mE at h
  split at h
  all_goals first
    | (rename_i hh; cases hh; exact ⟨_, _, _, _, rfl, h⟩)
    | (rename_i hh; cases hh; done)
    | cases h
theorem inv_notn (h : mE C sc (.notn a) x = true) : ∃ y j p pos, x = .Compare y [.IsNot] [.Constant .none j p] pos ∧ mE C sc a y = true := by
  unfold mE at h
  split at h
  all_goals first
    | (rename_i hh; cases hh; exact ⟨_, _, _, _, rfl, h⟩)
    | (rename_i hh; cases hh; done)
    | cases h
theorem inv_sl (h : mE C sc (.sl a lo hi) x = true) : ∃ y l u p pos, x = .Subscript y (.Slice l u none p) pos ∧ (mE C sc a y && mO C sc lo l && mO C sc hi u) = true := by
  unfold mE at h
  split at h
  all_goals first
    | (rename_i hh; cases hh; exact ⟨_, _, _, _, _, rfl, h⟩)
    | (rename_i hh; cases hh; done)
    | cases h
theorem inv_isi (h : mE C sc (.isi a t) x = true) : ∃ f p y z q pos, x = .Call (.Name f p) [y, .Name z q] [] pos ∧ (glName sc f "isinstance" && glName sc z t.nm && mE C sc a y) = true := by
  unfold mE at h
  split at h
  all_goals first
    | (rename_i hh; cases hh; exact ⟨_, _, _, _, _, _, rfl, h⟩)
    | (rename_i hh; cases hh; done)
    | cases h
theorem inv_bcall (h : mE C sc (.bcall g es) x = true) : ∃ f p y ys pos, x = .Call (.Name f p) (y :: ys) [] pos ∧ (glName sc f g.nm && mEs C sc es (y :: ys)) = true := by
  unfold mE at h
  split at h
  all_goals first
    | (rename_i hh; cases hh; exact ⟨_, _, _, _, _, rfl, h⟩)
    | (rename_i hh; cases hh; done)
    | cases h
theorem inv_bmeth (h : mE C sc (.bmeth m a es) x = true) : ∃ y n p xs pos, x = .Call (.Attribute y n p) xs [] pos ∧ (noSuper y && decide (n = m.nm) && p.endLine == pos.line && mE C sc a y && mEs C sc es xs && decide (xs.length < 5)) = true := by
  unfold mE at h
  split at h
  all_goals first
    | (rename_i hh; cases hh; exact ⟨_, _, _, _, _, rfl, h⟩)
    | (rename_i hh; cases hh; done)
    | cases h
theorem inv_call (h : mE C sc (.call k es) x = true) : ∃ y p xs pos, x = .Call (.Name y p) xs [] pos ∧ (decide (C.nm[k]? = some y) && isGl sc y && okNm y && mEs C sc es xs) = true := by
  unfold mE at h
  split at h
  all_goals first
    | (rename_i hh; cases hh; exact ⟨_, _, _, _, rfl, h⟩)
    | (rename_i hh; cases hh; done)
    | cases h
theorem inv_range (h : mI C sc (.range a) x = true) : ∃ f p y pos, x = .Call (.Name f p) [y] [] pos ∧ (glName sc f "range" && mE C sc a y) = true := by
  unfold mI at h
  split at h
  all_goals first
    | (rename_i hh; cases hh; exact ⟨_, _, _, _, rfl, h⟩)
    | (rename_i hh; cases hh; done)
    | cases h
theorem inv_range2 (h : mI C sc (.range2 a b) x = true) : ∃ f p y z pos, x = .Call (.Name f p) [y, z] [] pos ∧ (glName sc f "range" && mE C sc a y && mE C sc b z) = true := by
  unfold mI at h
  split at h
  all_goals first
    | (rename_i hh; cases hh; exact ⟨_, _, _, _, _, rfl, h⟩)
    | (rename_i hh; cases hh; done)
    | cases h
theorem mI_set {env : PySem.Env} (h : mI C sc it x = true) : ∀ v, foldedSetIterable x env v = pure v := by
  cases it with
  | seq e => exact not_set (by simpa [mI] using h)
  | range e => obtain ⟨f, p, y, pos, rfl, _⟩ := inv_range h; exact fun _ => rfl
  | range2 a b => obtain ⟨f, p, y, z, pos, rfl, _⟩ := inv_range2 h; exact fun _ => rfl
  | enum e => simp [mI] at h
  | zip a b => simp [mI] at h
theorem inv_lc (h : mE C sc (.lc new elt tg it ifs own) x = true) : ∃ e t2 iter fs scope pos, x = .ListComp e [⟨t2, iter, fs, 0⟩] scope pos ∧
    (tgIn tg own && blkC C.N sc scope (own.map fun i => (C.N.getD i Str.empty, i)) && own.all (fun i => decide (i < C.N.length)) && mI C sc it iter && mT C false (relS scope sc) tg t2 && decide (fs.length ≤ 1) && mEs C (relS scope sc) ifs fs && mE C (relS scope sc) elt e) = true := by
  unfold mE at h
  split at h
  all_goals first
    | (rename_i hh; cases hh; exact ⟨_, _, _, _, _, _, rfl, h⟩)
    | (rename_i hh; cases hh; done)
    | cases h
end

section
variable {nm : List Str} {ca : Nat → Value} {G : Gam} {lv : Nat} {N : List Str}

theorem and_go {X : Cx} {W : WX} {k : Bool} {e : Ex} {es : Exs} {e2 : Ex} {es2 : Exs} (he : es = .cons e2 es2) {σ : L2.St} {H : Hp} {Q : VK} {L : Addr → Prop} {f : List Addr} {r : Z9.Env} {h : Hh} (S : SRel X.K L f h H) (sl : SlR X.K L f H r σ)
    (p : PostR X.K L f H ca (fun c d H' => W c d σ H') (evA G k (.cons e es) r h) fun d f' _ H' => ∀ v, Rep X.K L f' H' v d → Q v H') :
    tE X.K ca W G e σ H fun x H1 => ∃ c, x = .bl c ∧ if c = k then (∃ (L : Addr → Prop) (f : List Addr) (r : Z9.Env) (h : Hh), SRel X.K L f h H1 ∧ SlR X.K L f H1 r σ ∧
      PostR X.K L f H1 ca (fun c d H' => W c d σ H') (evA G k es r h) fun d f' _ H' => ∀ v, Rep X.K L f' H' v d → Q v H') else Q (.bl c) H1 := by
  subst he
  unfold evA at p
  refine tE_of S sl ((p.bind S).mono fun d f1 h1 H1 l1 S1 p1 v rv => ?_)
  obtain ⟨b, eb, p2⟩ := p1.pureBind boolD_exc
  have := boolD_ok eb
  simp only at this
  subst this
  refine ⟨b, rv.blE, ?_⟩
  replace p2 : PostR X.K L f1 H1 ca (fun c d H' => W c d σ H') (if b = k then evA G k (.cons e2 es2) r h1 else Res.ok (D.bl b, h1)) fun d f' _ H' => ∀ v, Rep X.K L f' H' v d → Q v H' := p2
  by_cases hb : b = k
  · rw [if_pos hb] at p2 ⊢
    exact ⟨L, f1, r, h1, S1, sl.mono S l1, p2⟩
  · rw [if_neg hb] at p2 ⊢
    exact p2.here S1 _ (.bl _)

def BM.ty : BM → String
  | .join => "str" | .append => "list" | .pop => "list"
theorem recv_ty {K : PySem.W.Frag} {L : Addr → Prop} {f : List Addr} {h : Hh} {H : Hp} {m : BM} {d : D} {v : V} (S : SRel K L f h H) (r : Rep K L f H v d) (hr : recvD m d = true) : tyV K (BM.ty m) v H := by
  have ref : ∀ i, d = .ref i → tyV K "list" v H := by
    rintro i rfl
    cases r with
    | ref e =>
      obtain ⟨vs, e2⟩ := S.at (List.mem_of_getElem? e)
      exact .inl ⟨rfl, vs, .of e2⟩
  cases m with
  | join =>
    cases d <;> simp [recvD] at hr
    obtain ⟨rfl, _, _⟩ := r.signs
    exact rfl
  | append =>
    cases d <;> simp [recvD] at hr
    exact ref _ rfl
  | pop =>
    cases d <;> simp [recvD] at hr
    exact ref _ rfl
theorem pe_callS0 {X : Cx} {CX : CXT} {k : Nat} {f : Addr} {fd : FuncData} {ps : List Str} {sp : Sp} {E : L2.St → XK} {x : Str} {p pos : Pos} (F : FnOk X.prog X.w X.K X.mg X.base CX k f fd ps sp) (hr : Room k X.A) (hg : Gl X x) (hm : X.mg x = some (.ref f)) (hk : PySem.W.keepIn X.K (.ref f) = true) (hb : Binds X.K fd ps []) (hx : ∀ σ, PassesAt CX X σ (E σ))
    (hdb : (x == ("__debug__" : Str)) = false) : PE X (.Call (.Name x p) [] [] pos) (fun σ H Q => sp [] H Q (E σ)) := by
  refine ⟨fun pins s σ H Q I h => ?_⟩
  refine wpAny_Call_Name_kw (ld_glob I hg hm ?_ hdb)
  exact PySem.W.callWith_K0 I.kIn hk (run_fnS (us := []) F hr hb (hx σ) I .nil h)
theorem both {X : Cx} {W : WX} {e : Ex} {x : Expr} (pe : PE X x (tE X.K ca W G e)) (hp : plainT x = true) : PE X x (tE X.K ca W G e) ∧ PT X x (tT X.K ca W G e) :=
  ⟨pe, PTm (pt_val pe (isTrue_of hp)) fun σ H Q q => tT_tE q⟩
/-- what is asked of and, or -/
def tA (K : PySem.W.Frag) (ca : Nat → Value) (W : WX) (G : Gam) (k : Bool) (es : Exs) : TE := fun σ H Q => ∃ (L : Addr → Prop) (f : List Addr) (r : Z9.Env) (h : Hh), SRel K L f h H ∧ SlR K L f H r σ ∧
  PostR K L f H ca (fun c d H' => W c d σ H') (evA G k es r h) fun d f' _ H' => ∀ v, Rep K L f' H' v d → Q v H'
def tAT (K : PySem.W.Frag) (ca : Nat → Value) (W : WX) (G : Gam) (k : Bool) (es : Exs) : TT := fun σ H Q => ∃ (L : Addr → Prop) (f : List Addr) (r : Z9.Env) (h : Hh), SRel K L f h H ∧ SlR K L f H r σ ∧
  PostR K L f H ca (fun c d H' => W c d σ H') ((evA G k es r h).bind fun p => (boolD p.1).bind fun t => .ok (t, p.2)) fun b _ _ H' => Q b H'
theorem pt_ifExp {X : Cx} {c a b : Expr} {tc ta tb : TT} {pos : Pos} (hc : PT X c tc) (ha : PT X a ta) (hb : PT X b tb) : PT X (.IfExp c a b pos) (fun σ H Q => tc σ H fun k H1 => if k = true then ta σ H1 Q else tb σ H1 Q) := by
  refine ⟨fun pins s σ H Q I h => ?_⟩
  refine isTrue_IfExp (thn (hc.run pins s σ H _ I h) fun d s1 ⟨H1, I1, q1⟩ => ?_)
  cases d with
  | true => exact ha.run pins s1 σ H1 Q I1 q1
  | false => exact hb.run pins s1 σ H1 Q I1 q1
theorem bind_assoc' {α β γ : Type} (x : Res α) (g : α → Res β) (k : β → Res γ) : (x.bind g).bind k = x.bind fun a => (g a).bind k := by cases x <;> rfl
theorem isiD_exc (h : Hh) (d : D) (t : Ty) : ∀ c xs h', isiD h d t ≠ .exc c xs h' := by
  intro c xs h'
  unfold isiD
  exact bindC_exc ofO_exc (by intros; simp) _ _ _

mutual
theorem soundE : ∀ (e : Ex) {x : Expr} {sc : Scope} {X : Cx} {W : WX}, COk nm ca G lv N sc X → Takes X W → mE ⟨N, nm⟩ sc e x = true → PE X x (tE X.K ca W G e) ∧ PT X x (tT X.K ca W G e)
  | .var i, x, sc, X, W, c, tk, h => by
    cases x <;> simp only [mE, Bool.and_eq_true, Bool.false_eq_true, decide_eq_true_eq] at h
    obtain ⟨⟨h1, h2⟩, h3⟩ := h
    obtain ⟨a, b, _⟩ := okNm_of h3
    suffices pe : PE X _ (tE X.K ca W G _) from both pe rfl
    refine PEm (pe_var (i := i) (by rw [c.N]; exact h1) (by rw [c.sc]; exact isLoc_vis h2) a b) fun σ H Q q => ?_
    obtain ⟨L, f, r, hh, S, sl, p⟩ := q
    unfold evE at p
    obtain ⟨d, ed, p2⟩ := p.pureBind getV_exc
    obtain ⟨v, e1, e2⟩ := sl.at_ i d (getV_ok ed)
    exact ⟨v, e1, p2.here S v e2⟩
  | .con d, x, sc, X, W, c, tk, h => by
    cases x <;> try simp only [mE, Bool.false_eq_true] at h
    suffices pe : PE X _ (tE X.K ca W G _) from both pe rfl
    rename_i k j pos
    unfold okC at h
    split at h
    · exact PEm pe_non fun σ H Q ⟨L, f, r, hh, S, sl, p⟩ => p.here S _ .non
    · rename_i a b
      have : a = b := by simpa using h
      subst this
      exact PEm pe_bl fun σ H Q ⟨L, f, r, hh, S, sl, p⟩ => p.here S _ (.bl _)
    · rename_i a b
      have : a = b := by simpa using h
      subst this
      exact PEm pe_int fun σ H Q ⟨L, f, r, hh, S, sl, p⟩ => p.here S _ (.int _)
    · rename_i a b
      simp only [Bool.and_eq_true, beq_iff_eq, decide_eq_true_eq] at h
      obtain ⟨⟨rfl, h2⟩, h3⟩ := h
      exact PEm pe_str fun σ H Q ⟨L, f, r, hh, S, sl, p⟩ => p.here S _ (.str _ h2 (by rw [sizeLine_eq]; omega))
    · cases h
  | .glob k, x, sc, X, W, c, tk, h => by
    cases x <;> simp only [mE, Bool.and_eq_true, Bool.false_eq_true, decide_eq_true_eq] at h
    obtain ⟨⟨h1, h2⟩, h3⟩ := h
    obtain ⟨a, b, _⟩ := okNm_of h3
    suffices pe : PE X _ (tE X.K ca W G _) from both pe rfl
    cases ek : G.con k with
    | none =>
      exact ⟨fun pins s σ H Q I q => by
        obtain ⟨L, f, r, hh, S, sl, p⟩ := q
        unfold evE at p
        rw [ek] at p
        exact p.elim⟩
    | some d =>
      obtain ⟨v, u, e1, e2, e3⟩ := c.gam.con k d _ ek h1
      refine PEm (pe_glob (isGl_gl c h2) e1 e2 a) fun σ H Q ⟨L, f, r, hh, S, sl, p⟩ => ?_
      unfold evE at p
      rw [ek] at p
      exact p.here S v (e3 _ _ _)
  | .dic0, x, sc, X, W, c, tk, h => by
    cases x <;> try simp only [mE, Bool.false_eq_true] at h
    suffices pe : PE X _ (tE X.K ca W G _) from both pe rfl
    rename_i ks vs pos
    cases ks <;> cases vs <;> simp only [mE, Bool.false_eq_true] at h
    refine PEm pe_dnewK fun σ H Q ⟨L, f, r, hh, S, sl, p⟩ => ?_
    intro q hq
    obtain ⟨l, S', n1, n2⟩ := S.alloc (o := .dK []) hq
    exact p f _ l S' _ (.dic0 upd_same n1 n2)
  | .tup es, x, sc, X, W, c, tk, h => by
    cases x <;> try simp only [mE, Bool.false_eq_true] at h
    suffices pe : PE X _ (tE X.K ca W G _) from both pe rfl
    refine PEm (pe_tup (soundEs es c tk h)) fun σ H Q ⟨L, f, r, hh, S, sl, p⟩ => ?_
    unfold evE at p
    refine ⟨L, f, r, hh, S, sl, (p.bind S).mono fun ds f1 h1 H1 l1 S1 p1 vs rv => ?_⟩
    obtain ⟨z, ez, p2⟩ : ∃ z, ofB (okN ds.length) (D.tup ds, h1) = .ok z ∧ PostR X.K L f1 H1 ca (fun c d H' => W c d σ H') (.ok z) fun d f' _ H' => ∀ v, Rep X.K L f' H' v d → Q v H' := by
      have := p1
      cases ez : ofB (okN ds.length) (D.tup ds, h1) with
      | ok z => exact ⟨z, rfl, by simpa only [ez] using this⟩
      | exc c xs h' => exact absurd ez (ofB_exc _ _ _)
      | no => simp only [ez] at this; exact this.elim
    obtain ⟨hc, rfl⟩ := ofB_ok ez
    refine ⟨by rw [rv.length]; exact of_decide_eq_true hc, fun q hq => ?_⟩
    exact fin_tup S1 rv (fun H' v l S' r' => p2 f1 H' l S' v r') hq
  | .lst es, x, sc, X, W, c, tk, h => by
    cases x <;> try simp only [mE, Bool.false_eq_true] at h
    suffices pe : PE X _ (tE X.K ca W G _) from both pe rfl
    refine PEm (pe_lst (soundEs es c tk h)) fun σ H Q ⟨L, f, r, hh, S, sl, p⟩ => ?_
    unfold evE at p
    refine ⟨L, f, r, hh, S, sl, (p.bind S).mono fun ds f1 h1 H1 l1 S1 p1 vs rv => ?_⟩
    obtain ⟨z, ez, p2⟩ : ∃ z, ofB (okN ds.length) (D.lst ds, h1) = .ok z ∧ PostR X.K L f1 H1 ca (fun c d H' => W c d σ H') (.ok z) fun d f' _ H' => ∀ v, Rep X.K L f' H' v d → Q v H' := by
      have := p1
      cases ez : ofB (okN ds.length) (D.lst ds, h1) with
      | ok z => exact ⟨z, rfl, by simpa only [ez] using this⟩
      | exc c xs h' => exact absurd ez (ofB_exc _ _ _)
      | no => simp only [ez] at this; exact this.elim
    obtain ⟨hc, rfl⟩ := ofB_ok ez
    refine ⟨by rw [rv.length]; exact of_decide_eq_true hc, fun q hq => ?_⟩
    obtain ⟨l, S', n1, n2⟩ := S1.alloc (o := .lst vs) hq
    exact p2 f1 _ l S' _ (.lst upd_same n1 n2 (RepL.mono S1 l rv))
  | .newl es, x, sc, X, W, c, tk, h => by
    cases x <;> try simp only [mE, Bool.false_eq_true] at h
    suffices pe : PE X _ (tE X.K ca W G _) from both pe rfl
    refine PEm (pe_lst (soundEs es c tk h)) fun σ H Q ⟨L, f, r, hh, S, sl, p⟩ => ?_
    unfold evE at p
    refine ⟨L, f, r, hh, S, sl, (p.bind S).mono fun ds f1 h1 H1 l1 S1 p1 vs rv => ?_⟩
    obtain ⟨z, ez, p2⟩ : ∃ z, ofB (okN ds.length) (D.ref h1.length, h1 ++ [D.lst ds]) = .ok z ∧ PostR X.K L f1 H1 ca (fun c d H' => W c d σ H') (.ok z) fun d f' _ H' => ∀ v, Rep X.K L f' H' v d → Q v H' := by
      have := p1
      cases ez : ofB (okN ds.length) (D.ref h1.length, h1 ++ [D.lst ds]) with
      | ok z => exact ⟨z, rfl, by simpa only [ez] using this⟩
      | exc c xs h' => exact absurd ez (ofB_exc _ _ _)
      | no => simp only [ez] at this; exact this.elim
    obtain ⟨hc, rfl⟩ := ofB_ok ez
    refine ⟨by rw [rv.length]; exact of_decide_eq_true hc, fun q hq => ?_⟩
    obtain ⟨l, S'⟩ := S1.push hq rv
    refine p2 _ _ l S' _ (.ref ?_)
    rw [← S1.len]
    simp
  | .bin o a b, x, sc, X, W, c, tk, h => by
    cases x <;> simp only [mE, Bool.and_eq_true, Bool.false_eq_true, decide_eq_true_eq] at h
    obtain ⟨⟨rfl, h1⟩, h2⟩ := h
    suffices pe : PE X _ (tE X.K ca W G _) from both pe rfl
    refine PEm (pe_op (op_binD o) (soundE a c tk h1).1 (soundE b c tk h2).1) fun σ H Q ⟨L, f, r, hh, S, sl, p⟩ => ?_
    unfold evE at p
    exact bin_go (binD_exc o) S sl p
  | .neg a, x, sc, X, W, c, tk, h => by
    cases x <;> try simp only [mE, Bool.false_eq_true] at h
    rename_i o y pos
    cases o <;> try simp only [mE, Bool.false_eq_true] at h
    suffices pe : PE X _ (tE X.K ca W G _) from both pe rfl
    refine PEm (pe_un un_neg (soundE a c tk h).1) fun σ H Q ⟨L, f, r, hh, S, sl, p⟩ => ?_
    unfold evE at p
    refine tE_of S sl ((p.bind S).mono fun d f1 h1 H1 l1 S1 p1 v rv => ?_)
    cases d <;> simp only at p1 <;> try exact p1.elim
    exact ⟨_, rv.intE, p1.here S1 _ (.int _)⟩
  | .cmp o a b, x, sc, X, W, c, tk, h => by
    cases x <;> try simp only [mE, Bool.false_eq_true] at h
    rename_i x1 os ys pos
    cases os with
    | nil => simp [mE] at h
    | cons o1 os =>
      cases os with
      | cons _ _ => simp [mE] at h
      | nil =>
        cases ys with
        | nil => simp [mE] at h
        | cons y ys =>
          cases ys with
          | cons _ _ => simp [mE] at h
          | nil =>
            simp only [mE, Bool.and_eq_true, decide_eq_true_eq, Bool.not_eq_true'] at h
            obtain ⟨⟨⟨rfl, h0⟩, h1⟩, h2⟩ := h
            have go : ∀ σ H Q, tE X.K ca W G (.cmp o a b) σ H Q → tOp (rD X.K fun x y _ => cmpD o x y) (tE X.K ca W G a) (tE X.K ca W G b) σ H Q := fun σ H Q ⟨L, f, r, hh, S, sl, p⟩ => by
              unfold evE at p
              exact bin_go (cmpD_exc o) S sl p
            exact ⟨PEm (pe_cmpR (op_cmpD c.hu o) (soundE a c tk h1).1 (soundE b c tk h2).1 h0) go, PTm (pt_cmpR (op_cmpD c.hu o) (soundE a c tk h1).1 (soundE b c tk h2).1 h0) fun σ H Q q => go _ _ _ (tT_tE q)⟩
  | .cmp2 o o2 a b w, x, sc, X, W, c, tk, h => by
    obtain ⟨x1, o1, o3, y1, y2, pos, rfl, hq⟩ := inv_cmp2 h
    simp only [Bool.and_eq_true, decide_eq_true_eq, Bool.not_eq_true'] at hq
    obtain ⟨⟨⟨⟨⟨rfl, rfl⟩, h0⟩, h1⟩, h2⟩, h3⟩ := hq
    have go : ∀ σ H Q, tE X.K ca W G (.cmp2 o o2 a b w) σ H Q → tChain (rD X.K fun x y _ => cmpD o x y) (rD X.K fun x y _ => cmpD o2 x y) (tE X.K ca W G a) (tE X.K ca W G b) (tE X.K ca W G w) σ H Q := fun σ H Q ⟨L, f, r, hh, S, sl, p⟩ => by
      unfold evE at p
      refine tE_of S sl ((p.bind S).mono fun d f1 h1 H1 l1 S1 p1 v rv => ?_)
      refine tE_of S1 (sl.mono S l1) ((p1.bind S1).mono fun e f2 h2 H2 l2 S2 p2 u ru => ?_)
      obtain ⟨z, ez, p3⟩ := p2.pureBind (cmpD_exc o _ _ h2)
      obtain ⟨b, eb, p4⟩ := p3.pureBind boolD_exc
      have ez : cmpD o d e = .ok z := ez
      have := boolD_ok eb
      subst this
      refine ⟨L, f2, h2, d, e, S2, rv.mono S1 l2, ru, ?_⟩
      simp only [ez]
      intro H3 v3 l3 S3 r3
      refine ⟨b, r3.blE, ?_⟩
      cases b with
      | false =>
        refine iteF ?_
        exact p4 f2 H3 l3 S3 _ (.bl _)
      | true =>
        refine iteT ?_
        simp only [if_true] at p4
        have p5 : PostR X.K L f2 H2 ca (fun c d H' => W c d σ H') ((evE G w r h2).bind fun w => (cmpD o2 e w.1).bind fun e => .ok (e, w.2)) fun d f' _ H' => ∀ v, Rep X.K L f' H' v d → Q v H' := p4
        have p6 : PostR X.K L f2 H3 ca (fun c d H' => W c d σ H') ((evE G w r h2).bind fun w => (cmpD o2 e w.1).bind fun e => .ok (e, w.2)) fun d f' _ H' => ∀ v, Rep X.K L f' H' v d → Q v H' := p5.later S2 S3 l3
        refine tE_of S3 (((sl.mono S l1).mono S1 l2).mono S2 l3) ((p6.bind S3).mono fun e4 f4 h4 H4 l4 S4 p7 u4 r4 => ?_)
        obtain ⟨z4, ez4, p8⟩ := p7.pureBind (cmpD_exc o2 _ _ h4)
        have ez4 : cmpD o2 e e4 = .ok z4 := ez4
        refine ⟨L, f4, h4, e, e4, S4, (ru.mono S2 l3).mono S3 l4, r4, ?_⟩
        simp only [ez4]
        exact fun H5 v5 l5 S5 r5 => p8 f4 H5 l5 S5 v5 r5
    exact ⟨PEm (pe_chain (op_cmpD c.hu o) (op_cmpD c.hu o2) (soundE a c tk h1).1 (soundE b c tk h2).1 (soundE w c tk h3).1 h0) go,
      PTm (pt_chain (op_cmpD c.hu o) (op_cmpD c.hu o2) (soundE a c tk h1).1 (soundE b c tk h2).1 (soundE w c tk h3).1 h0) fun σ H Q q => go _ _ _ (tT_tE q)⟩
  | .isn a, x, sc, X, W, c, tk, h => by
    obtain ⟨y, j, pp, pos, rfl, hq⟩ := inv_isn h
    have go : ∀ σ H Q, tE X.K ca W G (.isn a) σ H Q → tIsN (tE X.K ca W G a) σ H Q := fun σ H Q ⟨L, f, r, hh, S, sl, p⟩ => by
      unfold evE at p
      refine tE_of S sl ((p.bind S).mono fun d f1 h1 H1 l1 S1 p1 v rv => ?_)
      cases rv <;> exact p1.here S1 _ (.bl _)
    exact ⟨PEm (pe_cmp (pc_isN (soundE a c tk hq).1)) go, PTm (pt_cmp (pc_isN (soundE a c tk hq).1)) fun σ H Q q => go _ _ _ (tT_tE q)⟩
  | .notn a, x, sc, X, W, c, tk, h => by
    obtain ⟨y, j, pp, pos, rfl, hq⟩ := inv_notn h
    have go : ∀ σ H Q, tE X.K ca W G (.notn a) σ H Q → tNotN (tE X.K ca W G a) σ H Q := fun σ H Q ⟨L, f, r, hh, S, sl, p⟩ => by
      unfold evE at p
      refine tE_of S sl ((p.bind S).mono fun d f1 h1 H1 l1 S1 p1 v rv => ?_)
      cases rv <;> exact p1.here S1 _ (.bl _)
    exact ⟨PEm (pe_cmp (pc_notN (soundE a c tk hq).1)) go, PTm (pt_cmp (pc_notN (soundE a c tk hq).1)) fun σ H Q q => go _ _ _ (tT_tE q)⟩
  | .and es, x, sc, X, W, c, tk, h => by
    cases x <;> try simp only [mE, Bool.false_eq_true] at h
    rename_i o xs pos
    cases o <;> try simp only [mE, Bool.false_eq_true] at h
    have sa := soundA true es c tk h
    refine ⟨PEm (sa.1 pos) fun σ H Q ⟨L, f, r, hh, S, sl, p⟩ => ?_, PTm (sa.2 pos).pt fun σ H Q ⟨L, f, r, hh, S, sl, p⟩ => ?_⟩
    · unfold evE at p
      exact ⟨L, f, r, hh, S, sl, p⟩
    · unfold evE at p
      exact ⟨L, f, r, hh, S, sl, p⟩
  | .or es, x, sc, X, W, c, tk, h => by
    cases x <;> try simp only [mE, Bool.false_eq_true] at h
    rename_i o xs pos
    cases o <;> try simp only [mE, Bool.false_eq_true] at h
    have sa := soundA false es c tk h
    refine ⟨PEm (sa.1 pos) fun σ H Q ⟨L, f, r, hh, S, sl, p⟩ => ?_, PTm (sa.2 pos).pt fun σ H Q ⟨L, f, r, hh, S, sl, p⟩ => ?_⟩
    · unfold evE at p
      exact ⟨L, f, r, hh, S, sl, p⟩
    · unfold evE at p
      exact ⟨L, f, r, hh, S, sl, p⟩
  | .not a, x, sc, X, W, c, tk, h => by
    cases x <;> try simp only [mE, Bool.false_eq_true] at h
    rename_i o y pos
    cases o <;> try simp only [mE, Bool.false_eq_true] at h
    refine ⟨PEm (pe_not (soundE a c tk h).1) fun σ H Q ⟨L, f, r, hh, S, sl, p⟩ => ?_, PTm (pt_not (soundE a c tk h).2) fun σ H Q ⟨L, f, r, hh, S, sl, p⟩ => ?_⟩
    · unfold evE at p
      refine tE_of S sl ((p.bind S).mono fun d f1 h1 H1 l1 S1 p1 v rv => ?_)
      obtain ⟨b, eb, p2⟩ := p1.pureBind boolD_exc
      have := boolD_ok eb
      simp only at this
      subst this
      exact ⟨b, rv.blE, p2.here S1 _ (.bl _)⟩
    · unfold evE at p
      refine ⟨L, f, r, hh, S, sl, ?_⟩
      cases e : evE G a r hh with
      | ok q =>
        rw [e] at p
        simp only [Res.bind_ok] at p ⊢
        cases e2 : boolD q.1 with
        | ok k =>
          rw [e2] at p
          exact p
        | exc c xs h' => exact absurd e2 (boolD_exc _ _ _)
        | no =>
          rw [e2] at p
          exact p.elim
      | exc c xs h' =>
        rw [e] at p
        exact p
      | no =>
        rw [e] at p
        exact p.elim
  | .ife t a b, x, sc, X, W, c, tk, h => by
    cases x <;> try simp only [mE, Bool.and_eq_true, Bool.false_eq_true] at h
    obtain ⟨⟨h1, h2⟩, h3⟩ := h
    have st := (soundE t c tk h1).2
    refine ⟨PEm (pe_ifExp st (soundE a c tk h2).1 (soundE b c tk h3).1) fun σ H Q ⟨L, f, r, hh, S, sl, p⟩ => ?_, PTm (pt_ifExp st (soundE a c tk h2).2 (soundE b c tk h3).2) fun σ H Q ⟨L, f, r, hh, S, sl, p⟩ => ?_⟩
    · unfold evE at p
      refine ⟨L, f, r, hh, S, sl, ?_⟩
      cases e : evE G t r hh with
      | ok q =>
        rw [e] at p
        simp only [Res.bind_ok] at p ⊢
        cases e2 : boolD q.1 with
        | ok k =>
          rw [e2] at p
          intro f1 H1 l1 S1
          cases k with
          | true => exact iteT ⟨L, f1, r, q.2, S1, sl.mono S l1, PostR.later S S1 l1 p⟩
          | false => exact iteF ⟨L, f1, r, q.2, S1, sl.mono S l1, PostR.later S S1 l1 p⟩
        | exc c xs h' => exact absurd e2 (boolD_exc _ _ _)
        | no =>
          rw [e2] at p
          exact p.elim
      | exc c xs h' =>
        rw [e] at p
        exact p
      | no =>
        rw [e] at p
        exact p.elim
    · unfold evE at p
      refine ⟨L, f, r, hh, S, sl, ?_⟩
      cases e : evE G t r hh with
      | ok q =>
        rw [e] at p
        simp only [Res.bind_ok] at p ⊢
        cases e2 : boolD q.1 with
        | ok k =>
          rw [e2] at p
          intro f1 H1 l1 S1
          cases k with
          | true => exact iteT ⟨L, f1, r, q.2, S1, sl.mono S l1, PostR.later S S1 l1 p⟩
          | false => exact iteF ⟨L, f1, r, q.2, S1, sl.mono S l1, PostR.later S S1 l1 p⟩
        | exc c xs h' => exact absurd e2 (boolD_exc _ _ _)
        | no =>
          rw [e2] at p
          exact p.elim
      | exc c xs h' =>
        rw [e] at p
        exact p
      | no =>
        rw [e] at p
        exact p.elim
  | .ix a i, x, sc, X, W, c, tk, h => by
    cases x <;> try simp only [mE, Bool.and_eq_true, Bool.false_eq_true] at h
    obtain ⟨⟨h0, h1⟩, h2⟩ := h
    suffices pe : PE X _ (tE X.K ca W G _) from both pe rfl
    refine PEm (pe_ix ix_D (soundE a c tk h1).1 (soundE i c tk h2).1 (plain_ix h0)) fun σ H Q ⟨L, f, r, hh, S, sl, p⟩ => ?_
    unfold evE at p
    exact bin_go ixD_exc S sl p
  | .sl a lo hi, x, sc, X, W, c, tk, h => by
    obtain ⟨y, l, u, pp, pos, rfl, hq⟩ := inv_sl h
    simp only [Bool.and_eq_true] at hq
    obtain ⟨⟨h1, h2⟩, h3⟩ := hq
    suffices pe : PE X _ (tE X.K ca W G _) from both pe rfl
    refine PEm (pe_slice sl_D (soundE a c tk h1).1 (soundO lo c tk h2) (soundO hi c tk h3)) fun σ H Q ⟨L, f, r, hh, S, sl, p⟩ => ?_
    unfold evE at p
    refine tE_of S sl ((p.bind S).mono fun d f1 h1 H1 l1 S1 p1 v rv => ?_)
    refine ⟨L, f1, r, h1, S1, sl.mono S l1, (p1.bind S1).mono fun o f2 h2 H2 l2 S2 p2 => ?_⟩
    refine ⟨L, f2, r, h2, S2, (sl.mono S l1).mono S1 l2, (p2.bind S2).mono fun o2 f3 h3 H3 l3 S3 p3 => ?_⟩
    obtain ⟨z, ez, p4⟩ := p3.pureBind (slD_exc _ _ _ _)
    refine ⟨L, f3, h3, d, S3, (rv.mono S1 l2).mono S2 l3, ?_⟩
    have ez : slD h3 d o o2 = .ok z := ez
    simp only [ez]
    exact fun H' v l S' rv => p4 f3 H' l S' v rv
  | .isi a t, x, sc, X, W, c, tk, h => by
    obtain ⟨fn, pp, y, z, qq, pos, rfl, hq⟩ := inv_isi h
    simp only [Bool.and_eq_true] at hq
    obtain ⟨⟨h1, h2⟩, h3⟩ := hq
    obtain ⟨rfl, g1, g2, g3, g4⟩ := glName_of c h1 (by decide)
    obtain ⟨rfl, k1, k2, k3, k4⟩ := glName_of c h2 (by cases t <;> decide)
    suffices pe : PE X _ (tE X.K ca W G _) from both pe rfl
    have pt : PE X (.Name t.nm qq) (tC (.ty t.name)) := pe_bltn k1 k2 (by cases t <;> decide +kernel) rfl k4 k3
    refine PEm (pe_callB (c_isi t) g1 g2 (by decide +kernel) (pa_cons (soundE a c tk h3).1 (pa_cons pt pa_nil (by rfl)) (star_cons (mE_plain h3).1)) (by decide) (by decide) (star_cons (mE_plain h3).1) (by rfl)) fun σ H Q ⟨L, f, r, hh, S, sl, p⟩ => ?_
    unfold evE at p
    refine tE_of S sl ((p.bind S).mono fun d f1 h1 H1 l1 S1 p1 v rv => ?_)
    obtain ⟨z, ez, p2⟩ := p1.pureBind (isiD_exc _ _ _)
    refine ⟨v, rfl, L, f1, h1, [d], S1, .cons rv .nil, ?_⟩
    have ez : isiD h1 d t = .ok z := ez
    simp only [ez]
    exact fun H' v l S' rv => p2 f1 H' l S' v rv
  | .bcall g es, x, sc, X, W, c, tk, h => by
    obtain ⟨fn, pp, y, ys, pos, rfl, hq⟩ := inv_bcall h
    simp only [Bool.and_eq_true] at hq
    obtain ⟨h1, h2⟩ := hq
    have ha := soundEs es c tk h2
    obtain ⟨rfl, g1, g2, g3, g4⟩ := glName_of c h1 (by cases g <;> decide)
    suffices pe : PE X _ (tE X.K ca W G _) from both pe rfl
    have hst : starEach (y :: ys) X.env = (false, eval y X.env) :: starEach ys X.env := by
      cases es with
      | nil => simp [mEs] at h2
      | cons e es =>
        simp only [mEs, Bool.and_eq_true] at h2
        exact star_cons (mE_plain h2.1).1
    have hpl : (backTo pos (starEach ys X.env)).any (·.1) = false := by
      cases es with
      | nil => simp [mEs] at h2
      | cons e es =>
        simp only [mEs, Bool.and_eq_true] at h2
        exact mEs_star h2.2 pos
    have go : ∀ σ H Q, tE X.K ca W G (.bcall g es) σ H Q → tCB (rB X.K (bcallD g)) (tEs X.K ca W G es) σ H Q := fun σ H Q ⟨L, f, r, hh, S, sl, p⟩ => by
      unfold evE at p
      refine ⟨L, f, r, hh, S, sl, (p.bind S).mono fun ds f1 h1 H1 l1 S1 p1 vs rv => ?_⟩
      obtain ⟨z, ez, p2⟩ := p1.pureBind (bcallD_exc _ _ _)
      refine ⟨L, f1, h1, ds, S1, rv, ?_⟩
      have ez : bcallD g ds h1 = .ok z := ez
      simp only [ez]
      exact fun H' v l S' rv => p2 f1 H' l S' v rv
    cases g with
    | len => exact PEm (pe_callB c_len g1 g2 (by decide +kernel) ha g4 g3 hst hpl) go
    | abs => exact PEm (pe_callB c_abs g1 g2 (by decide +kernel) ha g4 g3 hst hpl) go
    | int => exact PEm (pe_callTy c_int g1 g2 (by decide +kernel) ha g4 g3 hst hpl) go
    | sum => exact PEm (pe_callB (c_sum c.calm) g1 g2 (by decide +kernel) ha g4 g3 hst hpl) go
    | all => exact PEm (pe_callB (c_all c.calm) g1 g2 (by decide +kernel) ha g4 g3 hst hpl) go
    | any => exact PEm (pe_callB (c_any c.calm) g1 g2 (by decide +kernel) ha g4 g3 hst hpl) go
  | .bmeth m a es, x, sc, X, W, c, tk, h => by
    obtain ⟨y, n, pp, xs, pos, rfl, hq⟩ := inv_bmeth h
    simp only [Bool.and_eq_true, decide_eq_true_eq] at hq
    obtain ⟨⟨⟨⟨⟨h1, rfl⟩, h3⟩, h4⟩, h5⟩, h6⟩ := hq
    have pa := (soundE a c tk h4).1
    have ha := soundEs es c tk h5
    suffices pe : PE X _ (tE X.K ca W G _) from both pe rfl
    have go : ∀ σ H Q, tE X.K ca W G (.bmeth m a es) σ H Q → tE X.K ca W G a σ H fun x H1 => tyV X.K (BM.ty m) x H1 ∧ tEs X.K ca W G es σ H1 fun vs H2 => rM X.K (bmethD m) x vs H2 Q := fun σ H Q ⟨L, f, r, hh, S, sl, p⟩ => by
      unfold evE at p
      refine tE_of S sl ((p.bind S).mono fun d f1 h1 H1 l1 S1 p1 v rv => ?_)
      cases hr : recvD m d with
      | false =>
        simp only [hr] at p1
        exact p1.elim
      | true =>
        simp only [hr, if_true] at p1
        refine ⟨recv_ty S1 rv hr, L, f1, r, h1, S1, sl.mono S l1, (p1.bind S1).mono fun ds f2 h2 H2 l2 S2 p2 vs rvs => ⟨L, f2, h2, d, ds, S2, rv.mono S1 l2, rvs, ?_⟩⟩
        have p3 : PostR X.K L f2 H2 ca (fun c d H' => W c d σ H') (bmethD m d ds h2) fun d f' _ H' => ∀ v, Rep X.K L f' H' v d → Q v H' := p2
        cases ez : bmethD m d ds h2 with
        | ok z =>
          rw [ez] at p3
          exact fun f' H' v l S' rv => p3 f' H' l S' v rv
        | exc c xs h' => exact absurd ez (bmethD_exc _ _ _ _ _ _ _)
        | no =>
          rw [ez] at p3
          exact p3.elim
    have hl : (pp.endLine == pos.line) = true := h3
    cases es with
    | nil =>
      cases xs with
      | cons _ _ => simp [mEs] at h5
      | nil =>
        have go0 : ∀ σ H Q, tE X.K ca W G (.bmeth m a .nil) σ H Q → tBM0 X.K (BM.ty m) (rM X.K (bmethD m)) (tE X.K ca W G a) σ H Q := fun σ H Q q => by
          obtain ⟨L, f, r, hh, S, sl, p⟩ := go σ H Q q
          refine tE_of S sl (p.mono fun d f1 h1 H1 l1 S1 k v rv => ?_)
          obtain ⟨k1, L2, f2, r2, h2, S2, sl2, p2⟩ := k v rv
          exact ⟨k1, p2.here S2 [] .nil⟩
        cases m with
        | join => exact PEm (pe_bm0 PySem.F.plainAttrs_str PySem.F.slot_str_join PySem.F.type_str_join m_join pa (base_of h1) hl) go0
        | append => exact PEm (pe_bm0 PySem.F.plainAttrs_list PySem.F.slot_list_append PySem.F.type_list_append m_append pa (base_of h1) hl) go0
        | pop => exact PEm (pe_bm0 PySem.F.plainAttrs_list PySem.F.slot_list_pop PySem.F.type_list_pop m_pop pa (base_of h1) hl) go0
    | cons e es =>
      cases xs with
      | nil => simp [mEs] at h5
      | cons x xs =>
        have hall := few_of (env := X.env) (pos := pos) h5
        have hfew : ((backTo pos (starEach (x :: xs) X.env)).all (fun x => !x.1) && (backToKw pos (keywordEach [] X.env)).all (fun x => x.1.isSome)
            && decide ((x :: xs).length + ([] : List Keyword).length + (if ([] : List Keyword).isEmpty then 0 else 1) < 30)) = true := by
          rw [hall]
          simp only [List.length_cons] at h6
          simp [backToKw, keywordEach]
          omega
        simp only [mEs, Bool.and_eq_true] at h5
        have hs := star_cons (xs := xs) (env := X.env) (mE_plain h5.1).1
        have hp := mEs_star (env := X.env) h5.2 pos
        cases m with
        | join => exact PEm (pe_bm PySem.F.plainAttrs_str PySem.F.slot_str_join PySem.F.type_str_join m_join pa ha (base_of h1) hfew hl hs hp) go
        | append => exact PEm (pe_bm PySem.F.plainAttrs_list PySem.F.slot_list_append PySem.F.type_list_append m_append pa ha (base_of h1) hfew hl hs hp) go
        | pop => exact PEm (pe_bm PySem.F.plainAttrs_list PySem.F.slot_list_pop PySem.F.type_list_pop m_pop pa ha (base_of h1) hfew hl hs hp) go
  | .call k es, x, sc, X, W, c, tk, h => by
    obtain ⟨y, pp, xs, pos, rfl, hq⟩ := inv_call h
    simp only [Bool.and_eq_true, decide_eq_true_eq] at hq
    obtain ⟨⟨⟨h1, h2⟩, h3⟩, h4⟩ := hq
    obtain ⟨a1, a2, a3⟩ := okNm_of h3
    have ha := soundEs es c tk h4
    suffices pe : PE X _ (tE X.K ca W G _) from both pe rfl
    cases eg : G.fn k with
    | none =>
      exact ⟨fun pins s σ H Q I ⟨L, f, r, hh, S, sl, p⟩ => by
        unfold evE at p
        rw [eg] at p
        exact p.elim⟩
    | some ng =>
      obtain ⟨n, g⟩ := ng
      obtain ⟨fa, fd, ps, e1, e2, e3, e5, e4⟩ := c.gam.fn k n g y eg h1
      have go : ∀ σ H Q, tE X.K ca W G (.call k es) σ H Q → tCallS (spG X.K ca n g) (WE W) (tEs X.K ca W G es) σ H Q := fun σ H Q ⟨L, f, r, hh, S, sl, p⟩ => by
        unfold evE at p
        rw [eg] at p
        refine ⟨L, f, r, hh, S, sl, (p.bind S).mono fun ds f1 h1 H1 l1 S1 p1 vs rv => ?_⟩
        by_cases hn : ds.length = n
        · rw [if_pos hn] at p1
          exact ⟨by rw [rv.length]; exact hn, L, f1, h1, ds, S1, rv, p1⟩
        · rw [if_neg hn] at p1
          exact p1.elim
      cases es with
      | nil =>
        cases xs with
        | cons _ _ => simp [mEs] at h4
        | nil =>
          refine PEm (pe_callS0 e4 c.room (isGl_gl c h2) e1 e2 e3 (fun σ => passAt tk σ) a1) fun σ H Q q => ?_
          · have q' := go σ H Q q
            obtain ⟨L, f, r, hh, S, sl, p⟩ := q'
            exact p.here S [] .nil
      | cons e es =>
        cases xs with
        | nil => simp [mEs] at h4
        | cons x xs =>
          simp only [mEs, Bool.and_eq_true] at h4
          exact PEm (pe_callS e4 c.room (isGl_gl c h2) e1 e2 e3 (fun σ => passAt tk σ) ha a1 (star_cons (mE_plain h4.1).1) (mEs_star h4.2 pos)) go
  | .lc new elt t it ifs own, x, sc, X, W, c, tk, h => by
    obtain ⟨e, t2, iter, fs, scope, pos, rfl, hq⟩ := inv_lc h
    simp only [Bool.and_eq_true, decide_eq_true_eq] at hq
    obtain ⟨⟨⟨⟨⟨⟨⟨h1, h2⟩, h3⟩, h4⟩, h5⟩, h6⟩, h7⟩, h8⟩ := hq
    suffices pe : PE X _ (tE X.K ca W G _) from both pe rfl
    have ok : BlkOk X.N X.env.scope scope (own.map fun i => (N.getD i Str.empty, i)) := by
      rw [c.N, c.sc]
      exact blkOk_by h2
    refine PEm (pe_lc (own := own.map fun i => (N.getD i Str.empty, i)) (g := gD X.K t) (tt := tTs X.K ca (fun _ _ _ _ => False) G ifs) (te := tE X.K ca (fun _ _ _ _ => False) G elt) c.calm c.nd (soundI it c tk h4 t2) ok (fun s H C cl fp => soundTg (X := X.blk s H scope (compEnvC scope cl C X.env) fp) (C := ⟨N, nm⟩) (k := false) c.N c.nd (by show relS scope X.env.scope = _; rw [c.sc]) c.calm (fun z => absurd z Bool.false_ne_true) t t2 h5)
      (fun s H C cl fp => soundTs ifs (blkCOk c s H scope C cl fp) takes0 h7 h6) (fun s H C cl fp => (soundE elt (blkCOk c s H scope C cl fp) takes0 h8).1) (mI_set h4)) fun σ H Q q => ?_
    have e : (own.map fun i => (N.getD i Str.empty, i)).map (·.2) = own := by rw [List.map_map]; exact List.map_id own
    rw [e]
    exact lc_go c new elt t it ifs own h1 q
theorem soundEs : ∀ (es : Exs) {xs : List Expr} {sc : Scope} {X : Cx} {W : WX}, COk nm ca G lv N sc X → Takes X W → mEs ⟨N, nm⟩ sc es xs = true → PA X xs (tEs X.K ca W G es)
  | .nil, [], sc, X, W, c, tk, h => PAm pa_nil fun σ H Q ⟨L, f, r, hh, S, sl, p⟩ => p.here S [] .nil
  | .nil, _ :: _, sc, X, W, c, tk, h => by simp [mEs] at h
  | .cons e es, [], sc, X, W, c, tk, h => by simp [mEs] at h
  | .cons e es, x :: xs, sc, X, W, c, tk, h => by
    simp only [mEs, Bool.and_eq_true] at h
    refine PAm (pa_cons (soundE e c tk h.1).1 (soundEs es c tk h.2) (star_cons (mE_plain h.1).1)) fun σ H Q ⟨L, f, r, hh, S, sl, p⟩ => ?_
    unfold evEs at p
    refine tE_of S sl ((p.bind S).mono fun d f1 h1 H1 l1 S1 p1 v rv => ?_)
    refine ⟨L, f1, r, h1, S1, sl.mono S l1, (p1.bind S1).mono fun ds f2 h2 H2 l2 S2 p2 vs rvs => ?_⟩
    exact p2.here S2 _ (.cons (rv.mono S1 l2) rvs)
theorem soundO : ∀ (o : Ox) {x : Option Expr} {sc : Scope} {X : Cx} {W : WX}, COk nm ca G lv N sc X → Takes X W → mO ⟨N, nm⟩ sc o x = true → PO X x (tO X.K ca W G o)
  | .none, none, sc, X, W, c, tk, h => POm po_none fun σ H Q ⟨L, f, r, hh, S, sl, p⟩ => p.here S
  | .none, some _, sc, X, W, c, tk, h => by simp [mO] at h
  | .some _, none, sc, X, W, c, tk, h => by simp [mO] at h
  | .some e, some x, sc, X, W, c, tk, h => by
    simp only [mO] at h
    refine POm (po_some (soundE e c tk h).1) fun σ H Q ⟨L, f, r, hh, S, sl, p⟩ => ?_
    unfold evO at p
    refine tE_of S sl ((p.bind S).mono fun d f1 h1 H1 l1 S1 p1 v rv => ?_)
    cases d <;> simp only at p1 <;> try exact p1.elim
    exact ⟨_, rv.intE, p1.here S1⟩
theorem soundTs : ∀ (es : Exs) {xs : List Expr} {sc : Scope} {X : Cx} {W : WX}, COk nm ca G lv N sc X → Takes X W → mEs ⟨N, nm⟩ sc es xs = true → xs.length ≤ 1 → PTs X xs (tTs X.K ca W G es)
  | .nil, [], sc, X, W, c, tk, h, _ => PTsm pts_nil fun σ H Q ⟨L, f, r, hh, S, sl, p⟩ => p.here S
  | .nil, _ :: _, sc, X, W, c, tk, h, _ => by simp [mEs] at h
  | .cons e es, [], sc, X, W, c, tk, h, _ => by simp [mEs] at h
  | .cons e es, [x], sc, X, W, c, tk, h, _ => by
    simp only [mEs, Bool.and_eq_true] at h
    refine PTsm (pts_one (soundE e c tk h.1).2) fun σ H Q ⟨L, f, r, hh, S, sl, p⟩ => ?_
    cases es with
    | cons _ _ => simp [mEs] at h
    | nil =>
      unfold evTs at p
      refine ⟨L, f, r, hh, S, sl, ?_⟩
      cases e1 : evE G e r hh with
      | ok q =>
        rw [e1] at p
        simp only [Res.bind_ok] at p ⊢
        cases e2 : boolD q.1 with
        | ok k =>
          rw [e2] at p
          cases k <;> exact p
        | exc c xs h' => exact absurd e2 (boolD_exc _ _ _)
        | no =>
          rw [e2] at p
          exact p.elim
      | exc c xs h' =>
        rw [e1] at p
        exact p
      | no =>
        rw [e1] at p
        exact p.elim
  | .cons e es, x :: y :: xs, sc, X, W, c, tk, h, hl => by simp at hl
theorem soundI : ∀ (it : Z9.It) {x : Expr} {sc : Scope} {X : Cx} {W : WX}, COk nm ca G lv N sc X → Takes X W → mI ⟨N, nm⟩ sc it x = true → ∀ tg, PI X tg x (tI X.K ca W G it)
  | .seq e, x, sc, X, W, c, tk, h, tg => by
    simp only [mI] at h
    have pe := (soundE e c tk h).1
    refine ⟨fun pins s σ H R I ⟨L, f, r, hh, S, sl, p⟩ => ?_⟩
    unfold evI at p
    cases e1 : evE G e r hh with
    | no =>
      rw [e1] at p
      exact p.elim
    | exc c xs h' =>
      rw [e1] at p
      exact (pi_list pe).run pins s σ H R I (tE_of S sl (by rw [e1]; exact p))
    | ok q =>
      rw [e1] at p
      simp only [Res.bind_ok] at p
      obtain ⟨d, h1⟩ := q
      cases d <;> simp only at p <;> try exact p.elim
      · rename_i s'
        refine (pi_str pe).run pins s σ H R I (tE_of S sl (by
          rw [e1]
          intro f1 H1 l1 S1 v rv
          obtain ⟨rfl, o, _⟩ := rv.signs
          exact ⟨_, rfl, p f1 H1 l1 S1 _ (walkD_str o)⟩))
      · refine (pi_tup pe).run pins s σ H R I (tE_of S sl (by
          rw [e1]
          intro f1 H1 l1 S1 v rv
          obtain ⟨a, vs, rfl, ea, rr⟩ := rv.seqT
          exact ⟨a, rfl, ⟨vs, ea⟩, p f1 H1 l1 S1 _ (walkD_tup S1 ea rr)⟩))
      · refine (pi_list pe).run pins s σ H R I (tE_of S sl (by
          rw [e1]
          intro f1 H1 l1 S1 v rv
          obtain ⟨a, vs, rfl, ea, _, nf, rr⟩ := rv.seqL
          exact ⟨a, rfl, ⟨vs, .of ea⟩, p f1 H1 l1 S1 _ (walkD_list S1 ea nf rr)⟩))
  | .range e, x, sc, X, W, c, tk, h, tg => by
    obtain ⟨fn, pp, y, pos, rfl, hq⟩ := inv_range h
    simp only [Bool.and_eq_true] at hq
    obtain ⟨rfl, g1, g2, g3, g4⟩ := glName_of c hq.1 (by decide)
    have pe := (soundE e c tk hq.2).1
    have hs : starEach [y] X.env = [(false, eval y X.env)] := star_cons (mE_plain hq.2).1
    refine ⟨fun pins s σ H R I ⟨L, f, r, hh, S, sl, p⟩ => (pi_range1 g1 g2 (pa_cons pe pa_nil hs) hs).run pins s σ H R I ?_⟩
    unfold evI at p
    refine tE_of S sl ((p.bind S).mono fun d f1 h1 H1 l1 S1 p1 v rv => ?_)
    cases d <;> simp only at p1 <;> try exact p1.elim
    rename_i n
    cases hb : (decide (-1099511627776 < n) && decide (n < 1099511627776)) with
    | false =>
      rw [hb] at p1
      exact p1.elim
    | true =>
      rw [hb] at p1
      simp only [Bool.and_eq_true, decide_eq_true_eq] at hb
      refine ⟨n, by rw [rv.intE], by omega, by omega, ?_⟩
      exact (p1.here S1) _ walkD_range
  | .range2 a b, x, sc, X, W, c, tk, h, tg => by
    obtain ⟨fn, pp, y, z, pos, rfl, hq⟩ := inv_range2 h
    simp only [Bool.and_eq_true] at hq
    obtain ⟨rfl, g1, g2, g3, g4⟩ := glName_of c hq.1.1 (by decide)
    have pa := (soundE a c tk hq.1.2).1
    have pb := (soundE b c tk hq.2).1
    have hs2 : starEach [z] X.env = [(false, eval z X.env)] := star_cons (mE_plain hq.2).1
    have hs : starEach [y, z] X.env = [(false, eval y X.env), (false, eval z X.env)] := by rw [star_cons (mE_plain hq.1.2).1, hs2]
    refine ⟨fun pins s σ H R I ⟨L, f, r, hh, S, sl, p⟩ => (pi_range2 g1 g2 (pa_cons pa (pa_cons pb pa_nil hs2) (star_cons (mE_plain hq.1.2).1)) hs hs2).run pins s σ H R I ?_⟩
    unfold evI at p
    refine tE_of S sl ((p.bind S).mono fun d f1 h1 H1 l1 S1 p1 v rv => ?_)
    refine tE_of S1 (sl.mono S l1) ((p1.bind S1).mono fun d2 f2 h2 H2 l2 S2 p2 v2 rv2 => ?_)
    cases d <;> simp only at p2 <;> try exact p2.elim
    cases d2 <;> simp only at p2 <;> try exact p2.elim
    rename_i m n
    cases hb : (decide (-1099511627776 < m) && decide (m < 1099511627776) && decide (-1099511627776 < n) && decide (n < 1099511627776)) with
    | false =>
      rw [hb] at p2
      exact p2.elim
    | true =>
      rw [hb] at p2
      simp only [Bool.and_eq_true, decide_eq_true_eq] at hb
      refine ⟨m, n, by rw [rv.intE, rv2.intE], ⟨by omega, by omega, by omega, by omega⟩, ?_⟩
      exact (p2.here S2) _ walkD_range
  | .enum e, x, sc, X, W, c, tk, h, tg => by simp [mI] at h
  | .zip a b, x, sc, X, W, c, tk, h, tg => by simp [mI] at h
theorem soundA (k : Bool) : ∀ (es : Exs) {xs : List Expr} {sc : Scope} {X : Cx} {W : WX}, COk nm ca G lv N sc X → Takes X W → mEs ⟨N, nm⟩ sc es xs = true → (∀ pos, PE X (.BoolOp (if k then .And else .Or) xs pos) (tA X.K ca W G k es)) ∧ ∀ pos, PW X (.BoolOp (if k then .And else .Or) xs pos) (tAT X.K ca W G k es)
  | .nil, [], sc, X, W, c, tk, h => ⟨fun pos => ⟨fun pins s σ H Q I ⟨L, f, r, hh, S, sl, p⟩ => p.elim⟩, fun pos => ⟨fun wh pins s σ H Q I ⟨L, f, r, hh, S, sl, p⟩ => p.elim⟩⟩
  | .nil, _ :: _, sc, X, W, c, tk, h => by simp [mEs] at h
  | .cons e es, [], sc, X, W, c, tk, h => by simp [mEs] at h
  | .cons e .nil, x :: xs, sc, X, W, c, tk, h => by
    cases xs with
    | cons _ _ => simp [mEs] at h
    | nil =>
      simp only [mEs, Bool.and_eq_true] at h
      have se := soundE e c tk h.1
      have go : ∀ σ H Q, tA X.K ca W G k (.cons e .nil) σ H Q → tE X.K ca W G e σ H Q := fun σ H Q ⟨L, f, r, hh, S, sl, p⟩ => by
        unfold evA at p
        refine tE_of S sl ((p.bind S).mono fun d f1 h1 H1 l1 S1 p1 v rv => ?_)
        obtain ⟨b, eb, p2⟩ := p1.pureBind boolD_exc
        have := boolD_ok eb
        simp only at this
        subst this
        exact p2.here S1 v rv
      have goT : ∀ σ H Q, tAT X.K ca W G k (.cons e .nil) σ H Q → tT X.K ca W G e σ H Q := fun σ H Q ⟨L, f, r, hh, S, sl, p⟩ => by
        unfold evA at p
        refine ⟨L, f, r, hh, S, sl, ?_⟩
        cases e1 : evE G e r hh with
        | ok q =>
          rw [e1] at p
          simp only [Res.bind_ok] at p ⊢
          cases e2 : boolD q.1 with
          | ok k =>
            rw [e2] at p
            exact p
          | exc c xs h' => exact absurd e2 (boolD_exc _ _ _)
          | no =>
            rw [e2] at p
            exact p.elim
        | exc c xs h' =>
          rw [e1] at p
          exact p
        | no =>
          rw [e1] at p
          exact p.elim
      exact ⟨fun pos => PEm (pe_one se.1) go, fun pos => by
        cases k with
        | true => exact PWm (pw_and1 se.2) goT
        | false => exact PWm (pw_or1 se.2) goT⟩
  | .cons e (.cons e2 es), x :: xs, sc, X, W, c, tk, h => by
    cases xs with
    | nil => simp [mEs] at h
    | cons y xs =>
      have h' := h
      simp only [mEs, Bool.and_eq_true] at h
      have se := soundE e c tk h.1
      have sr := soundA k (.cons e2 es) (xs := y :: xs) c tk (by simp only [mEs, Bool.and_eq_true]; exact h.2)
      have goT : ∀ σ H Q, tAT X.K ca W G k (.cons e (.cons e2 es)) σ H Q → tT X.K ca W G e σ H fun b H1 => if b = k then tAT X.K ca W G k (.cons e2 es) σ H1 Q else Q b H1 := fun σ H Q ⟨L, f, r, hh, S, sl, p⟩ => by
        unfold evA at p
        refine ⟨L, f, r, hh, S, sl, ?_⟩
        cases e1 : evE G e r hh with
        | ok q =>
          rw [e1] at p
          simp only [Res.bind_ok] at p ⊢
          cases e3 : boolD q.1 with
          | ok b =>
            rw [e3] at p
            simp only [Res.bind_ok] at p
            intro f1 H1 l1 S1
            by_cases hb : b = k
            · rw [if_pos hb] at p ⊢
              exact ⟨L, f1, r, q.2, S1, sl.mono S l1, PostR.later S S1 l1 p⟩
            · rw [if_neg hb] at p ⊢
              exact p f1 H1 l1 S1
          | exc c xs h' => exact absurd e3 (boolD_exc _ _ _)
          | no =>
            rw [e3] at p
            exact p.elim
        | exc c xs h' =>
          rw [e1] at p
          exact p
        | no =>
          rw [e1] at p
          exact p.elim
      cases k with
      | true =>
        refine ⟨fun pos => PEm (pe_and se.1 (sr.1 pos)) fun σ H Q ⟨L, f, r, hh, S, sl, p⟩ => ?_, fun pos => PWm (pw_and se.2 (sr.2 pos)) fun σ H Q q => ?_⟩
        · obtain ⟨L', f', r', h2, S', sl', p'⟩ := and_go (es2 := es) rfl S sl p
          refine tE_of S' sl' (p'.mono fun d f1 h1 H1 l1 S1 kk v rv => ?_)
          obtain ⟨b, rfl, q2⟩ := kk v rv
          refine ⟨b, rfl, ?_⟩
          cases b <;> exact q2
        · obtain ⟨L', f', r', h2, S', sl', p'⟩ := goT σ H Q q
          refine ⟨L', f', r', h2, S', sl', p'.mono fun b f1 h1 H1 l1 S1 kk => ?_⟩
          cases b <;> exact kk
      | false =>
        refine ⟨fun pos => PEm (pe_or se.1 (sr.1 pos)) fun σ H Q ⟨L, f, r, hh, S, sl, p⟩ => ?_, fun pos => PWm (pw_or se.2 (sr.2 pos)) fun σ H Q q => ?_⟩
        · obtain ⟨L', f', r', h2, S', sl', p'⟩ := and_go (es2 := es) rfl S sl p
          refine tE_of S' sl' (p'.mono fun d f1 h1 H1 l1 S1 kk v rv => ?_)
          obtain ⟨b, rfl, q2⟩ := kk v rv
          refine ⟨b, rfl, ?_⟩
          cases b <;> exact q2
        · obtain ⟨L', f', r', h2, S', sl', p'⟩ := goT σ H Q q
          refine ⟨L', f', r', h2, S', sl', p'.mono fun b f1 h1 H1 l1 S1 kk => ?_⟩
          cases b <;> exact kk
end
end
end Z9

set_option Elab.async false
set_option linter.all false
set_option maxRecDepth 100000
set_option maxHeartbeats 16000000
/-! E11: statements. -/
namespace Z9
open PySem PySem.Spec PyProof.Rows L2

/-! ### statements against the text -/
def isComp : Expr → Bool
  | .ListComp .. => true
  | .SetComp .. => true
  | .DictComp .. => true
  | _ => false
def isTup : Expr → Bool
  | .Tuple .. => true
  | _ => false
/-- a pair on the right that is stored in order -/
def noSwap (ts : List Expr) : Expr → Bool
  | .Tuple vs _ _ => !(ts.length == 2 || ts.length == 3) || vs.all (foldedForSure 8)
  | _ => true
theorem noSwap_of {ts : List Expr} {k p} {v : Expr} {env : PySem.Env} (h : noSwap ts v = true) : swappedStores [.Tuple ts k p] v env = pure none := by
  cases v with
  | Tuple vs k2 p2 =>
    simp only [noSwap, Bool.or_eq_true] at h
    show (if (!(ts.length == 2 || ts.length == 3) || vs.length != ts.length || env.blockKind != .function) = true then (pure none : Sem (Option (List Str))) else _) = _
    split
    · rfl
    · rename_i hn
      have hf : vs.all (foldedForSure 8) = true := by
        rcases h with h | h
        · exact absurd (by rw [h]; rfl) hn
        · exact h
      simp only [pure_bind]
      split
      · rfl
      · split
        · rfl
        · simp only [hf, if_true]
  | _ => rfl
/-- two plain local names of one row, a pair of which something is reckoned -/
def parOk (sc : Scope) (x y : Str) (p q : Pos) (u v : Expr) : Bool := (match sc.kind with | .function => true | _ => false) && decide (sc.names.lookup x = some .local) && decide (sc.names.lookup y = some .local) && q.line == p.line && !(x == y) && !([u, v].all (foldedForSure 8)) && !([u, v].all (constantsAlone 8))
theorem parOk_of {sc : Scope} {x y : Str} {p q : Pos} {k k2 pt pt2} {u v : Expr} {env : PySem.Env} (hsc : env.scope = sc) (h : parOk sc x y p q u v = true) (hu : ∀ a b, u ≠ .Starred a b) (hv : ∀ a b, v ≠ .Starred a b) :
    swappedStores [.Tuple [.Name x p, .Name y q] k pt] (.Tuple [u, v] k2 pt2) env = pure (some [x, y]) := by
  simp only [parOk, Bool.and_eq_true, decide_eq_true_eq, Bool.not_eq_true', beq_iff_eq] at h
  obtain ⟨⟨⟨⟨⟨⟨h1, h2⟩, h3⟩, h4⟩, h5⟩, h6⟩, h7⟩ := h
  have hk : sc.kind = .function := by
    split at h1
    · assumption
    · cases h1
  have bk : env.blockKind = .function := by
    unfold Env.blockKind
    rw [hsc, hk]
    rfl
  have hx : env.kindOf x = some .local := by rw [Env.kindOf, hsc]; exact h2
  have hy : env.kindOf y = some .local := by rw [Env.kindOf, hsc]; exact h3
  have e5 : (y == x) = false := by
    cases hxy : (y == x) with
    | false => rfl
    | true =>
      have := eq_of_beq hxy
      subst this
      rw [beq_self_eq_true] at h5
      cases h5
  have st : ([u, v].any fun | .Starred .. => true | _ => false) = false := by
    cases u <;> first | exact absurd rfl (hu _ _) | (cases v <;> first | exact absurd rfl (hv _ _) | rfl)
  unfold swappedStores
  simp only [pure_bind, List.length_cons, List.length_nil, bk, st, h6, h7, List.head?_cons, Option.map_some, Option.getD_some, List.filterMap_cons, List.filterMap_nil, Expr.pos, hx, hy, h4, beq_self_eq_true, Bool.and_self, if_true, Bool.false_eq_true, if_false]
  simp [List.eraseDups, List.eraseDupsBy, List.eraseDupsBy.loop, e5, h5]
def nilBoth : Exs → List Expr → Bool
  | .nil, [] => true
  | _, _ => false
def notNil {α : Type} : List α → Bool
  | [] => false
  | _ => true
/-- a statement of an except suite -/
def hotS : Sm → Bool
  | .set _ (.con _) => true
  | .ret (.con _) => true
  | .pass => true
  | _ => false
def hotSs : Sms → Bool
  | .nil => true
  | .cons s ss => hotS s && hotSs ss
mutual
def mS (C : Mc) (sc : Scope) : Sm → Stmt → Bool
  | .set i e, .Assign [.Name x _] v _ => decide (C.N[i]? = some x) && okNm x && isSt true sc x && mE C sc e v
  | .par i j es, .Assign [.Tuple [.Name x p, .Name y q] _ _] (.Tuple [u, v] _ _) _ => decide (i ≠ j) && decide (C.N[i]? = some x) && decide (C.N[j]? = some y) && okNm x && okNm y && parOk sc x y p q u v && mEs C sc es [u, v]
  | .asg t e, .Assign [.Tuple ts k p] v _ => mT C true sc t (.Tuple ts k p) && noSwap ts v && !isComp v && mE C sc e v
  | .seti o i e, .Assign [.Subscript a b _] v _ => noSlice b && !isComp v && mE C sc o a && mE C sc i b && mE C sc e v
  | .aug i o e, .AugAssign (.Name x _) o' v _ => decide (o = o') && decide (o = .Add) && decide (C.N[i]? = some x) && okNm x && isSt true sc x && mE C sc e v
  | .expr e, .Expr v _ => !isComp v && mE C sc e v
  | .ret e, .Return (some v) _ => mE C sc e v
  | .retn, .Return none _ => true
  | .iff c a b, .If x y z _ => mE C sc c x && mSs C sc a y && mSs C sc b z
  | .forr t it b, .For tg iter body [] _ => mT C true sc t tg && mI C sc it iter && mSs C sc b body
  | .whil c b, .While x body [] _ => mE C sc c x && mSs C sc b body
  | .brk, .Break _ => true
  | .cont, .Continue _ => true
  | .pass, .Pass _ => true
  | .rais k es, .Raise (some (.Call (.Name x _) xs [] _)) none _ => decide (C.nm[k]? = some x) && isGl sc x && okNm x && nilBoth es xs
  | .tryy b hs, .Try body hds [] [] _ => notNil hds && mSs C sc b body && mH C sc hs hds
  | _, _ => false
def mSs (C : Mc) (sc : Scope) : Sms → List Stmt → Bool
  | .nil, [] => true
  | .cons s ss, x :: xs => mS C sc s x && mSs C sc ss xs
  | _, _ => false
def mH (C : Mc) (sc : Scope) : Hds → List ExceptHandler → Bool
  | .nil, [] => true
  | .cons k b hs, .ExceptHandler (some (.Name x _)) none suite _ :: hds => decide (C.nm[k]? = some x) && isGl sc x && okNm x && hotSs b && notNil suite && mSs C sc b suite && mH C sc hs hds
  | _, _ => false
end

/-! ### what a statement asks -/
def PostS (K : PySem.W.Frag) (L : Addr → Prop) (f : List Addr) (H : Hp) (ca : Nat → Value) (W : WX) (D : Ends) (res : Res Out) : Prop :=
  match res with
  | .ok (.nx r h) => ∀ (f' : List Addr) (H' : Hp) (σ' : L2.St), Le f H f' H' → SRel K L f' h H' → SlR K L f' H' r σ' → D.nx σ' H'
  | .ok (.rt d h) => ∀ (f' : List Addr) (H' : Hp) (v : V), Le f H f' H' → SRel K L f' h H' → Rep K L f' H' v d → D.rt v H'
  | .ok (.bk r h) => ∀ (f' : List Addr) (H' : Hp) (σ' : L2.St), Le f H f' H' → SRel K L f' h H' → SlR K L f' H' r σ' → D.bk σ' H'
  | .ok (.ct r h) => ∀ (f' : List Addr) (H' : Hp) (σ' : L2.St), Le f H f' H' → SRel K L f' h H' → SlR K L f' H' r σ' → D.ct σ' H'
  | .ok (.ex c _ r h) => ∀ (f' : List Addr) (H' : Hp) (σ' : L2.St) (dd : Option Addr), Le f H f' H' → SRel K L f' h H' → SlR K L f' H' r σ' → W (ca c) dd σ' H'
  | _ => False
section
variable {K : PySem.W.Frag} {L : Addr → Prop} {f f' : List Addr} {h h' : Hh} {H H' : Hp} {ca : Nat → Value} {W : WX} {D : Ends}
theorem PostS.later {res : Res Out} (S : SRel K L f h H) (S' : SRel K L f' h' H') (l : Le f H f' H') (p : PostS K L f H ca W D res) : PostS K L f' H' ca W D res := by
  cases res with
  | ok o => cases o with
    | nx => exact fun f2 H2 σ' l2 S2 => p f2 H2 σ' (Le.trans S S' l l2) S2
    | rt => exact fun f2 H2 σ' l2 S2 => p f2 H2 σ' (Le.trans S S' l l2) S2
    | bk => exact fun f2 H2 σ' l2 S2 => p f2 H2 σ' (Le.trans S S' l l2) S2
    | ct => exact fun f2 H2 σ' l2 S2 => p f2 H2 σ' (Le.trans S S' l l2) S2
    | ex => exact fun f2 H2 σ' dd l2 S2 => p f2 H2 σ' dd (Le.trans S S' l l2) S2
  | exc => exact p
  | no => exact p
theorem PostS.bs {α : Type} {m : Res (α × Hh)} {r : Z9.Env} {σ : L2.St} {g : α × Hh → Res Out} (S : SRel K L f h H) (sl : SlR K L f H r σ) (p : PostS K L f H ca W D (m.bs r g)) :
    PostR K L f H ca (fun c d H' => W c d σ H') m fun a f1 h1 H1 => PostS K L f1 H1 ca W D (g (a, h1)) := by
  cases m with
  | ok q => exact fun f1 H1 l1 S1 => PostS.later S S1 l1 p
  | exc c xs h' => exact fun f1 H1 dd l1 S1 => p f1 H1 σ dd l1 S1 (sl.mono S l1)
  | no => exact p
theorem PostS.pureBs {γ : Type} {m : Res γ} {r : Z9.Env} {g : γ → Res Out} (p : PostS K L f H ca W D (m.bs r g)) (hm : ∀ c xs h', m ≠ .exc c xs h') : ∃ z, m = .ok z ∧ PostS K L f H ca W D (g z) := by
  cases m with
  | ok z => exact ⟨z, rfl, p⟩
  | exc c xs h' => exact absurd rfl (hm _ _ _)
  | no => exact p.elim
theorem PostS.here {r : Z9.Env} {σ : L2.St} (S : SRel K L f h H) (sl : SlR K L f H r σ) (p : PostS K L f H ca W D (.ok (.nx r h))) : D.nx σ H := p f H σ .refl S sl
end
section
variable (K : PySem.W.Frag) (ca : Nat → Value) (W : WX) (G : Gam)
def tS (s : Sm) : TS := fun D σ H => ∃ (L : Addr → Prop) (f : List Addr) (r : Z9.Env) (h : Hh), SRel K L f h H ∧ SlR K L f H r σ ∧ PostS K L f H ca W D (evS G s r h)
def tSs (s : Sms) : TS := fun D σ H => ∃ (L : Addr → Prop) (f : List Addr) (r : Z9.Env) (h : Hh), SRel K L f h H ∧ SlR K L f H r σ ∧ PostS K L f H ca W D (evSs G s r h)
end
theorem PSm {X : Cx} {e : Stmt} {t t' : TS} (h : PS X e t) (k : ∀ D σ H, t' D σ H → t D σ H) : PS X e t' := ⟨fun pins s σ H D I q => h.run pins s σ H D I (k D σ H q)⟩
theorem PSsm {X : Cx} {e : List Stmt} {t t' : TS} (h : PSs X e t) (k : ∀ D σ H, t' D σ H → t D σ H) : PSs X e t' := ⟨fun pins s σ H D I q => h.run pins s σ H D I (k D σ H q)⟩

mutual
theorem setT_exc : ∀ (t : Tg) (d : D) (r : Z9.Env) (c : Nat) (xs : List D) (h' : Hh), setT t d r ≠ .exc c xs h'
  | .var i, d, r, c, xs, h' => by simp [setT]
  | .tup ts, d, r, c, xs, h' => by
    simp only [setT]
    split
    · exact setTs_exc ts _ _ _ _ _
    · exact setTs_exc ts _ _ _ _ _
    · simp
theorem setTs_exc : ∀ (t : Tgs) (d : List D) (r : Z9.Env) (c : Nat) (xs : List D) (h' : Hh), setTs t d r ≠ .exc c xs h'
  | .nil, [], r, c, xs, h' => by simp [setTs]
  | .nil, _ :: _, r, c, xs, h' => by simp [setTs]
  | .cons t ts, [], r, c, xs, h' => by simp [setTs]
  | .cons t ts, d :: ds, r, c, xs, h' => by
    simp only [setTs]
    exact bindC_exc (setT_exc t d r) (fun a => setTs_exc ts ds a) c xs h'
end
theorem setiD_exc (o i v : D) (h : Hh) : ∀ c xs h', setiD o i v h ≠ .exc c xs h' := by
  intro c xs h'
  unfold setiD
  split
  · split
    · split <;> simp
    · simp
  · simp
/-- o[i] = v, by values -/
def rSetD' (K : PySem.W.Frag) : TSet := fun o i v H Q => ∃ (L : Addr → Prop) (f : List Addr) (h : Hh) (d e w : D), SRel K L f h H ∧ Rep K L f H o d ∧ Rep K L f H i e ∧ Rep K L f H v w ∧
  match setiD d e w h with
  | .ok h' => ∀ (f' : List Addr) (H' : Hp), Le f H f' H' → SRel K L f' h' H' → Q H'
  | _ => False
theorem set_D {X : Cx} : PSet X (rSetD' X.K) := by
  intro pins s σ H o i v ov iv u Q I ro ri rv hh
  obtain ⟨L, f, h, d, e, w, S, rd, re, rw', q⟩ := hh
  obtain ⟨h', eh, q⟩ : ∃ h', setiD d e w h = .ok h' ∧ ∀ (f' : List Addr) (H' : Hp), Le f H f' H' → SRel X.K L f' h' H' → Q H' := by
    cases k : setiD d e w h with
    | ok h' =>
      rw [k] at q
      exact ⟨h', rfl, q⟩
    | exc c xs h' =>
      rw [k] at q
      exact q.elim
    | no =>
      rw [k] at q
      exact q.elim
  unfold setiD at eh
  split at eh
  · rename_i r j
    split at eh
    · rename_i ys ei
      split at eh
      · rename_i hj
        cases eh
        obtain ⟨a, ds, ws, e1, e2, e3, rr⟩ := S.obj r _ ei
        cases e2
        cases rd with
        | ref e4 =>
          rw [e1] at e4
          cases e4
          have hi : r < h.length := (List.getElem?_eq_some_iff.mp ei).1
          obtain ⟨l, S'⟩ := S.change hi e1 (RepL.set rw' j.toNat rr)
          refine set_list pins s σ H _ _ v ov iv u Q I ro ri rv ⟨a, ws, j, j.toNat, rfl, re.intE, e3, ?_, q _ _ l S'⟩
          show (if 0 ≤ j then (if j < ws.length then some j.toNat else none) else _) = _
          rw [if_pos hj.1, if_pos (by rw [rr.length]; exact hj.2)]
      · cases eh
    · cases eh
  · cases eh
/-- x += v -/
def rAugD (K : PySem.W.Frag) : TIp := fun x y H Q => ∃ (L : Addr → Prop) (f : List Addr) (h : Hh) (d e : D), SRel K L f h H ∧ Rep K L f H x d ∧ Rep K L f H y e ∧
  match augD d e with
  | .ok z => ∀ (H' : Hp) (v : V), Le f H f H' → SRel K L f h H' → Rep K L f H' v z → Q v H'
  | _ => False
theorem ip_D {X : Cx} : PIp X .Add (rAugD X.K) := by
  intro pins s σ H x y v u Q I rx ry hh
  obtain ⟨L, f, h, d, e, S, rd, re, q0⟩ := hh
  obtain ⟨z, hz, q⟩ := rD_ok q0
  unfold augD at hz
  split at hz
  · cases rd; cases re; cases hz
    exact iop_add pins s σ H _ _ v u Q I rx ry ⟨_, _, rfl, rfl, q H _ .refl S (.int _)⟩
  · rename_i a b
    obtain ⟨hc, rfl⟩ := ofB_ok hz
    have hz : a.length + b.length ≤ sizeLine := of_decide_eq_true hc
    obtain ⟨rfl, _, _⟩ := rd.signs
    obtain ⟨rfl, _, _⟩ := re.signs
    exact iop_add_str pins s σ H _ _ v u Q I rx ry ⟨_, _, rfl, rfl, by rw [str_len, str_len]; exact hz, q H _ .refl S (rd.app re hz)⟩
  · cases hz
theorem augD_exc (d e : D) : ∀ c xs h', augD d e ≠ .exc c xs h' := by
  intro c xs h'
  unfold augD
  split <;> first | exact ofB_exc _ _ _ | simp

theorem whileN_more (c : Z9.Env → Hh → Res (Bool × Hh)) (g : Z9.Env → Hh → Res Out) : ∀ (n : Nat) (r : Z9.Env) (h : Hh), whileN c g n r h ≠ .no → whileN c g (n + 1) r h = whileN c g n r h
  | 0, r, h, k => absurd rfl k
  | n + 1, r, h, k => by
    rw [whileN]
    conv => rhs; rw [whileN]
    rw [whileN] at k
    cases e : c r h with
    | no => rfl
    | exc => rfl
    | ok b =>
      rw [e] at k
      simp only [Res.bs_ok] at k ⊢
      cases hb : b.1 with
      | false => rfl
      | true =>
        simp only [hb, if_true] at k ⊢
        cases e2 : g r b.2 with
        | no => rfl
        | exc => rfl
        | ok o =>
          rw [e2] at k
          cases o with
          | nx r' h' => exact whileN_more c g n r' h' k
          | ct r' h' => exact whileN_more c g n r' h' k
          | bk => rfl
          | rt => rfl
          | ex => rfl
end Z9

set_option Elab.async false
set_option linter.all false
set_option maxRecDepth 100000
set_option maxHeartbeats 16000000
/-! E12: every statement's run is the text's. -/
namespace Z9
open PySem PySem.Spec PyProof.Rows L2

section
variable {nm : List Str} {ca : Nat → Value} {G : Gam} {lv : Nat} {N : List Str}

/-- where a statement is read: a def's own body -/
structure SOk (nm : List Str) (ca : Nat → Value) (G : Gam) (lv : Nat) (N : List Str) (sc : Scope) (X : Cx) : Prop extends COk nm ca G lv N sc X where
  fnn : ∀ x, X.fn x = true
  stk : X.stack = X.env :: X.outer
  frm : X.env.frame = some X.env.locals
  own : PassesOwn (model X.prog X.w) X.A X.env X.xe
  exs : ∀ k x, G.exk k = true → nm[k]? = some x → ∃ (C : Addr) (bmB : List Value) (B newId initId : String), ExcBaseFacts B newId initId bmB ∧ PySem.W.excIn X.K C bmB newId = true ∧ X.mg x = some (.ref C) ∧ PySem.W.keepIn X.K (.ref C) = true ∧ Raises X (.ref C) ∧ ca k = .ref C
  hnd : ∀ c k x b, G.sub c k = some b → nm[k]? = some x → PySem.W.exmOne X.K (ca c) (ca k) = some b
  hcl : ∀ k x, nm[k]? = some x → G.cls k = true → X.mg x = some (ca k) ∨ (X.mg x = none ∧ bootBuiltins x = some (ca k) ∧ x ≠ "__name__")

theorem swaps_plain {e : Expr} {t : Option Expr} {l : Nat} {env : PySem.Env} (h : isComp e = false) : swapsWith e t l env = pure false := by
  cases e <;> first
    | rfl
    | (simp [isComp] at h)
theorem swaps_sole {e t : Expr} {l : Nat} {env : PySem.Env} (h : isComp e = false) : swapsWithSole [t] e l env = pure false := swaps_plain (t := some t) h
theorem pmk_own0 {X : Cx} {C : Addr} {bmB : List Value} {B newId initId : String} {x : Str} {p pos : Pos} (F : ExcBaseFacts B newId initId bmB) (q : PySem.W.excIn X.K C bmB newId = true) (gC : X.mg x = some (.ref C))
    (kC : PySem.W.keepIn X.K (.ref C) = true) (r : Raises X (.ref C)) (hg : Gl X x) (hdb : (x == ("__debug__" : Str)) = false) : PMk X (.Call (.Name x p) [] [] pos) (fun _ H Q => Q (.ref C) none H) := by
  intro pins s σ H Q I h
  refine wpAny_Call_Name_kw (ld_glob I hg gC ?_ hdb)
  refine PySem.W.callWith_K0 I.kIn kC ?_
  show wpAny _ _ (call (.ref C) []) _ _ _
  obtain ⟨bm, N, nm, qn, bs, hdct, sn, sub, ab, col, dd, k0, k1, k2, k3, k5, mN, hC, hN, hni, T⟩ := exc_obj I.kIn q
  refine wpAny_call_exc_subT F T hC hN hni (fun h' e hm => ?_) (by show 0 ≤ sizeLine; exact Nat.zero_le _)
  exact mk_of I hm r h (I.hok.gone hm.new)

/-- a suite of the simple kind -/
theorem soundHot {sc : Scope} {X : Cx} (hN : X.N = N) (nd : X.N.Nodup) (hsc : X.env.scope = sc) (hf : ∀ x, X.fn x = true) : ∀ (s : Sms) {xs : List Stmt}, hotSs s = true → mSs ⟨N, nm⟩ sc s xs = true → PSs X xs (tSs X.K ca (fun _ _ _ _ => False) G s)
  | .nil, [], _, _ => PSsm pss_nil fun D σ H ⟨L, f, r, hh, S, sl, p⟩ => p.here S sl
  | .nil, _ :: _, _, h => by simp [mSs] at h
  | .cons s ss, [], _, h => by simp [mSs] at h
  | .cons s ss, x :: xs, hh, h => by
    simp only [mSs, Bool.and_eq_true] at h
    simp only [hotSs, Bool.and_eq_true] at hh
    have one : PS X x (tS X.K ca (fun _ _ _ _ => False) G s) := by
      obtain ⟨h1, _⟩ := h
      obtain ⟨h2, _⟩ := hh
      have con : ∀ (d : D) (v : Expr), mE ⟨N, nm⟩ sc (.con d) v = true → PE X v (tE X.K ca (fun _ _ _ _ => False) G (.con d)) ∧ isComp v = false := by
        intro d v h
        cases v <;> simp only [mE, Bool.false_eq_true] at h
        refine ⟨?_, rfl⟩
        unfold okC at h
        split at h
        · exact PEm pe_non fun σ H Q ⟨L, f, r, hh, S, sl, p⟩ => p.here S _ .non
        · rename_i a b
          have : a = b := by simpa using h
          subst this
          exact PEm pe_bl fun σ H Q ⟨L, f, r, hh, S, sl, p⟩ => p.here S _ (.bl _)
        · rename_i a b
          have : a = b := by simpa using h
          subst this
          exact PEm pe_int fun σ H Q ⟨L, f, r, hh, S, sl, p⟩ => p.here S _ (.int _)
        · rename_i a b
          simp only [Bool.and_eq_true, beq_iff_eq, decide_eq_true_eq] at h
          obtain ⟨⟨rfl, h2⟩, h3⟩ := h
          exact PEm pe_str fun σ H Q ⟨L, f, r, hh, S, sl, p⟩ => p.here S _ (.str _ h2 (by rw [sizeLine_eq]; omega))
        · cases h
      cases s <;> try simp only [hotS, Bool.false_eq_true] at h2
      · rename_i i e
        cases e <;> try simp only [hotS, Bool.false_eq_true] at h2
        rename_i d
        obtain ⟨y, py, v, pos, rfl, hq⟩ : ∃ y py v pos, x = .Assign [.Name y py] v pos ∧ (decide (N[i]? = some y) && okNm y && isSt true sc y && mE ⟨N, nm⟩ sc (.con d) v) = true := by
          unfold mS at h1
          split at h1
          all_goals first
            | (rename_i hh; cases hh; exact ⟨_, _, _, _, rfl, h1⟩)
            | (rename_i hh; cases hh; done)
            | cases h1
        simp only [Bool.and_eq_true, decide_eq_true_eq] at hq
        obtain ⟨⟨⟨k1, k2⟩, k3⟩, k4⟩ := hq
        obtain ⟨hl, hfx⟩ := isSt_of (X := X) hsc (fun _ => hf) k3
        obtain ⟨pe, ic⟩ := con d v k4
        refine PSm (ps_set nd (by rw [hN]; exact k1) hl pe (swaps_plain ic) hfx) fun D σ H ⟨L, f, r, hh, S, sl, p⟩ => ?_
        unfold evS at p
        refine tE_of S sl ((p.bs S sl).mono fun d f1 h1 H1 l1 S1 p1 w rw' => ?_)
        exact p1.here S1 ((sl.mono S l1).set rw')
      · rename_i e
        cases e <;> try simp only [hotS, Bool.false_eq_true] at h2
        rename_i d
        obtain ⟨v, pos, rfl, hq⟩ : ∃ v pos, x = .Return (some v) pos ∧ (mE ⟨N, nm⟩ sc (.con d) v) = true := by
          unfold mS at h1
          split at h1
          all_goals first
            | (rename_i hh; cases hh; exact ⟨_, _, rfl, h1⟩)
            | (rename_i hh; cases hh; done)
            | cases h1
        obtain ⟨pe, ic⟩ := con d v hq
        refine PSm (ps_ret pe) fun D σ H ⟨L, f, r, hh, S, sl, p⟩ => ?_
        unfold evS at p
        refine tE_of S sl ((p.bs S sl).mono fun d f1 h1 H1 l1 S1 p1 w rw' => ?_)
        exact p1 f1 H1 w .refl S1 rw'
      · obtain ⟨pos, rfl⟩ : ∃ pos, x = .Pass pos := by
          unfold mS at h1
          split at h1
          all_goals first
            | (rename_i hh; cases hh; done)
            | exact ⟨_, rfl⟩
            | cases h1
        exact PSm ps_pass fun D σ H ⟨L, f, r, hh, S, sl, p⟩ => p f H σ .refl S sl
    refine PSsm (pss_cons one (soundHot hN nd hsc hf ss hh.2 h.2)) fun D σ H ⟨L, f, r, hh, S, sl, p⟩ => ?_
    unfold evSs at p
    refine ⟨L, f, r, hh, S, sl, ?_⟩
    cases e : evS G s r hh with
    | exc c xs h' =>
      rw [e] at p
      exact p.elim
    | no =>
      rw [e] at p
      exact p.elim
    | ok o =>
      rw [e] at p
      simp only [Res.bind_ok] at p
      cases o with
      | nx r' h' => exact fun f' H' σ' l S' sl' => ⟨L, f', r', h', S', sl', PostS.later S S' l p⟩
      | rt => exact p
      | bk => exact p
      | ct => exact p
      | ex => exact p
/-- the clauses, and their suites -/
def hdL (K : PySem.W.Frag) (ca : Nat → Value) (G : Gam) : Hds → List (Value × (Addr → Value → Option Addr → TS))
  | .nil => []
  | .cons k b hs => (ca k, fun _ _ _ => tSs K ca (fun _ _ _ _ => False) G b) :: hdL K ca G hs
theorem hot_noex {G : Gam} : ∀ (s : Sms), hotSs s = true → ∀ (r : Z9.Env) (h : Hh) c xs r' h', evSs G s r h ≠ .ok (.ex c xs r' h')
  | .nil, _, r, h, c, xs, r', h' => by simp [evSs]
  | .cons s ss, hh, r, h, c, xs, r', h' => by
    simp only [hotSs, Bool.and_eq_true] at hh
    have ih := hot_noex (G := G) ss hh.2
    cases s <;> try simp [hotS] at hh
    · rename_i i e
      cases e <;> try simp [hotS] at hh
      simp only [evSs, evS, evE, Res.bs_ok, Res.bind_ok]
      exact ih _ _ _ _ _ _
    · rename_i e
      cases e <;> try simp [hotS] at hh
      simp [evSs, evS, evE]
    · simp only [evSs, evS, Res.bind_ok]
      exact ih _ _ _ _ _ _
theorem hds_ok {sc : Scope} {X : Cx} (c : SOk nm ca G lv N sc X) : ∀ (hs : Hds) {hds : List ExceptHandler}, hsOk G hs = true → mH ⟨N, nm⟩ sc hs hds = true → HdsOk X hds (hdL X.K ca G hs)
  | .nil, [], _, _ => .nil
  | .nil, _ :: _, _, h => by simp [mH] at h
  | .cons k b hs, hds, hk, h => by
    simp only [hsOk, Bool.and_eq_true] at hk
    obtain ⟨y, p, suite, pos, hds', rfl, hq⟩ : ∃ y p suite pos hds', hds = .ExceptHandler (some (.Name y p)) none suite pos :: hds' ∧ (decide (nm[k]? = some y) && isGl sc y && okNm y && hotSs b && notNil suite && mSs ⟨N, nm⟩ sc b suite && mH ⟨N, nm⟩ sc hs hds') = true := by
      unfold mH at h
      split at h
      all_goals first
        | (rename_i hh; cases hh; exact ⟨_, _, _, _, _, rfl, h⟩)
        | (rename_i hh; cases hh; done)
        | cases h
    simp only [Bool.and_eq_true, decide_eq_true_eq] at hq
    obtain ⟨⟨⟨⟨⟨⟨h1, h2⟩, h3⟩, h4⟩, h5⟩, h6⟩, h7⟩ := hq
    cases suite with
    | nil => cases h5
    | cons s0 suite =>
      obtain ⟨a1, _, _⟩ := okNm_of h3
      refine .cons ⟨isGl_gl c.toCOk h2, a1, c.hcl k y h1 hk.1⟩ (fun a oe cls d pn _ _ => ?_) (hds_ok c hs hk.2 h7)
      exact soundHot (X := X.suite a ((a, oe) :: pn)) c.N c.nd c.sc c.fnn b h4 h6
theorem handle_go {sc : Scope} {X : Cx} {W : WX} {L : Addr → Prop} {f : List Addr} {h : Hh} {H : Hp} {r : Z9.Env} {σ : L2.St} {cc : Nat} {ys : List D} {D : Ends} {dd : Option Addr} (c : SOk nm ca G lv N sc X) : ∀ (hs : Hds) {hds : List ExceptHandler}, mH ⟨N, nm⟩ sc hs hds = true → SRel X.K L f h H → SlR X.K L f H r σ →
    PostS X.K L f H ca W D (evH G hs cc ys r h) → wMany X.K W D (hdL X.K ca G hs) (ca cc) dd σ H
  | .nil, _, _, S, sl, p => p f H σ dd .refl S sl
  | .cons k b hs, hds, hm, S, sl, p => by
    obtain ⟨y, pp, suite, pos, hds', rfl, hq⟩ : ∃ y p suite pos hds', hds = .ExceptHandler (some (.Name y p)) none suite pos :: hds' ∧ (decide (nm[k]? = some y) && isGl sc y && okNm y && hotSs b && notNil suite && mSs ⟨N, nm⟩ sc b suite && mH ⟨N, nm⟩ sc hs hds') = true := by
      unfold mH at hm
      split at hm
      all_goals first
        | (rename_i hh; cases hh; exact ⟨_, _, _, _, _, rfl, hm⟩)
        | (rename_i hh; cases hh; done)
        | cases hm
    simp only [Bool.and_eq_true, decide_eq_true_eq] at hq
    obtain ⟨⟨⟨⟨⟨⟨h1, h2⟩, h3⟩, h4⟩, h5⟩, h6⟩, h7⟩ := hq
    unfold evH at p
    cases es : G.sub cc k with
    | none =>
      rw [es] at p
      exact p.elim
    | some bb =>
      rw [es] at p
      refine ⟨bb, c.hnd cc k y bb es h1, fun hb => ?_, fun hb => ?_⟩
      · subst hb
        intro a _
        refine ⟨L, f, r, h, S, sl, ?_⟩
        have hx := hot_noex (G := G) b h4 r h
        revert hx p
        cases evSs G b r h with
        | ok o => cases o <;> first
          | exact fun p _ => p
          | exact fun _ hx => absurd rfl (hx _ _ _ _)
        | exc => exact fun p _ => p
        | no => exact fun p _ => p
      · subst hb
        exact handle_go c hs h7 S sl p
mutual
theorem soundS : ∀ (s : Sm) {x : Stmt} {sc : Scope} {X : Cx} {W : WX}, SOk nm ca G lv N sc X → Takes X W → mS ⟨N, nm⟩ sc s x = true → PS X x (tS X.K ca W G s)
  | .set i e, x, sc, X, W, c, tk, h => by
    obtain ⟨y, py, v, pos, rfl, hq⟩ : ∃ y py v pos, x = .Assign [.Name y py] v pos ∧ (decide (N[i]? = some y) && okNm y && isSt true sc y && mE ⟨N, nm⟩ sc e v) = true := by
      unfold mS at h
      split at h
      all_goals first
        | (rename_i hh; cases hh; exact ⟨_, _, _, _, rfl, h⟩)
        | (rename_i hh; cases hh; done)
        | cases h
    simp only [Bool.and_eq_true, decide_eq_true_eq] at hq
    obtain ⟨⟨⟨h1, h2⟩, h3⟩, h4⟩ := hq
    obtain ⟨hl, hf⟩ := isSt_of (X := X) c.sc (fun _ => c.fnn) h3
    have hN : X.N[i]? = some y := by rw [c.N]; exact h1
    have pe := (soundE e c.toCOk tk h4).1
    have go : ∀ D σ H, tS X.K ca W G (.set i e) D σ H → tAsg (tE X.K ca W G e) (gName i) D σ H := fun D σ H ⟨L, f, r, hh, S, sl, p⟩ => by
      unfold evS at p
      refine tE_of S sl ((p.bs S sl).mono fun d f1 h1 H1 l1 S1 p1 w rw' => ?_)
      exact p1.here S1 ((sl.mono S l1).set rw')
    have plain : swapsWith v (some (.Name y py)) pos.line X.env = pure false → PS X (.Assign [.Name y py] v pos) (tS X.K ca W G (.set i e)) := fun hs => PSm (ps_set c.nd hN hl pe hs hf) go
    cases v with
    | ListComp elt gs scope lpos =>
      have hsw : swapsWith (.ListComp elt gs scope lpos) (some (.Name y py)) pos.line X.env = pure (X.env.blockKind == .function && X.env.kindOf y == some .local && py.line == lpos.line && !(scope.names.any fun (n, k) => n == y && (k == .local || k == .cell))) := rfl
      cases hB : (X.env.blockKind == .function && X.env.kindOf y == some .local && py.line == lpos.line && !(scope.names.any fun (n, k) => n == y && (k == .local || k == .cell))) with
      | false => exact plain (by rw [hsw, hB])
      | true =>
        have hyl : X.env.scope.names.lookup y = some .local := by
          simp only [Bool.and_eq_true, beq_iff_eq] at hB
          exact hB.1.1.2
        cases e <;> try simp only [mE, Bool.false_eq_true] at h4
        rename_i new elt' t it ifs own
        obtain ⟨e2, t2, iter, fs, scope', pos', eq, hq⟩ := inv_lc h4
        cases eq
        simp only [Bool.and_eq_true, decide_eq_true_eq] at hq
        obtain ⟨⟨⟨⟨⟨⟨⟨h1', h2'⟩, h3'⟩, h4'⟩, h5'⟩, h6'⟩, h7'⟩, h8'⟩ := hq
        have ok : BlkOk X.N X.env.scope scope (own.map fun i => (N.getD i Str.empty, i)) := by
          rw [c.N, c.sc]
          exact blkOk_by h2'
        refine PSm (ps_setLc (own := own.map fun i => (N.getD i Str.empty, i)) (g := gD X.K t) (tt := tTs X.K ca (fun _ _ _ _ => False) G ifs) (te := tE X.K ca (fun _ _ _ _ => False) G elt') c.calm c.nd hN hyl (by rw [hsw, hB]) (soundI it c.toCOk tk h4' t2) ok
          (fun s H C cl fp => soundTg (X := X.blk s H scope (compEnvC scope cl C X.env) fp) (C := ⟨N, nm⟩) (k := false) c.N c.nd (by show relS scope X.env.scope = _; rw [c.sc]) c.calm (fun z => absurd z Bool.false_ne_true) t t2 h5')
          (fun s H C cl fp => soundTs ifs (blkCOk c.toCOk s H scope C cl fp) takes0 h7' h6') (fun s H C cl fp => (soundE elt' (blkCOk c.toCOk s H scope C cl fp) takes0 h8').1) (mI_set h4')) fun D σ H q => ?_
        have e : (own.map fun i => (N.getD i Str.empty, i)).map (·.2) = own := by rw [List.map_map]; exact List.map_id own
        rw [e]
        exact lc_go c.toCOk new elt' t it ifs own h1' (go D σ H q)
    | SetComp => cases e <;> simp [mE] at h4
    | DictComp => cases e <;> simp [mE] at h4
    | _ => exact plain rfl
  | .asg t e, x, sc, X, W, c, tk, h => by
    obtain ⟨ts, k, p, v, pos, rfl, hq⟩ : ∃ ts k p v pos, x = .Assign [.Tuple ts k p] v pos ∧ (mT ⟨N, nm⟩ true sc t (.Tuple ts k p) && noSwap ts v && !isComp v && mE ⟨N, nm⟩ sc e v) = true := by
      unfold mS at h
      split at h
      all_goals first
        | (rename_i hh; cases hh; exact ⟨_, _, _, _, _, rfl, h⟩)
        | (rename_i hh; cases hh; done)
        | cases h
    simp only [Bool.and_eq_true, Bool.not_eq_true'] at hq
    obtain ⟨⟨⟨h1, h2⟩, h3⟩, h4⟩ := hq
    have pe := (soundE e c.toCOk tk h4).1
    have pg := soundTg (C := ⟨N, nm⟩) (k := true) c.N c.nd c.sc c.calm (fun _ => c.fnn) t _ h1
    refine PSm (ps_asg pe pg (swaps_sole h3) (noSwap_of h2) rfl) fun D σ H ⟨L, f, r, hh, S, sl, p⟩ => ?_
    unfold evS at p
    refine tE_of S sl ((p.bs S sl).mono fun d f1 h1 H1 l1 S1 p1 w rw' => ?_)
    obtain ⟨r', er, p2⟩ := p1.pureBs (setT_exc _ _ _)
    exact ⟨L, f1, h1, r, r', d, S1, sl.mono S l1, rw', er, fun σ' s' _ => p2.here S1 s'⟩
  | .par i j es, x, sc, X, W, c, tk, h => by
    obtain ⟨y, p1, z, p2, k, p, u, v, k2, pt2, pos, rfl, hq⟩ : ∃ y p1 z p2 k p u v k2 pt2 pos, x = .Assign [.Tuple [.Name y p1, .Name z p2] k p] (.Tuple [u, v] k2 pt2) pos ∧ (decide (i ≠ j) && decide (N[i]? = some y) && decide (N[j]? = some z) && okNm y && okNm z && parOk sc y z p1 p2 u v && mEs ⟨N, nm⟩ sc es [u, v]) = true := by
      unfold mS at h
      split at h
      all_goals first
        | (rename_i hh; cases hh; exact ⟨_, _, _, _, _, _, _, _, _, _, _, rfl, h⟩)
        | (rename_i hh; cases hh; done)
        | cases h
    simp only [Bool.and_eq_true, decide_eq_true_eq] at hq
    obtain ⟨⟨⟨⟨⟨⟨h1, h2⟩, h3⟩, h4⟩, h5⟩, h6⟩, h7⟩ := hq
    have pa := soundEs es c.toCOk tk h7
    have hu : (∀ a b, u ≠ .Starred a b) ∧ ∀ a b, v ≠ .Starred a b := by
      match es, h7 with
      | .cons e1 (.cons e2 .nil), h7 =>
        simp only [mEs, Bool.and_eq_true] at h7
        exact ⟨(mE_plain h7.1).1, (mE_plain h7.2.1).1⟩
      | .cons e1 .nil, h7 => simp [mEs] at h7
      | .nil, h7 => simp [mEs] at h7
      | .cons e1 (.cons e2 (.cons e3 e4)), h7 => simp [mEs] at h7
    have hp := id h6
    simp only [parOk, Bool.and_eq_true, decide_eq_true_eq] at hp
    refine PSm (ps_par c.calm c.nd (by rw [c.N]; exact h2) (by rw [c.N]; exact h3) h1 (by rw [c.sc]; exact hp.1.1.1.1.1.2) (by rw [c.sc]; exact hp.1.1.1.1.2) pa (parOk_of c.sc h6 hu.1 hu.2) (swaps_sole rfl)) fun D σ H ⟨L, f, r, hh, S, sl, p⟩ => ?_
    unfold evS at p
    refine ⟨L, f, r, hh, S, sl, (p.bs S sl).mono fun ds f1 h1 H1 l1 S1 p1 vs rv => ?_⟩
    match ds, vs, rv, p1 with
    | [d1, d2], [w1, w2], .cons r1 (.cons r2 .nil), p1 =>
      refine ⟨w1, w2, rfl, ?_⟩
      exact PostS.here S1 (((sl.mono S l1).set r1).set r2) p1
    | [], _, _, p1 => exact p1.elim
    | [_], _, _, p1 => exact p1.elim
    | _ :: _ :: _ :: _, _, _, p1 => exact p1.elim
  | .seti o i e, x, sc, X, W, c, tk, h => by
    obtain ⟨a, b, p, v, pos, rfl, hq⟩ : ∃ a b p v pos, x = .Assign [.Subscript a b p] v pos ∧ (noSlice b && !isComp v && mE ⟨N, nm⟩ sc o a && mE ⟨N, nm⟩ sc i b && mE ⟨N, nm⟩ sc e v) = true := by
      unfold mS at h
      split at h
      all_goals first
        | (rename_i hh; cases hh; exact ⟨_, _, _, _, _, rfl, h⟩)
        | (rename_i hh; cases hh; done)
        | cases h
    simp only [Bool.and_eq_true, Bool.not_eq_true'] at hq
    obtain ⟨⟨⟨⟨h1, h2⟩, h3⟩, h4⟩, h5⟩ := hq
    have pe := (soundE e c.toCOk tk h5).1
    have po := (soundE o c.toCOk tk h3).1
    have pi := (soundE i c.toCOk tk h4).1
    have ha : ∀ v, assign (.Subscript a b p) X.env v = (do
      let ov ← holding [v] (eval a X.env)
      let iv ← holding [v, ov] (eval b X.env)
      standAt p
      holding [v, ov, iv] (setItem ov iv v)
      release [v, ov, iv] []) := by
      intro v
      cases b <;> first
        | rfl
        | (simp [noSlice] at h1)
    refine PSm (ps_asg pe (pg_sub po pi set_D ha) (swaps_sole h2) rfl rfl) fun D σ H ⟨L, f, r, hh, S, sl, p⟩ => ?_
    unfold evS at p
    refine tE_of S sl ((p.bs S sl).mono fun d f1 h1 H1 l1 S1 p1 w rw' => ?_)
    refine tE_of S1 (sl.mono S l1) ((p1.bs S1 (sl.mono S l1)).mono fun d2 f2 h2 H2 l2 S2 p2 w2 rw2 => ?_)
    refine tE_of S2 ((sl.mono S l1).mono S1 l2) ((p2.bs S2 ((sl.mono S l1).mono S1 l2)).mono fun d3 f3 h3 H3 l3 S3 p3 w3 rw3 => ?_)
    obtain ⟨h4, e4, p4⟩ := p3.pureBs (setiD_exc _ _ _ _)
    refine ⟨L, f3, h3, d2, d3, d, S3, rw2.mono S2 l3, rw3, (rw'.mono S1 l2).mono S2 l3, ?_⟩
    have e4 : setiD d2 d3 d h3 = .ok h4 := e4
    simp only [e4]
    exact fun f' H' l S' => p4 f' H' σ l S' ((((sl.mono S l1).mono S1 l2).mono S2 l3).mono S3 l)
  | .aug i o e, x, sc, X, W, c, tk, h => by
    obtain ⟨y, py, o', v, pos, rfl, hq⟩ : ∃ y py o' v pos, x = .AugAssign (.Name y py) o' v pos ∧ (decide (o = o') && decide (o = .Add) && decide (N[i]? = some y) && okNm y && isSt true sc y && mE ⟨N, nm⟩ sc e v) = true := by
      unfold mS at h
      split at h
      all_goals first
        | (rename_i hh; cases hh; exact ⟨_, _, _, _, _, rfl, h⟩)
        | (rename_i hh; cases hh; done)
        | cases h
    simp only [Bool.and_eq_true, decide_eq_true_eq] at hq
    obtain ⟨⟨⟨⟨⟨rfl, rfl⟩, h1⟩, h2⟩, h3⟩, h4⟩ := hq
    obtain ⟨hl, hf⟩ := isSt_of (X := X) c.sc (fun _ => c.fnn) h3
    have hN : X.N[i]? = some y := by rw [c.N]; exact h1
    have pe := (soundE e c.toCOk tk h4).1
    refine PSm (ps_aug c.nd hN hl pe ip_D hf) fun D σ H ⟨L, f, r, hh, S, sl, p⟩ => ?_
    unfold evS at p
    obtain ⟨d0, e0, p0⟩ := p.pureBs getV_exc
    obtain ⟨v0, e1, r0⟩ := sl.at_ i d0 (getV_ok e0)
    refine ⟨v0, e1, tE_of S sl ((p0.bs S sl).mono fun d f1 h1 H1 l1 S1 p1 w rw' => ?_)⟩
    obtain ⟨z, ez, p2⟩ := p1.pureBs (augD_exc _ _)
    refine ⟨L, f1, h1, d0, d, S1, r0.mono S l1, rw', ?_⟩
    have ez : augD d0 d = .ok z := ez
    simp only [ez]
    exact fun H' v l S' rv => p2 f1 H' _ l S' (((sl.mono S l1).mono S1 l).set rv)
  | .expr e, x, sc, X, W, c, tk, h => by
    obtain ⟨v, pos, rfl, hq⟩ : ∃ v pos, x = .Expr v pos ∧ (!isComp v && mE ⟨N, nm⟩ sc e v) = true := by
      unfold mS at h
      split at h
      all_goals first
        | (rename_i hh; cases hh; exact ⟨_, _, rfl, h⟩)
        | (rename_i hh; cases hh; done)
        | cases h
    simp only [Bool.and_eq_true, Bool.not_eq_true'] at hq
    refine PSm (ps_expr (soundE e c.toCOk tk hq.2).1 (swaps_plain hq.1)) fun D σ H ⟨L, f, r, hh, S, sl, p⟩ => ?_
    unfold evS at p
    refine tE_of S sl ((p.bs S sl).mono fun d f1 h1 H1 l1 S1 p1 w rw' => ?_)
    exact p1.here S1 (sl.mono S l1)
  | .ret e, x, sc, X, W, c, tk, h => by
    obtain ⟨v, pos, rfl, hq⟩ : ∃ v pos, x = .Return (some v) pos ∧ (mE ⟨N, nm⟩ sc e v) = true := by
      unfold mS at h
      split at h
      all_goals first
        | (rename_i hh; cases hh; exact ⟨_, _, rfl, h⟩)
        | (rename_i hh; cases hh; done)
        | cases h
    refine PSm (ps_ret (soundE e c.toCOk tk hq).1) fun D σ H ⟨L, f, r, hh, S, sl, p⟩ => ?_
    unfold evS at p
    refine tE_of S sl ((p.bs S sl).mono fun d f1 h1 H1 l1 S1 p1 w rw' => ?_)
    exact p1 f1 H1 w .refl S1 rw'
  | .retn, x, sc, X, W, c, tk, h => by
    obtain ⟨pos, rfl⟩ : ∃ pos, x = .Return none pos := by
      unfold mS at h
      split at h
      all_goals first
        | (rename_i hh; cases hh; done)
        | exact ⟨_, rfl⟩
        | cases h
    exact PSm ps_retN fun D σ H ⟨L, f, r, hh, S, sl, p⟩ => p f H .non .refl S .non
  | .iff t a b, x, sc, X, W, c, tk, h => by
    obtain ⟨v, y, z, pos, rfl, hq⟩ : ∃ v y z pos, x = .If v y z pos ∧ (mE ⟨N, nm⟩ sc t v && mSs ⟨N, nm⟩ sc a y && mSs ⟨N, nm⟩ sc b z) = true := by
      unfold mS at h
      split at h
      all_goals first
        | (rename_i hh; cases hh; exact ⟨_, _, _, _, rfl, h⟩)
        | (rename_i hh; cases hh; done)
        | cases h
    simp only [Bool.and_eq_true] at hq
    obtain ⟨⟨h1, h2⟩, h3⟩ := hq
    refine PSm (ps_if (soundE t c.toCOk tk h1).2 (soundSs a c tk h2) (soundSs b c tk h3)) fun D σ H ⟨L, f, r, hh, S, sl, p⟩ => ?_
    unfold evS at p
    refine ⟨L, f, r, hh, S, sl, ?_⟩
    cases e : evE G t r hh with
    | ok q =>
      rw [e] at p
      simp only [Res.bs_ok] at p
      simp only [Res.bind_ok]
      cases e2 : boolD q.1 with
      | ok k =>
        rw [e2] at p
        intro f1 H1 l1 S1
        cases k with
        | true => exact iteT ⟨L, f1, r, q.2, S1, sl.mono S l1, PostS.later S S1 l1 p⟩
        | false => exact iteF ⟨L, f1, r, q.2, S1, sl.mono S l1, PostS.later S S1 l1 p⟩
      | exc c xs h' => exact absurd e2 (boolD_exc _ _ _)
      | no =>
        rw [e2] at p
        exact p.elim
    | exc c xs h' =>
      rw [e] at p
      exact fun f1 H1 dd l1 S1 => p f1 H1 σ dd l1 S1 (sl.mono S l1)
    | no =>
      rw [e] at p
      exact p.elim
  | .forr t it b, x, sc, X, W, c, tk, h => by
    obtain ⟨tg, iter, body, pos, rfl, hq⟩ : ∃ tg iter body pos, x = .For tg iter body [] pos ∧ (mT ⟨N, nm⟩ true sc t tg && mI ⟨N, nm⟩ sc it iter && mSs ⟨N, nm⟩ sc b body) = true := by
      unfold mS at h
      split at h
      all_goals first
        | (rename_i hh; cases hh; exact ⟨_, _, _, _, rfl, h⟩)
        | (rename_i hh; cases hh; done)
        | cases h
    simp only [Bool.and_eq_true] at hq
    obtain ⟨⟨h1, h2⟩, h3⟩ := hq
    have pg := soundTg (C := ⟨N, nm⟩) (k := true) c.N c.nd c.sc c.calm (fun _ => c.fnn) t _ h1
    refine PSm (ps_for c.own c.calm (soundI it c.toCOk tk h2 tg) pg (soundSs b c tk h3) (mI_set h2)) fun D σ H ⟨L, f, r, hh, S, sl, p⟩ => ?_
    unfold evS at p
    refine ⟨L, f, r, hh, S, sl, (p.bs S sl).mono fun xs f1 h1 H1 l1 S1 p1 J wd => ?_⟩
    obtain ⟨Gd, Y, wk, hG, hY⟩ := wd
    generalize hF : (fun (x : Z9.D) (r1 : Z9.Env) (h1 : Hh) => (setT t x r1).bs r1 fun r2 => evSs G b r2 h1) = F at p1
    refine for_it (G := Gd) (Y := Y) wk (fun i τ H2 => ∃ (f2 : List Addr) (r2 : Z9.Env) (h2 : Hh), Le f1 H1 f2 H2 ∧ SRel X.K L f2 h2 H2 ∧ SlR X.K L f2 H2 r2 τ ∧ PostS X.K L f2 H2 ca W D (forD F (xs.drop i) r2 h2))
      ⟨f1, r, h1, .refl, S1, sl.mono S l1, by simpa using p1⟩ (fun i τ H2 _ ⟨f2, r2, h2, l2, S2, _, _⟩ => hG _ f2 h2 H2 .refl l2 S2) ?_ ?_
    · rintro i x τ H2 H3 hi ⟨f2, r2, h2, l2, S2, sl2, p2⟩ hy
      obtain ⟨d, ed, l3, S3, rd⟩ := hY _ i f2 h2 H2 x H3 hi .refl l2 S2 hy
      have l13 := Le.trans S1 S2 l2 l3
      have ed' : xs[i] = d := by
        rw [List.getElem?_eq_getElem hi] at ed
        exact Option.some.inj ed
      rw [List.drop_eq_getElem_cons hi, ed'] at p2
      unfold forD at p2
      have eF : F d r2 h2 = (setT t d r2).bs r2 fun r2 => evSs G b r2 h2 := by rw [← hF]
      cases k1 : setT t d r2 with
      | no =>
        rw [eF, k1] at p2
        exact p2.elim
      | exc c ys h' => exact absurd k1 (setT_exc _ _ _ _ _ _)
      | ok r3 =>
        rw [k1] at eF
        simp only [Res.bs_ok] at eF
        refine ⟨L, f2, h2, r2, r3, d, S3, sl2.mono S2 l3, rd, k1, fun τ2 sl3 _ => ⟨L, f2, r3, h2, S3, sl3, ?_⟩⟩
        rw [eF] at p2
        have p3 := PostS.later S2 S3 l3 p2
        cases k2 : evSs G b r3 h2 with
        | no =>
          rw [k2] at p3
          exact p3.elim
        | exc c ys h' =>
          rw [k2] at p3
          exact p3.elim
        | ok o =>
          rw [k2] at p3
          cases o with
          | nx r4 h4 => exact fun f4 H4 τ4 l4 S4 sl4 => ⟨f4, r4, h4, Le.trans S1 S3 l13 l4, S4, sl4, PostS.later S3 S4 l4 p3⟩
          | ct r4 h4 => exact fun f4 H4 τ4 l4 S4 sl4 => ⟨f4, r4, h4, Le.trans S1 S3 l13 l4, S4, sl4, PostS.later S3 S4 l4 p3⟩
          | bk r4 h4 => exact p3
          | rt d4 h4 => exact p3
          | ex => exact p3
    · rintro τ H2 ⟨f2, r2, h2, l2, S2, sl2, p2⟩
      rw [List.drop_length] at p2
      exact p2.here S2 sl2
  | .whil t b, x, sc, X, W, c, tk, h => by
    obtain ⟨v, body, pos, rfl, hq⟩ : ∃ v body pos, x = .While v body [] pos ∧ (mE ⟨N, nm⟩ sc t v && mSs ⟨N, nm⟩ sc b body) = true := by
      unfold mS at h
      split at h
      all_goals first
        | (rename_i hh; cases hh; exact ⟨_, _, _, rfl, h⟩)
        | (rename_i hh; cases hh; done)
        | cases h
    simp only [Bool.and_eq_true] at hq
    refine PSm (ps_while c.own (soundE t c.toCOk tk hq.1).2 (soundSs b c tk hq.2)) fun D σ H ⟨L, f, r, hh, S, sl, p⟩ => ?_
    unfold evS at p
    generalize hC : (fun (r1 : Z9.Env) (h1 : Hh) => (evE G t r1 h1).bind fun p => (boolD p.1).bind fun k => Res.ok (k, p.2)) = cF at p
    generalize hB : (fun (r1 : Z9.Env) (h1 : Hh) => evSs G b r1 h1) = bF at p
    unfold whileD at p
    split at p
    · rename_i hex
      refine ⟨fun m τ H2 => ∃ (L : Addr → Prop) (f2 : List Addr) (r2 : Z9.Env) (h2 : Hh), SRel X.K L f2 h2 H2 ∧ SlR X.K L f2 H2 r2 τ ∧ PostS X.K L f2 H2 ca W D (whileN cF bF m r2 h2), ⟨_, L, f, r, hh, S, sl, p⟩, ?_⟩
      rintro m τ H2 ⟨L, f2, r2, h2, S2, sl2, p2⟩
      cases m with
      | zero => exact p2.elim
      | succ m =>
        rw [whileN] at p2
        refine ⟨L, f2, r2, h2, S2, sl2, ?_⟩
        have eC : cF r2 h2 = (evE G t r2 h2).bind fun p => (boolD p.1).bind fun k => Res.ok (k, p.2) := by rw [← hC]
        rw [← eC]
        refine (p2.bs S2 sl2).mono fun k f3 h3 H3 l3 S3 p3 => ?_
        cases k with
        | false => exact iteF (p3.here S3 (sl2.mono S2 l3))
        | true =>
          refine iteT ⟨fun τ' H' => ∃ (L : Addr → Prop) (f2 : List Addr) (r2 : Z9.Env) (h2 : Hh), SRel X.K L f2 h2 H' ∧ SlR X.K L f2 H' r2 τ' ∧ PostS X.K L f2 H' ca W D (whileN cF bF m r2 h2), fun τ' H' q => ⟨m, Nat.lt_succ_self m, q⟩, L, f3, r2, h3, S3, sl2.mono S2 l3, ?_⟩
          simp only [if_true] at p3
          have eB : bF r2 h3 = evSs G b r2 h3 := by rw [← hB]
          rw [eB] at p3
          cases k2 : evSs G b r2 h3 with
          | no =>
            rw [k2] at p3
            exact p3.elim
          | exc c ys h' =>
            rw [k2] at p3
            exact p3.elim
          | ok o =>
            rw [k2] at p3
            cases o with
            | nx r4 h4 => exact fun f4 H4 τ4 l4 S4 sl4 => ⟨L, f4, r4, h4, S4, sl4, PostS.later S3 S4 l4 p3⟩
            | ct r4 h4 => exact fun f4 H4 τ4 l4 S4 sl4 => ⟨L, f4, r4, h4, S4, sl4, PostS.later S3 S4 l4 p3⟩
            | bk r4 h4 => exact p3
            | rt d4 h4 => exact p3
            | ex => exact p3
    · exact p.elim
  | .brk, x, sc, X, W, c, tk, h => by
    obtain ⟨pos, rfl⟩ : ∃ pos, x = .Break pos := by
      unfold mS at h
      split at h
      all_goals first
        | (rename_i hh; cases hh; done)
        | exact ⟨_, rfl⟩
        | cases h
    exact PSm ps_break fun D σ H ⟨L, f, r, hh, S, sl, p⟩ => p f H σ .refl S sl
  | .cont, x, sc, X, W, c, tk, h => by
    obtain ⟨pos, rfl⟩ : ∃ pos, x = .Continue pos := by
      unfold mS at h
      split at h
      all_goals first
        | (rename_i hh; cases hh; done)
        | exact ⟨_, rfl⟩
        | cases h
    exact PSm ps_continue fun D σ H ⟨L, f, r, hh, S, sl, p⟩ => p f H σ .refl S sl
  | .pass, x, sc, X, W, c, tk, h => by
    obtain ⟨pos, rfl⟩ : ∃ pos, x = .Pass pos := by
      unfold mS at h
      split at h
      all_goals first
        | (rename_i hh; cases hh; done)
        | exact ⟨_, rfl⟩
        | cases h
    exact PSm ps_pass fun D σ H ⟨L, f, r, hh, S, sl, p⟩ => p f H σ .refl S sl
  | .rais k es, x, sc, X, W, c, tk, h => by
    obtain ⟨y, p1, xs, p2, pos, rfl, hq⟩ : ∃ y p1 xs p2 pos, x = .Raise (some (.Call (.Name y p1) xs [] p2)) none pos ∧ (decide (nm[k]? = some y) && isGl sc y && okNm y && nilBoth es xs) = true := by
      unfold mS at h
      split at h
      all_goals first
        | (rename_i hh; cases hh; exact ⟨_, _, _, _, _, rfl, h⟩)
        | (rename_i hh; cases hh; done)
        | cases h
    simp only [Bool.and_eq_true, decide_eq_true_eq] at hq
    obtain ⟨⟨⟨h1, h2⟩, h3⟩, h4⟩ := hq
    obtain ⟨a1, _, _⟩ := okNm_of h3
    unfold nilBoth at h4
    split at h4
    · cases ek : G.exk k with
      | false =>
        exact ⟨fun pins s σ H D I ⟨L, f, r, hh, S, sl, p⟩ => by
          unfold evS at p
          rw [ek] at p
          exact p.elim⟩
      | true =>
        obtain ⟨C, bmB, B, nw, ii, F, q, gC, kC, rs, ec⟩ := c.exs k y ek h1
        refine PSm (ps_raise c.calm tk (pmk_own0 F q gC kC rs (isGl_gl c.toCOk h2) a1)) fun D σ H ⟨L, f, r, hh, S, sl, p⟩ => ?_
        unfold evS at p
        rw [ek] at p
        simp only [if_true, evEs, Res.bs_ok] at p
        have := p f H σ none .refl S sl
        rw [ec] at this
        exact this
    · cases h4
  | .tryy b hs, x, sc, X, W, c, tk, h => by
    obtain ⟨body, hds, pos, rfl, hq⟩ : ∃ body hds pos, x = .Try body hds [] [] pos ∧ (notNil hds && mSs ⟨N, nm⟩ sc b body && mH ⟨N, nm⟩ sc hs hds) = true := by
      unfold mS at h
      split at h
      all_goals first
        | (rename_i hh; cases hh; exact ⟨_, _, _, rfl, h⟩)
        | (rename_i hh; cases hh; done)
        | cases h
    simp only [Bool.and_eq_true] at hq
    obtain ⟨⟨h1, h2⟩, h3⟩ := hq
    cases hds with
    | nil => cases h1
    | cons h0 hds =>
      cases hk : hsOk G hs with
      | false =>
        exact ⟨fun pins s σ H D I ⟨L, f, r, hh, S, sl, p⟩ => by
          unfold evS at p
          rw [hk] at p
          exact p.elim⟩
      | true =>
      refine PSm (ps_try_many (tb := fun W' => tSs X.K ca W' G b) c.stk c.frm tk (fun W' pn xe tk' po => soundSs b (X := X.tr pn xe) ⟨⟨c.N, c.nd, c.sc, c.calm, c.room, c.gam⟩, c.fnn, c.stk, c.frm, po, c.exs, c.hnd, c.hcl⟩ tk' h2) (hds_ok c hs hk h3)) fun D σ H ⟨L, f, r, hh, S, sl, p⟩ => ?_
      unfold evS at p
      rw [hk] at p
      simp only [if_true] at p
      refine ⟨L, f, r, hh, S, sl, ?_⟩
      cases e : evSs G b r hh with
      | no =>
        rw [e] at p
        exact p.elim
      | exc cc ys h' =>
        rw [e] at p
        exact p.elim
      | ok o =>
        rw [e] at p
        cases o with
        | nx => exact p
        | rt => exact p
        | bk => exact p
        | ct => exact p
        | ex cc ys r' h' => exact fun f' H' σ' dd l' S' sl' => handle_go c hs h3 S' sl' (PostS.later S S' l' p)
theorem soundSs : ∀ (s : Sms) {x : List Stmt} {sc : Scope} {X : Cx} {W : WX}, SOk nm ca G lv N sc X → Takes X W → mSs ⟨N, nm⟩ sc s x = true → PSs X x (tSs X.K ca W G s)
  | .nil, [], sc, X, W, c, tk, h => PSsm pss_nil fun D σ H ⟨L, f, r, hh, S, sl, p⟩ => p.here S sl
  | .nil, _ :: _, sc, X, W, c, tk, h => by simp [mSs] at h
  | .cons s ss, [], sc, X, W, c, tk, h => by simp [mSs] at h
  | .cons s ss, x :: xs, sc, X, W, c, tk, h => by
    simp only [mSs, Bool.and_eq_true] at h
    refine PSsm (pss_cons (soundS s c tk h.1) (soundSs ss c tk h.2)) fun D σ H ⟨L, f, r, hh, S, sl, p⟩ => ?_
    unfold evSs at p
    refine ⟨L, f, r, hh, S, sl, ?_⟩
    cases e : evS G s r hh with
    | exc c xs h' =>
      rw [e] at p
      exact p.elim
    | no =>
      rw [e] at p
      exact p.elim
    | ok o =>
      rw [e] at p
      simp only [Res.bind_ok] at p
      cases o with
      | nx r' h' => exact fun f' H' σ' l S' sl' => ⟨L, f', r', h', S', sl', PostS.later S S' l p⟩
      | rt => exact p
      | bk => exact p
      | ct => exact p
      | ex => exact p
end
end
end Z9

set_option Elab.async false
set_option linter.all false
set_option maxRecDepth 100000
set_option maxHeartbeats 4000000
/-! E13: defs and the law's end. -/
namespace Z9
open PySem PySem.Spec PyProof.Rows L2

mutual
/-- no changing place within -/
def pureD : D → Bool
  | .ref _ => false
  | .tup xs => pureDs xs
  | .lst xs => pureDs xs
  | _ => true
def pureDs : List D → Bool
  | [] => true
  | x :: xs => pureD x && pureDs xs
end
/-- data that stays: a changing list of such is read off -/
def frzD (h : Hh) (d : D) : Option D := if pureD d then some d else match d with
  | .ref i => match h[i]? with
    | some (.lst xs) => if pureDs xs then some (.lst xs) else none
    | _ => none
  | _ => none
/-- a def that is called with what stays, and gives what stays: the state is not asked -/
def pureF (g : List D → Hh → Res (D × Hh)) (ds : List D) (h : Hh) : Res (D × Hh) :=
  if pureDs ds then match g ds [] with
    | .ok (d, h') => match frzD h' d with
      | some d' => .ok (d', h)
      | none => .no
    | .exc c xs _ => .exc c xs h
    | .no => .no
  else .no
/-- g' says what g says, where it says something -/
def LeF (g' g : List D → Hh → Res (D × Hh)) : Prop := ∀ ds h, g' ds h ≠ .no → g ds h = g' ds h

section
variable {K : PySem.W.Frag} {L : Addr → Prop} {f : List Addr} {h : Hh} {H : Hp}
mutual
theorem Rep.iso : ∀ {v : V} {d : D}, pureD d = true → Rep K L f H v d → Rep K (fun a => L a ∨ a ∈ f) [] H v d
  | _, _, _, .non => .non
  | _, _, _, .bl b => .bl b
  | _, _, _, .int i => .int i
  | _, _, _, .str s a b => .str s a b
  | _, _, p, .tup hs r => .tup hs (RepL.iso (by simpa [pureD] using p) r)
  | _, _, p, .lst e nl nf r => .lst e (fun x => x.elim nl nf) (by simp) (RepL.iso (by simpa [pureD] using p) r)
  | _, _, p, .ref e => by simp [pureD] at p
  | _, _, _, .dic0 e nl nf => .dic0 e (fun x => x.elim nl nf) (by simp)
  | _, _, _, .scr hs => .scr (by
      rcases hs with ⟨e, nl, nf⟩ | k
      · exact .inl ⟨e, fun x => x.elim nl nf, by simp⟩
      · exact .inr k)
theorem RepL.iso : ∀ {vs : List V} {ds : List D}, pureDs ds = true → RepL K L f H vs ds → RepL K (fun a => L a ∨ a ∈ f) [] H vs ds
  | _, _, _, .nil => .nil
  | _, _, p, .cons r t => by
    simp only [pureDs, Bool.and_eq_true] at p
    exact .cons (Rep.iso p.1 r) (RepL.iso p.2 t)
end
mutual
theorem Rep.out {f2 : List Addr} : ∀ {v : V} {d : D}, pureD d = true → Rep K (fun a => L a ∨ a ∈ f) f2 H v d → Rep K L f H v d
  | _, _, _, .non => .non
  | _, _, _, .bl b => .bl b
  | _, _, _, .int i => .int i
  | _, _, _, .str s a b => .str s a b
  | _, _, p, .tup hs r => .tup hs (RepL.out (by simpa [pureD] using p) r)
  | _, _, p, .lst e nl nf r => .lst e (fun x => nl (.inl x)) (fun x => nl (.inr x)) (RepL.out (by simpa [pureD] using p) r)
  | _, _, p, .ref e => by simp [pureD] at p
  | _, _, _, .dic0 e nl nf => .dic0 e (fun x => nl (.inl x)) (fun x => nl (.inr x))
  | _, _, _, .scr hs => .scr (by
      rcases hs with ⟨e, nl, nf⟩ | k
      · exact .inl ⟨e, fun x => nl (.inl x), fun x => nl (.inr x)⟩
      · exact .inr k)
theorem RepL.out {f2 : List Addr} : ∀ {vs : List V} {ds : List D}, pureDs ds = true → RepL K (fun a => L a ∨ a ∈ f) f2 H vs ds → RepL K L f H vs ds
  | _, _, _, .nil => .nil
  | _, _, p, .cons r t => by
    simp only [pureDs, Bool.and_eq_true] at p
    exact .cons (Rep.out p.1 r) (RepL.out p.2 t)
end
theorem frz_rep {f2 : List Addr} {h2 : Hh} {v : V} {d d' : D} (S : SRel K (fun a => L a ∨ a ∈ f) f2 h2 H) (r : Rep K (fun a => L a ∨ a ∈ f) f2 H v d) (e : frzD h2 d = some d') : Rep K L f H v d' := by
  unfold frzD at e
  split at e
  · rename_i hp
    cases e
    exact r.out hp
  · split at e
    · rename_i i _
      split at e
      · rename_i xs ei
        split at e
        · rename_i hp
          cases e
          obtain ⟨a, ds, vs, e1, e2, e3, rr⟩ := S.obj i _ ei
          cases e2
          cases r with
          | ref e4 =>
            rw [e1] at e4
            cases e4
            have nl := S.dis a (List.mem_of_getElem? e1)
            exact .lst e3 (fun x => nl (.inl x)) (fun x => nl (.inr x)) (RepL.out hp rr)
        · cases e
      · cases e
    · cases e
end

section
variable {P : Program} {w : World} {K : PySem.W.Frag} {mg : Str → Option Value} {base : Heap} {ca : Nat → Value}
theorem spG_le {n : Nat} {g g' : List D → Hh → Res (D × Hh)} (hl : LeF g' g) {vs : List V} {H : Hp} {Q : VK} {E : XK} (q : spG K ca n g' vs H Q E) : spG K ca n g vs H Q E := by
  obtain ⟨hn, L, f, h, ds, S, r, p⟩ := q
  refine ⟨hn, L, f, h, ds, S, r, ?_⟩
  have ne : g' ds h ≠ .no := fun z => by
    rw [z] at p
    exact p.elim
  rw [hl ds h ne]
  exact p
theorem spG_pure {n : Nat} {g : List D → Hh → Res (D × Hh)} {vs : List V} {H : Hp} {Q : VK} {E : XK} (q : spG K ca n (pureF g) vs H Q E) : spG K ca n g vs H Q E := by
  obtain ⟨hn, L, f, h, ds, S, r, p⟩ := q
  unfold pureF at p
  by_cases hp : pureDs ds = true
  · rw [if_pos hp] at p
    refine ⟨hn, fun a => L a ∨ a ∈ f, [], [], ds, ⟨rfl, List.nodup_nil, fun a x => x.elim (S.out a) fun m => ?_, fun a m => by simp at m, fun i d e => by simp at e⟩, RepL.iso hp r, ?_⟩
    · obtain ⟨vs, e⟩ := S.at m
      rw [e]
      exact fun z => nomatch z
    · have back : ∀ {f2 : List Addr} {H2 : Hp}, Le [] H f2 H2 → Le f H f H2 ∧ SRel K L f h H2 := fun {f2 H2} l2 => by
        have l : Le f H f H2 := ⟨⟨[], by simp, by simp⟩, fun a o e _ => l2.keep a o e (by simp)⟩
        refine ⟨l, S.len, S.nd, fun a x z => ?_, S.dis, fun i d e => ?_⟩
        · have := S.out a x
          cases k : H a with
          | none => exact this k
          | some o =>
            rw [l2.keep a o k (by simp)] at z
            cases z
        · obtain ⟨a, ds, vs, e1, e2, e3, rr⟩ := S.obj i d e
          exact ⟨a, ds, vs, e1, e2, l2.keep _ _ e3 (by simp), RepL.mono S l rr⟩
      cases k : g ds [] with
      | ok z =>
        obtain ⟨d, h'⟩ := z
        rw [k] at p
        simp only at p
        cases k2 : frzD h' d with
        | none =>
          rw [k2] at p
          exact p.elim
        | some d' =>
          rw [k2] at p
          intro f2 H2 l2 S2 v rv
          obtain ⟨l, S'⟩ := back l2
          exact p f H2 l S' v (frz_rep S2 rv k2)
      | exc c xs h' =>
        rw [k] at p
        intro f2 H2 dd l2 S2
        obtain ⟨l, S'⟩ := back l2
        exact p f H2 dd l S'
      | no =>
        rw [k] at p
        exact p.elim
  · rw [if_neg hp] at p
    exact p.elim

/-- a def that gives g, as it is called by its name -/
def DefAt (P : Program) (w : World) (K : PySem.W.Frag) (mg : Str → Option Value) (base : Heap) (ca : Nat → Value) (lv : Nat) (x : Str) (n : Nat) (g : List D → Hh → Res (D × Hh)) : Prop :=
  ∃ (fa : Addr) (fd : FuncData) (ps : List Str), mg x = some (.ref fa) ∧ PySem.W.keepIn K (.ref fa) = true ∧ Binds K fd ps [] ∧ ps.length = n ∧ FnOk P w K mg base (L2.CX P w) lv fa fd ps (spG K ca n g)
theorem DefAt.up {lv lv' : Nat} {x : Str} {n : Nat} {g : List D → Hh → Res (D × Hh)} (d : DefAt P w K mg base ca lv x n g) (h : lv ≤ lv') : DefAt P w K mg base ca lv' x n g :=
  let ⟨fa, fd, ps, a, b, c, e, F⟩ := d
  ⟨fa, fd, ps, a, b, c, e, F.mono h⟩
theorem DefAt.le {lv : Nat} {x : Str} {n : Nat} {g g' : List D → Hh → Res (D × Hh)} (d : DefAt P w K mg base ca lv x n g) (h : LeF g' g) : DefAt P w K mg base ca lv x n g' :=
  let ⟨fa, fd, ps, a, b, c, e, F⟩ := d
  ⟨fa, fd, ps, a, b, c, e, F.imp fun _ _ _ _ q => spG_le h q⟩
theorem DefAt.pure {lv : Nat} {x : Str} {n : Nat} {g : List D → Hh → Res (D × Hh)} (d : DefAt P w K mg base ca lv x n g) : DefAt P w K mg base ca lv x n (pureF g) :=
  let ⟨fa, fd, ps, a, b, c, e, F⟩ := d
  ⟨fa, fd, ps, a, b, c, e, F.imp fun _ _ _ _ q => spG_pure q⟩

/-- a def of the text, where it stands -/
def Stands (K : PySem.W.Frag) (mg : Str → Option Value) (x : Str) (st : Stmt) (ps : List Str) : Prop :=
  ∃ (f : Addr) (fd : FuncData), mg x = some (.ref f) ∧ Fun K x x st f fd ∧ Binds K fd ps []
/-- what is known of the classes of errors -/
structure XOk (nm : List Str) (ca : Nat → Value) (exk cls : Nat → Bool) (sub : Nat → Nat → Option Bool) (K : PySem.W.Frag) (mg : Str → Option Value) : Prop where
  exs : ∀ k x, exk k = true → nm[k]? = some x → ∃ (C : Addr) (bmB : List Value) (B newId initId : String), ExcBaseFacts B newId initId bmB ∧ PySem.W.excIn K C bmB newId = true ∧ mg x = some (.ref C) ∧ PySem.W.keepIn K (.ref C) = true ∧
    (PySem.W.subIn K (.ref C) (.type "BaseException") = some true ∧ PySem.W.typeIn K (.ref C) = some (.type "type")) ∧ ca k = .ref C
  hnd : ∀ c k x b, sub c k = some b → nm[k]? = some x → PySem.W.exmOne K (ca c) (ca k) = some b
  hcl : ∀ k x, nm[k]? = some x → cls k = true → mg x = some (ca k) ∨ (mg x = none ∧ bootBuiltins x = some (ca k) ∧ x ≠ "__name__")

/-- THE RULE for a def -/
theorem def_fn {nm : List Str} {G : Gam} {lv : Nat} {x : Str} {st : Stmt} {f : Addr} {fd : FuncData} {N ps : List Str} {ir : Sms} (F : Fun K x x st f fd) (sc : FnScope N ps (defScope st)) (hm : mSs ⟨N, nm⟩ (defScope st) ir (defBody st) = true)
    (g : GOk nm ca G lv P w K mg base) (xo : XOk nm ca G.exk G.cls G.sub K mg) : FnOk P w K mg base (L2.CX P w) (lv + 1) f fd ps (spG K ca ps.length (runD G N.length ir)) := by
  refine F.okX sc (fun vs H Q E h => h.1) fun cdv A outer s H vs Q E hr h => ?_
  obtain ⟨hn, L, fl, hh, ds, S, r, p⟩ := h
  refine ⟨_, soundSs (W := fun cls d _ H => E cls d H) ir ⟨⟨rfl, sc.nd, rfl, rfl, hr, g⟩, fun _ => rfl, rfl, rfl, passes_of rfl, fun k x a b => ?_, xo.hnd, xo.hcl⟩ (takes_of rfl rfl rfl rfl) hm, ?_⟩
  · obtain ⟨C, bmB, B, nw, ii, h1, h2, h3, h4, h5, h6⟩ := xo.exs k x a b
    exact ⟨C, bmB, B, nw, ii, h1, h2, h3, h4, raises_own h5.1 h5.2, h6⟩
  · refine ⟨L, fl, ds.map some ++ List.replicate (N.length - ds.length) none, hh, S, ?_, ?_⟩
    · have hl := r.length
      have hN : ps.length ≤ N.length := by
        have := congrArg List.length sc.pre
        rw [List.length_take] at this
        omega
      refine ⟨by simp [L2.start, hl], fun i d e => ?_⟩
      by_cases hi : i < ds.length
      · rw [List.getElem?_append_left (by simpa using hi), List.getElem?_map] at e
        cases k : ds[i]? with
        | none => rw [k] at e; cases e
        | some d' =>
          rw [k] at e
          cases e
          obtain ⟨v, h1, h2⟩ := r.get k
          refine ⟨v, ?_, h2⟩
          unfold L2.start
          rw [List.getElem?_append_left (by simpa [hl] using hi), List.getElem?_map, h1]
          rfl
      · rw [List.getElem?_append_right (by simpa using hi)] at e
        rw [List.getElem?_replicate] at e
        split at e <;> cases e
    · have p' := p
      unfold runD at p'
      cases k : evSs G ir (ds.map some ++ List.replicate (N.length - ds.length) none) hh with
      | no =>
        rw [k] at p'
        exact p'.elim
      | exc c xs h' =>
        rw [k] at p'
        exact p'.elim
      | ok o =>
        rw [k] at p'
        cases o with
        | nx r' h' => exact fun f' H' σ' l S' sl' => p' f' H' l S' .non .non
        | rt d h' => exact fun f' H' v l S' rv => p' f' H' l S' v rv
        | bk r' h' => exact p'.elim
        | ct r' h' => exact p'.elim
        | ex c xs r' h' => exact fun f' H' σ' dd l S' sl' => p' f' H' dd l S'
theorem def_at {nm : List Str} {G : Gam} {lv : Nat} {x : Str} {st : Stmt} {N ps : List Str} {ir : Sms} (T : Stands K mg x st ps) (sc : FnScope N ps (defScope st)) (hm : mSs ⟨N, nm⟩ (defScope st) ir (defBody st) = true)
    (g : GOk nm ca G lv P w K mg base) (xo : XOk nm ca G.exk G.cls G.sub K mg) : DefAt P w K mg base ca (lv + 1) x ps.length (runD G N.length ir) :=
  let ⟨f, fd, hmg, F, hb⟩ := T
  ⟨f, fd, ps, hmg, F.kp, hb, rfl, def_fn F sc hm g xo⟩
end
end Z9

set_option Elab.async false
set_option linter.all false
set_option maxRecDepth 100000
set_option maxHeartbeats 4000000
/-! E14: tables of known things, the law's end. -/
namespace Z9
open PySem PySem.Spec PyProof.Rows L2

abbrev Fn := List D → Hh → Res (D × Hh)
/-- classes of errors: number and base's numbers -/
def subOf (t : List (Nat × List Nat)) (c k : Nat) : Option Bool := if (t.map (·.1)).contains k then (t.lookup c).map fun l => l.contains k else none
def mkG (fns : List (Nat × Nat × Fn)) (cons : List (Nat × D)) (t : List (Nat × List Nat)) (ex : List Nat) : Gam where
  fn k := fns.lookup k
  con k := cons.lookup k
  sub := subOf t
  exk k := ex.contains k
  cls k := (t.map (·.1)).contains k
theorem mem_of_look {α : Type} : ∀ {l : List (Nat × α)} {k : Nat} {a : α}, l.lookup k = some a → (k, a) ∈ l
  | [], _, _, h => by cases h
  | (j, b) :: l, k, a, h => by
    rw [List.lookup_cons] at h
    split at h
    · rename_i e
      cases h
      have : k = j := by simpa using e
      subst this
      exact List.mem_cons_self
    · exact List.mem_cons_of_mem _ (mem_of_look h)
section
variable {nm : List Str} {P : Program} {w : World} {K : PySem.W.Frag} {mg : Str → Option Value} {base : Heap} {ca : Nat → Value} {lv : Nat}
/-- what is known of the constants -/
def ConOk (nm : List Str) (K : PySem.W.Frag) (mg : Str → Option Value) (cons : List (Nat × D)) : Prop := ∀ p ∈ cons, ∀ x, nm[p.1]? = some x → ∃ v u, mg x = some u ∧ RelV v u ∧ ∀ L f H, Rep K L f H v p.2
theorem gok_of {fns : List (Nat × Nat × Fn)} {cons : List (Nat × D)} {t : List (Nat × List Nat)} {ex : List Nat} (hf : ∀ p ∈ fns, ∃ x, nm[p.1]? = some x ∧ DefAt P w K mg base ca lv x p.2.1 p.2.2)
    (hc : ConOk nm K mg cons) (hb : ∀ x ∈ bnames, mg x = none) : GOk nm ca (mkG fns cons t ex) lv P w K mg base where
  fn k n g x e hx := by
    obtain ⟨y, h1, h2⟩ := hf _ (mem_of_look e)
    rw [hx] at h1
    cases h1
    exact h2
  con k d x e hx := hc _ (mem_of_look e) x hx
  blt := hb
/-- a text as a constant of the module -/
theorem con_str {x : Str} {s : List Nat} (h : ∃ t, mg x = some (.str ⟨s.toArray⟩ t)) (ho : ∀ c ∈ s, c < 0x110000) (hz : s.length ≤ sizeLine) : ∃ v u, mg x = some u ∧ RelV v u ∧ ∀ L f H, Rep K L f H v (.str s) :=
  let ⟨t, e⟩ := h
  ⟨.str ⟨s.toArray⟩, _, e, ⟨t, rfl⟩, fun _ _ _ => .strOf ho hz⟩
theorem con_int {x : Str} {i : Int} (h : ∃ t, mg x = some (.int i t)) : ∃ v u, mg x = some u ∧ RelV v u ∧ ∀ L f H, Rep K L f H v (.int i) :=
  let ⟨t, e⟩ := h
  ⟨.int i, _, e, ⟨t, rfl⟩, fun _ _ _ => .int i⟩
/-- an error's class, where it stands -/
def XAt (K : PySem.W.Frag) (mg : Str → Option Value) (x : Str) (C : Addr) : Prop := ∃ (bmB : List Value) (B newId initId : String), ExcBaseFacts B newId initId bmB ∧ PySem.W.excIn K C bmB newId = true ∧ mg x = some (.ref C) ∧ PySem.W.keepIn K (.ref C) = true ∧
    (PySem.W.subIn K (.ref C) (.type "BaseException") = some true ∧ PySem.W.typeIn K (.ref C) = some (.type "type"))

/-- law's promise -/
def spLaw (K : PySem.W.Frag) : Sp := fun vs H Q _ => ∃ (a : Addr) (ns : List Int), vs = [.ref a] ∧ SqL K H a (ns.map V.int) ∧ ns.length ≤ 63 ∧ ∀ H', Q (.bl true) H'
theorem law_end {x : Str} {g : Fn} {fa : Addr} {fd : FuncData} {ps : List Str} (F : FnOk P w K mg base (L2.CX P w) lv fa fd ps (spG K ca 1 g)) (hg : ∀ ns : List Int, ns.length ≤ 63 → ∃ h, g [.scr ns] [] = .ok (.bl true, h)) :
    FnOk P w K mg base (L2.CX P w) lv fa fd ps (spLaw K) := by
  refine F.imp fun vs H Q E q => ?_
  obtain ⟨p, ns, rfl, hq, hl, k⟩ := q
  obtain ⟨h, eg⟩ := hg ns hl
  refine ⟨rfl, fun _ => False, [], [], [.scr ns], ⟨rfl, List.nodup_nil, fun _ z => z.elim, fun _ m => by simp at m, fun i d e => by simp at e⟩, .cons (.scr ?_) .nil, ?_⟩
  · rcases hq with r | r
    · exact .inl ⟨r, fun z => z, by simp⟩
    · exact .inr r
  · rw [eg]
    intro f' H' _ _ v rv
    rw [rv.blE]
    exact k H'
end
end Z9

set_option Elab.async false
set_option linter.all false
set_option maxRecDepth 100000
set_option maxHeartbeats 4000000
/-! E15: what the printed texts use. -/
namespace Z9
open PySem PySem.Spec PyProof.Rows L2

theorem all_cons {α : Type} {R : α → Prop} {a : α} {l : List α} (h : R a) (t : ∀ x ∈ l, R x) : ∀ x ∈ a :: l, R x := fun x m => by
  rcases List.mem_cons.mp m with e | e
  · exact e ▸ h
  · exact t x e
theorem all_nil {α : Type} {R : α → Prop} : ∀ x ∈ ([] : List α), R x := fun x m => by cases m
def caL (l : List (Nat × Addr)) (k : Nat) : Value := match l.lookup k with
  | some a => .ref a
  | none => .none
section
variable {nm : List Str} {P : Program} {w : World} {K : PySem.W.Frag} {mg : Str → Option Value} {base : Heap} {ca : Nat → Value} {lv : Nat}
theorem hf_cons {x : Str} {k n : Nat} {g : Fn} {fns : List (Nat × Nat × Fn)} (hx : nm[k]? = some x) (d : DefAt P w K mg base ca lv x n g) (t : ∀ p ∈ fns, ∃ x, nm[p.1]? = some x ∧ DefAt P w K mg base ca lv x p.2.1 p.2.2) :
    ∀ p ∈ (k, n, g) :: fns, ∃ x, nm[p.1]? = some x ∧ DefAt P w K mg base ca lv x p.2.1 p.2.2 := all_cons (R := fun (p : Nat × Nat × Fn) => ∃ x, nm[p.1]? = some x ∧ DefAt P w K mg base ca lv x p.2.1 p.2.2) ⟨x, hx, d⟩ t
theorem hf_nil : ∀ p ∈ ([] : List (Nat × Nat × Fn)), ∃ x, nm[p.1]? = some x ∧ DefAt P w K mg base ca lv x p.2.1 p.2.2 := fun _ m => by cases m
theorem con1 {k : Nat} {d : D} {y : Str} (hx : nm[k]? = some y) (h : ∃ v u, mg y = some u ∧ RelV v u ∧ ∀ L f H, Rep K L f H v d) : ∀ x, nm[k]? = some x → ∃ v u, mg x = some u ∧ RelV v u ∧ ∀ L f H, Rep K L f H v d := fun x e => by
  rw [hx] at e
  cases e
  exact h
theorem ex1 {k : Nat} {x : Str} {C : Addr} (hx : nm[k]? = some x) (hc : ca k = .ref C) (h : XAt K mg x C) : ∃ x C, nm[k]? = some x ∧ XAt K mg x C ∧ ca k = .ref C := ⟨x, C, hx, h, hc⟩
theorem stands_mk {x : Str} {st : Stmt} {f : Addr} {fd : FuncData} {ps : List Str} (h : mg x = some (.ref f)) (F : Fun K x x st f fd) (b : Binds K fd ps []) : Stands K mg x st ps := ⟨f, fd, h, F, b⟩
theorem xok_of {t : List (Nat × List Nat)} {ex : List Nat} (hex : ∀ k ∈ ex, ∃ x C, nm[k]? = some x ∧ XAt K mg x C ∧ ca k = .ref C)
    (hp : ∀ c ∈ t, ∀ k ∈ t, PySem.W.exmOne K (ca c.1) (ca k.1) = some (c.2.contains k.1)) (hc : ∀ k ∈ t, ∃ x, nm[k.1]? = some x ∧ mg x = some (ca k.1)) :
    XOk nm ca (fun k => ex.contains k) (fun k => (t.map (·.1)).contains k) (subOf t) K mg where
  exs k x hk hx := by
    obtain ⟨y, C, e, ⟨bmB, B, nw, ii, h1, h2, h3, h4, h5⟩, e2⟩ := hex k (by simpa using hk)
    rw [hx] at e
    cases e
    exact ⟨C, bmB, B, nw, ii, h1, h2, h3, h4, h5, e2⟩
  hnd c k x b hb hx := by
    unfold subOf at hb
    split at hb
    · rename_i hk
      simp only [List.contains_eq_mem, List.mem_map, decide_eq_true_eq] at hk
      obtain ⟨p, hp1, rfl⟩ := hk
      cases e : t.lookup c with
      | none =>
        rw [e] at hb
        cases hb
      | some l =>
        rw [e] at hb
        cases hb
        exact hp _ (mem_of_look e) _ hp1
    · cases hb
  hcl k x hx hk := by
    simp only [List.contains_eq_mem, List.mem_map, decide_eq_true_eq] at hk
    obtain ⟨p, hp1, rfl⟩ := hk
    obtain ⟨y, e, e2⟩ := hc p hp1
    rw [hx] at e
    cases e
    exact .inl e2
end
/-- what the law's row asks -/
def LawFd (l : PySem.W.OpenLaw) (w : World) (K : PySem.W.Frag) (mg : Str → Option Value) (fa : Addr) (k : Nat) : Prop :=
  ∃ fd : FuncData, (∀ (s : Shared) (u : Value), BindsTo s fd ⟨[u], []⟩ [("_law_script", u)]) ∧ ∀ base : Heap, K.In base → base.Ns mainGlobals mg → FnOk l.prog w K mg base (L2.CX l.prog w) k fa fd ["_law_script"] (spLaw K)
theorem walk_k {k : Nat} {l : PySem.W.OpenLaw} {q : Program} {loose : List Str} {XP : (Str → Option Value) → Heap → Prop} {YP : World → Heap → Prop} {d : DefRec} {K : Params → PySem.W.Frag} (hk : Room k callerA) (hn : l.most = some 63) (hdf : d.params.defaults = [])
    (hY : ∀ (w : World) (h : Heap), YP w h → (K w.params).In h)
    (F : ∀ (w : World) (mg : Str → Option Value) (fa : Addr) (h : Heap), (K w.params).In h → h.Ns mainGlobals mg → mg d.name = some (.ref fa) → LawFd l w (K w.params) mg fa k) :
    PySem.W.WalkO q loose XP YP l.row.toRowW d [] (fun f vs => PySem.call f vs) :=
  L2.walk_of (n := 63) (k := k) (x := "_law_script") (CX := fun w => L2.CX l.prog w) (sp := fun w => spLaw (K w.params)) hn (by decide) hdf hk hY F (fun _ _ a ns hl _ hS => ⟨a, ns, rfl, hS, hl, fun _ => rfl⟩) (fun _ _ _ _ _ z => let ⟨_, _, _, _, _, _, _, _, _, _, _, _, e⟩ := z; e)
end Z9

set_option Elab.async false
set_option linter.all false
set_option maxRecDepth 100000
set_option maxHeartbeats 4000000
/-! E16: rewriting rules for what forms give; the lots. -/
namespace Z9
open PySem PySem.Spec
section
variable (G : Gam) (r : Z9.Env) (h : Hh)
@[simp] theorem getV_z (a : D) (r : Z9.Env) : getV (some a :: r) 0 = .ok a := rfl
@[simp] theorem getV_s (a : Option D) (r : Z9.Env) (i : Nat) : getV (a :: r) (i + 1) = getV r i := by simp [getV]
@[simp] theorem wipeE_n (r : Z9.Env) : wipeE r [] = r := rfl
@[simp] theorem wipeE_c (r : Z9.Env) (v : Nat) (vs : List Nat) : wipeE r (v :: vs) = (wipeE r vs).set v none := rfl
@[simp] theorem ev_var (i) : evE G (.var i) r h = (getV r i).bind fun d => .ok (d, h) := by simp only [evE]
@[simp] theorem ev_con (d) : evE G (.con d) r h = .ok (d, h) := by simp only [evE]
@[simp] theorem ev_glob (k) : evE G (.glob k) r h = (ofO (G.con k)).bind fun d => .ok (d, h) := by simp only [evE]
@[simp] theorem ev_tup (es) : evE G (.tup es) r h = (evEs G es r h).bind fun p => ofB (okN p.1.length) (.tup p.1, p.2) := by simp only [evE]
@[simp] theorem ev_lst (es) : evE G (.lst es) r h = (evEs G es r h).bind fun p => ofB (okN p.1.length) (.lst p.1, p.2) := by simp only [evE]
@[simp] theorem ev_newl (es) : evE G (.newl es) r h = (evEs G es r h).bind fun p => ofB (okN p.1.length) (.ref p.2.length, p.2 ++ [.lst p.1]) := by simp only [evE]
@[simp] theorem ev_bin (o a b) : evE G (.bin o a b) r h = (evE G a r h).bind fun p => (evE G b r p.2).bind fun q => (binD o p.1 q.1).bind fun d => .ok (d, q.2) := by simp only [evE]
theorem negD_eq (p : D × Hh) : (match p.1 with | .int i => (.ok (.int (-i), p.2) : Res (D × Hh)) | _ => .no) = match p.1 with | .int i => .ok (.int (-i), p.2) | _ => .no := rfl
@[simp] theorem ev_neg (i : Int) : evE G (.neg (.con (.int i))) r h = .ok (.int (-i), h) := by simp [evE]
@[simp] theorem ev_cmp (o a b) : evE G (.cmp o a b) r h = (evE G a r h).bind fun p => (evE G b r p.2).bind fun q => (cmpD o p.1 q.1).bind fun d => .ok (d, q.2) := by simp only [evE]
@[simp] theorem ev_cmp2 (o o2 a b c) : evE G (.cmp2 o o2 a b c) r h = (evE G a r h).bind fun p => (evE G b r p.2).bind fun q => (cmpD o p.1 q.1).bind fun d => (boolD d).bind fun t =>
      if t then (evE G c r q.2).bind fun w => (cmpD o2 q.1 w.1).bind fun e => .ok (e, w.2) else .ok (.bl false, q.2) := by simp only [evE]
@[simp] theorem ev_and (es) : evE G (.and es) r h = evA G true es r h := by simp only [evE]
@[simp] theorem ev_or (es) : evE G (.or es) r h = evA G false es r h := by simp only [evE]
@[simp] theorem ev_dic0 : evE G .dic0 r h = .ok (.dic [] [], h) := by simp only [evE]
@[simp] theorem ev_not (a) : evE G (.not a) r h = (evE G a r h).bind fun p => (boolD p.1).bind fun t => .ok (.bl (!t), p.2) := by simp only [evE]
@[simp] theorem ev_ife (c a b) : evE G (.ife c a b) r h = (evE G c r h).bind fun p => (boolD p.1).bind fun t => if t then evE G a r p.2 else evE G b r p.2 := by simp only [evE]
@[simp] theorem ev_ix (a i) : evE G (.ix a i) r h = (evE G a r h).bind fun p => (evE G i r p.2).bind fun q => (ixD q.2 p.1 q.1).bind fun d => .ok (d, q.2) := by simp only [evE]
@[simp] theorem ev_sl (a lo hi) : evE G (.sl a lo hi) r h = (evE G a r h).bind fun p => (evO G lo r p.2).bind fun q => (evO G hi r q.2).bind fun w => (slD w.2 p.1 q.1 w.1).bind fun d => .ok (d, w.2) := by simp only [evE]
@[simp] theorem ev_isi (a t) : evE G (.isi a t) r h = (evE G a r h).bind fun p => (isiD p.2 p.1 t).bind fun d => .ok (d, p.2) := by simp only [evE]
@[simp] theorem ev_bcall (f es) : evE G (.bcall f es) r h = (evEs G es r h).bind fun p => (bcallD f p.1 p.2).bind fun d => .ok (d, p.2) := by simp only [evE]
@[simp] theorem ev_bmeth (m a es) : evE G (.bmeth m a es) r h = (evE G a r h).bind fun p => if recvD m p.1 then (evEs G es r p.2).bind fun q => bmethD m p.1 q.1 q.2 else .no := by simp only [evE]
theorem ev_call {k : Nat} {n : Nat} {g : Fn} (e : G.fn k = some (n, g)) (es) : evE G (.call k es) r h = (evEs G es r h).bind fun p => if p.1.length = n then g p.1 p.2 else .no := by simp only [evE, e]
@[simp] theorem ev_lc (new elt t it ifs own) : evE G (.lc new elt t it ifs own) r h = (evI G it r h).bind fun p =>
      (lcD (fun x h1 => (setT t x (wipeE r own)).bind fun r1 => (evTs G ifs r1 h1).bind fun b => if b.1 then (evE G elt r1 b.2).bind fun y => .ok (some y.1, y.2) else .ok (none, b.2)) p.1 [] p.2).bind fun q =>
        if new then .ok (.ref q.2.length, q.2 ++ [.lst q.1]) else .ok (.lst q.1, q.2) := by simp only [evE]
@[simp] theorem evEs_n : evEs G .nil r h = .ok ([], h) := by simp only [evEs]
@[simp] theorem evEs_c (e es) : evEs G (.cons e es) r h = (evE G e r h).bind fun p => (evEs G es r p.2).bind fun q => .ok (p.1 :: q.1, q.2) := by simp only [evEs]
@[simp] theorem evA_1 (k e) : evA G k (.cons e .nil) r h = (evE G e r h).bind fun p => (boolD p.1).bind fun t => .ok (.bl t, p.2) := by simp only [evA]
@[simp] theorem evA_2 (k e e2 es) : evA G k (.cons e (.cons e2 es)) r h = (evE G e r h).bind fun p => (boolD p.1).bind fun t => if t = k then evA G k (.cons e2 es) r p.2 else .ok (.bl t, p.2) := by rw [evA]
@[simp] theorem evTs_n : evTs G .nil r h = .ok (true, h) := by simp only [evTs]
@[simp] theorem evTs_c (e es) : evTs G (.cons e es) r h = (evE G e r h).bind fun p => (boolD p.1).bind fun t => if t then evTs G es r p.2 else .ok (false, p.2) := by simp only [evTs]
@[simp] theorem evO_n : evO G .none r h = .ok (none, h) := by simp only [evO]
theorem evO_s {e : Ex} {i : Int} {h' : Hh} (k : evE G e r h = .ok (.int i, h')) : evO G (.some e) r h = .ok (some i, h') := by simp [evO, k]
@[simp] theorem evO_con (i : Int) : evO G (.some (.con (.int i))) r h = .ok (some i, h) := by simp [evO]
theorem evI_lst {e : Ex} {xs : List D} {h' : Hh} (k : evE G e r h = .ok (.lst xs, h')) : evI G (.seq e) r h = .ok (xs, h') := by simp [evI, k]
theorem evI_tup {e : Ex} {xs : List D} {h' : Hh} (k : evE G e r h = .ok (.tup xs, h')) : evI G (.seq e) r h = .ok (xs, h') := by simp [evI, k]
theorem evI_str {e : Ex} {s : List Nat} {h' : Hh} (k : evE G e r h = .ok (.str s, h')) : evI G (.seq e) r h = .ok (s.map fun c => .str [c], h') := by simp [evI, k]
theorem evI_range {e : Ex} {n : Nat} {h' : Hh} (k : evE G e r h = .ok (.int n, h')) (hn : n < 1099511627776) : evI G (.range e) r h = .ok ((List.range n).map fun (i : Nat) => .int i, h') := by
  have h1 : -1099511627776 < (n : Int) := by omega
  have h2 : (n : Int) < 1099511627776 := by omega
  unfold evI
  rw [k, Res.bind_ok]
  show ofB (decide _ && decide _) _ = _
  rw [decide_eq_true h1, decide_eq_true h2]
  show Res.ok _ = _
  congr 2
  simp
@[simp] theorem setT_v (i : Nat) (d : D) (r : Z9.Env) : setT (.var i) d r = .ok (r.set i (some d)) := rfl
@[simp] theorem setT_t (ts : Tgs) (xs : List D) (r : Z9.Env) : setT (.tup ts) (.tup xs) r = setTs ts xs r := rfl
@[simp] theorem setT_l (ts : Tgs) (xs : List D) (r : Z9.Env) : setT (.tup ts) (.lst xs) r = setTs ts xs r := rfl
@[simp] theorem setTs_n (r : Z9.Env) : setTs .nil [] r = .ok r := rfl
@[simp] theorem setTs_c (t : Tg) (ts : Tgs) (x : D) (xs : List D) (r : Z9.Env) : setTs (.cons t ts) (x :: xs) r = (setT t x r).bind fun r' => setTs ts xs r' := rfl
@[simp] theorem evS_set (i e) : evS G (.set i e) r h = (evE G e r h).bs r fun p => .ok (.nx (r.set i (some p.1)) p.2) := by simp only [evS]
@[simp] theorem evS_asg (t e) : evS G (.asg t e) r h = (evE G e r h).bs r fun p => (setT t p.1 r).bs r fun r' => .ok (.nx r' p.2) := by simp only [evS]
@[simp] theorem evS_seti (o i e) : evS G (.seti o i e) r h = (evE G e r h).bs r fun p => (evE G o r p.2).bs r fun q => (evE G i r q.2).bs r fun w => (setiD q.1 w.1 p.1 w.2).bs r fun h' => .ok (.nx r h') := by simp only [evS]
@[simp] theorem evS_aug (i o e) : evS G (.aug i o e) r h = (getV r i).bs r fun d => (evE G e r h).bs r fun p => (augD d p.1).bs r fun y => .ok (.nx (r.set i (some y)) p.2) := by simp only [evS]
@[simp] theorem evS_expr (e) : evS G (.expr e) r h = (evE G e r h).bs r fun p => .ok (.nx r p.2) := by simp only [evS]
@[simp] theorem evS_ret (e) : evS G (.ret e) r h = (evE G e r h).bs r fun p => .ok (.rt p.1 p.2) := by simp only [evS]
@[simp] theorem evS_retn : evS G .retn r h = .ok (.rt .non h) := by simp only [evS]
@[simp] theorem evS_iff (c a b) : evS G (.iff c a b) r h = (evE G c r h).bs r fun p => (boolD p.1).bs r fun t => if t then evSs G a r p.2 else evSs G b r p.2 := by simp only [evS]
@[simp] theorem evS_for (t it b) : evS G (.forr t it b) r h = (evI G it r h).bs r fun p => forD (fun x r1 h1 => (setT t x r1).bs r1 fun r2 => evSs G b r2 h1) p.1 r p.2 := by simp only [evS]
@[simp] theorem evS_brk : evS G .brk r h = .ok (.bk r h) := by simp only [evS]
@[simp] theorem evS_cont : evS G .cont r h = .ok (.ct r h) := by simp only [evS]
@[simp] theorem evS_pass : evS G .pass r h = .ok (.nx r h) := by simp only [evS]
@[simp] theorem evS_rais (k es) : evS G (.rais k es) r h = if G.exk k then (evEs G es r h).bs r fun p => .ok (.ex k p.1 r p.2) else .no := by simp only [evS]
/-- after a statement -/
noncomputable def thenS (G : Gam) (ss : Sms) : Out → Res Out
  | .nx r' h' => evSs G ss r' h'
  | o => .ok o
@[simp] theorem thenS_nx (ss r h) : thenS G ss (.nx r h) = evSs G ss r h := rfl
@[simp] theorem thenS_rt (ss d h) : thenS G ss (.rt d h) = .ok (.rt d h) := rfl
@[simp] theorem thenS_ex (ss c xs r h) : thenS G ss (.ex c xs r h) = .ok (.ex c xs r h) := rfl
@[simp] theorem thenS_bk (ss r h) : thenS G ss (.bk r h) = .ok (.bk r h) := rfl
@[simp] theorem thenS_ct (ss r h) : thenS G ss (.ct r h) = .ok (.ct r h) := rfl
@[simp] theorem evSs_n : evSs G .nil r h = .ok (.nx r h) := by simp only [evSs]
@[simp] theorem evSs_c (s ss) : evSs G (.cons s ss) r h = (evS G s r h).bind (thenS G ss) := by
  rw [evSs]
  congr 1
/-- where a try goes on -/
noncomputable def hotD (G : Gam) (hs : Hds) : Res Out → Res Out
  | .ok (.ex c xs r' h') => evH G hs c xs r' h'
  | o => o
theorem evS_try (b hs) (k : hsOk G hs = true) : evS G (.tryy b hs) r h = hotD G hs (evSs G b r h) := by
  simp only [evS, k, if_true]
  cases evSs G b r h with
  | ok o => cases o <;> rfl
  | exc => rfl
  | no => rfl
@[simp] theorem hot_ex (hs c xs r h) : hotD G hs (.ok (.ex c xs r h)) = evH G hs c xs r h := rfl
@[simp] theorem hot_nx (hs r h) : hotD G hs (.ok (.nx r h)) = .ok (.nx r h) := rfl
@[simp] theorem hot_rt (hs d h) : hotD G hs (.ok (.rt d h)) = .ok (.rt d h) := rfl
theorem evH_t {k b hs c xs} (e : G.sub c k = some true) : evH G (.cons k b hs) c xs r h = evSs G b r h := by simp only [evH, e]
theorem evH_f {k b hs c xs} (e : G.sub c k = some false) : evH G (.cons k b hs) c xs r h = evH G hs c xs r h := by simp only [evH, e]
/-- what a body's end gives -/
def endD : Res Out → Res (D × Hh)
  | .ok (.nx _ h') => .ok (.non, h')
  | .ok (.rt d h') => .ok (d, h')
  | .ok (.ex c xs _ h') => .exc c xs h'
  | _ => .no
theorem runD_eq (n b xs) : runD G n b xs h = endD (evSs G b (xs.map some ++ List.replicate (n - xs.length) none) h) := by
  unfold runD endD
  cases evSs G b (xs.map some ++ List.replicate (n - xs.length) none) h with
  | ok o => cases o <;> rfl
  | exc => rfl
  | no => rfl
@[simp] theorem endD_nx (r h) : endD (.ok (.nx r h)) = .ok (.non, h) := rfl
@[simp] theorem endD_rt (d h) : endD (.ok (.rt d h)) = .ok (d, h) := rfl
@[simp] theorem endD_ex (c xs r h) : endD (.ok (.ex c xs r h)) = .exc c xs h := rfl
end
theorem cMul_l {i j : Int} (a : -(2 ^ 64) < i) (b : i < 2 ^ 64) : cMul i j = true := by unfold cMul; rw [decide_eq_true a, decide_eq_true b]; rfl
theorem cMul_r {i j : Int} (a : -(2 ^ 64) < j) (b : j < 2 ^ 64) : cMul i j = true := by unfold cMul; rw [decide_eq_true a, decide_eq_true b]; simp
theorem bin_add (i j : Int) : binD .Add (.int i) (.int j) = .ok (.int (i + j)) := rfl
theorem bin_sub (i j : Int) : binD .Sub (.int i) (.int j) = .ok (.int (i - j)) := rfl
theorem bin_mul_l {i j : Int} (a : -(2 ^ 64) < i) (b : i < 2 ^ 64) : binD .Mult (.int i) (.int j) = .ok (.int (i * j)) := by show ofB _ _ = _; rw [cMul_l a b]; rfl
theorem bin_mul_r {i j : Int} (a : -(2 ^ 64) < j) (b : j < 2 ^ 64) : binD .Mult (.int i) (.int j) = .ok (.int (i * j)) := by show ofB _ _ = _; rw [cMul_r a b]; rfl
theorem bin_mod {i j : Int} (a : 0 < j) : binD .Mod (.int i) (.int j) = .ok (.int (i % j)) := by show ofB _ _ = _; rw [decide_eq_true a]; rfl
theorem bin_div {i j : Int} (a : 0 < j) (b : j < 1073741824) : binD .FloorDiv (.int i) (.int j) = .ok (.int (i / j)) := by show ofB _ _ = _; rw [decide_eq_true a, decide_eq_true b]; rfl
theorem bin_pow {i j : Int} (a : (decide (0 ≤ j) && decide (j ≤ 1000000) && decide (i.natAbs < 2 ^ 64)) = true) : binD .Pow (.int i) (.int j) = .ok (.int (i ^ j.toNat)) := by show ofB _ _ = _; rw [a]; rfl
@[simp] theorem int_lt (i j : Int) : cmpD .Lt (.int i) (.int j) = .ok (.bl (decide (i < j))) := rfl
@[simp] theorem int_le (i j : Int) : cmpD .LtE (.int i) (.int j) = .ok (.bl (decide (i ≤ j))) := rfl
@[simp] theorem int_gt (i j : Int) : cmpD .Gt (.int i) (.int j) = .ok (.bl (decide (j < i))) := rfl
@[simp] theorem int_ge (i j : Int) : cmpD .GtE (.int i) (.int j) = .ok (.bl (decide (j ≤ i))) := rfl
@[simp] theorem canEq_int (i : Int) : canEq (.int i) = true := by simp [canEq, depD]
@[simp] theorem canEq_str (i) : canEq (.str i) = true := by simp [canEq, depD]
@[simp] theorem canEq_bl (i) : canEq (.bl i) = true := by simp [canEq, depD]
@[simp] theorem canEq_non : canEq .non = true := by simp [canEq, depD]
theorem cmp_eq {x y : D} (a : canEq x = true) (b : canEq y = true) : cmpD .Eq x y = .ok (.bl (eqD x y)) := by unfold cmpD; simp only [a, b]; rfl
theorem cmp_ne {x y : D} (a : canEq x = true) (b : canEq y = true) : cmpD .NotEq x y = .ok (.bl (!eqD x y)) := by unfold cmpD; simp only [a, b]; rfl
@[simp] theorem int_eq (i j : Int) : cmpD .Eq (.int i) (.int j) = .ok (.bl (decide (i = j))) := by rw [cmp_eq (by simp) (by simp)]; rfl
@[simp] theorem int_ne (i j : Int) : cmpD .NotEq (.int i) (.int j) = .ok (.bl (!decide (i = j))) := by rw [cmp_ne (by simp) (by simp)]; rfl
@[simp] theorem str_eq (i j) : cmpD .Eq (.str i) (.str j) = .ok (.bl (decide (i = j))) := by rw [cmp_eq (by simp) (by simp)]; simp [eqD]
@[simp] theorem str_ne (i j) : cmpD .NotEq (.str i) (.str j) = .ok (.bl (!decide (i = j))) := by rw [cmp_ne (by simp) (by simp)]; simp [eqD]
theorem ixN_of {n : Nat} {i : Int} (a : 0 ≤ i) (b : i < n) : ixN n i = some i.toNat := by unfold ixN; rw [if_pos a, if_pos b]
theorem atD_in {α : Type} {xs : List α} {i : Int} (a : 0 ≤ i) (b : i < xs.length) : atD xs i = xs[i.toNat]? := by unfold atD; rw [ixN_of a b]; rfl
theorem atD_nat {α : Type} {xs : List α} {i : Nat} (b : i < xs.length) : atD xs i = xs[i]? := by rw [atD_in (by omega) (by omega)]; simp

def seqD : D × Hh → Res (List D × Hh)
  | (.lst xs, h) => .ok (xs, h)
  | (.tup xs, h) => .ok (xs, h)
  | (.str s, h) => .ok (s.map fun c => .str [c], h)
  | _ => .no
@[simp] theorem seqD_l (xs h) : seqD (.lst xs, h) = .ok (xs, h) := rfl
@[simp] theorem seqD_t (xs h) : seqD (.tup xs, h) = .ok (xs, h) := rfl
@[simp] theorem seqD_s (s h) : seqD (.str s, h) = .ok (s.map fun c => .str [c], h) := rfl
@[simp] theorem evI_seq (G : Gam) (r : Z9.Env) (h : Hh) (e : Ex) : evI G (.seq e) r h = (evE G e r h).bind seqD := by
  simp only [evI]
  congr 1
  funext p
  obtain ⟨d, h⟩ := p
  cases d <;> rfl
def rangeD : D × Hh → Res (List D × Hh)
  | (.int n, h) => ofB (decide (-1099511627776 < n) && decide (n < 1099511627776)) ((List.range n.toNat).map fun (i : Nat) => .int (0 + (i : Int)), h)
  | _ => .no
@[simp] theorem evI_rng (G : Gam) (r : Z9.Env) (h : Hh) (e : Ex) : evI G (.range e) r h = (evE G e r h).bind rangeD := by
  simp only [evI]
  congr 1
  funext p
  obtain ⟨d, h⟩ := p
  cases d <;> rfl
theorem rangeD_n {n : Int} {h : Hh} (a : 0 ≤ n) (b : n < 1099511627776) : rangeD (.int n, h) = .ok ((List.range n.toNat).map fun (i : Nat) => .int (i : Int), h) := by
  have h1 : -1099511627776 < n := by omega
  show ofB (decide _ && decide _) _ = _
  rw [decide_eq_true h1, decide_eq_true b]
  show Res.ok _ = _
  simp only [Int.zero_add]
/-- a comprehension whose turns change nothing -/
theorem lcD_map {f : D → Hh → Res (Option D × Hh)} {F : D → Option D} {h : Hh} : ∀ {xs acc : List D}, (∀ x ∈ xs, f x h = .ok (F x, h)) → acc.length + xs.length ≤ 16777216 → lcD f xs acc h = .ok (acc ++ xs.filterMap F, h)
  | [], acc, _, _ => by simp [lcD]
  | x :: xs, acc, hf, hl => by
    have e := hf x List.mem_cons_self
    have t := fun y m => hf y (List.mem_cons_of_mem _ m)
    simp only [List.length_cons] at hl
    cases k : F x with
    | none =>
      rw [k] at e
      simp only [lcD, e]
      rw [lcD_map t (by omega), List.filterMap_cons, k]
    | some y =>
      rw [k] at e
      simp only [lcD, e]
      rw [if_pos (by omega), lcD_map t (by simp; omega), List.filterMap_cons, k]
      simp
theorem ints_map (xs : List Int) : ints? (xs.map D.int) = some xs := by
  induction xs with
  | nil => rfl
  | cons x xs ih => simp [ints?, ih]
end Z9

set_option Elab.async false
set_option linter.all false
set_option maxRecDepth 100000
set_option maxHeartbeats 4000000
/-! E17: the lots of a law: pot and draw. -/
namespace Z9
open PySem PySem.Spec
def irDraw : Sms := (.cons (.set 2 (.ix (.var 0) (.con (.int 2)))) (.cons (.seti (.var 0) (.con (.int 2)) (.bin .Add (.var 2) (.con (.int 1)))) (.cons (.iff (.cmp .Gt (.bcall .len (.cons (.ix (.var 0) (.con (.int 0))) .nil)) (.con (.int 0))) (.cons (.set 4 (.ix (.ix (.var 0) (.con (.int 0))) (.con (.int 0)))) (.cons (.seti (.ix (.var 0) (.con (.int 0))) (.con (.int 0)) (.bin .FloorDiv (.var 4) (.var 1))) (.cons (.iff (.cmp .Lt (.var 4) (.var 1)) (.cons (.expr (.bmeth .pop (.ix (.var 0) (.con (.int 0))) (.cons (.con (.int 0)) .nil))) .nil) .nil) (.cons (.ret (.bin .Mod (.bcall .int (.cons (.var 4) .nil)) (.var 1))) .nil)))) .nil) (.cons (.set 3 (.bin .Add (.bin .Add (.bin .Mult (.ix (.ix (.var 0) (.con (.int 1))) (.bin .Mod (.bcall .int (.cons (.var 2) .nil)) (.bcall .len (.cons (.ix (.var 0) (.con (.int 1))) .nil)))) (.con (.int 7919))) (.bin .Mult (.con (.int 104729)) (.var 2))) (.bin .Mult (.ix (.var 0) (.con (.int 3))) (.con (.int 31))))) (.cons (.set 4 (.bin .Mod (.bcall .int (.cons (.bin .Add (.bin .Mult (.var 3) (.con (.int 48271))) (.con (.int 11))) .nil)) (.con (.int 2147483647)))) (.cons (.set 4 (.bin .Mod (.bcall .int (.cons (.bin .Mult (.var 4) (.bin .Add (.bin .FloorDiv (.var 4) (.con (.int 1009))) (.con (.int 69621)))) .nil)) (.con (.int 2147483629)))) (.cons (.set 4 (.bin .Mod (.bcall .int (.cons (.bin .Add (.bin .Mult (.var 4) (.bin .Add (.bin .FloorDiv (.var 4) (.con (.int 2003))) (.con (.int 40692)))) (.var 2)) .nil)) (.con (.int 2147483399)))) (.cons (.ret (.bin .Mod (.bcall .int (.cons (.bin .FloorDiv (.var 4) (.con (.int 64))) .nil)) (.var 1))) .nil))))))))
def irPot : Sms := (.cons (.set 1 (.lc false (.bcall .int (.cons (.var 4) .nil)) (.var 4) (.seq (.sl (.var 0) .none (.some (.con (.int 63))))) .nil [4])) (.cons (.set 2 (.lc true (.bcall .abs (.cons (.var 4) .nil)) (.var 4) (.seq (.var 1)) (.cons (.cmp .GtE (.bcall .abs (.cons (.var 4) .nil)) (.bin .Pow (.con (.int 10)) (.con (.int 18)))) .nil) [4])) (.cons (.set 3 (.bin .Add (.lc false (.bin .Mod (.bcall .int (.cons (.var 4) .nil)) (.con (.int 1000000007))) (.var 4) (.seq (.var 1)) (.cons (.cmp .Lt (.bcall .abs (.cons (.var 4) .nil)) (.bin .Pow (.con (.int 10)) (.con (.int 18)))) .nil) [4]) (.lst (.cons (.bin .Add (.bcall .len (.cons (.var 1) .nil)) (.con (.int 1))) .nil)))) (.cons (.ret (.newl (.cons (.var 2) (.cons (.var 3) (.cons (.con (.int 0)) (.cons (.bin .Mod (.bcall .int (.cons (.bcall .sum (.cons (.var 3) .nil)) .nil)) (.con (.int 999983))) .nil)))))) .nil))))
/-- the pot in the heap: great numbers, small ones, the turn, the sum -/
def PotOk (h rest : Hh) : Prop := ∃ (gs ss : List Int) (t s : Int), h = .lst (gs.map .int) :: .lst [.ref 0, .lst (ss.map .int), .int t, .int s] :: rest ∧ 0 < ss.length
theorem bin_mulmod {x m j : Int} (a : 0 < m) (b : m < 2 ^ 64) : binD .Mult (.int (x % m)) (.int j) = .ok (.int (x % m * j)) := bin_mul_l (by have := Int.emod_nonneg x (by omega : m ≠ 0); omega) (by have := Int.emod_lt_of_pos x a; omega)
theorem mod_range (x : Int) {m : Int} (a : 0 < m) : 0 ≤ x % m ∧ x % m < m := ⟨Int.emod_nonneg x (by omega), Int.emod_lt_of_pos x a⟩
theorem at_map {ss : List Int} {i : Int} (a : 0 ≤ i) (b : i < ss.length) : ∃ v, atD (ss.map D.int) i = some (.int v) := by
  rw [atD_in a (by simpa using b), List.getElem?_map]
  have : i.toNat < ss.length := by omega
  rw [List.getElem?_eq_getElem this]
  exact ⟨_, rfl⟩
theorem draw_ok (G : Gam) {h rest : Hh} {m : Int} (p : PotOk h rest) (m0 : 0 < m) (m1 : m < 1073741824) : ∃ k h', runD G 5 irDraw [.ref 1, .int m] h = .ok (.int k, h') ∧ 0 ≤ k ∧ k < m ∧ PotOk h' rest := by
  obtain ⟨gs, ss, t, s, rfl, hs⟩ := p
  rw [runD_eq]
  unfold irDraw
  have hs' : (0 : Int) < ss.length := by omega
  obtain ⟨v, hv⟩ := at_map (ss := ss) (mod_range t hs').1 (mod_range t hs').2
  cases gs with
  | nil =>
    generalize e : endD _ = R
    simp [ixD, lookD, atD_in, setiD, bcallD, bLen, bInt, bin_add, bin_mod hs', hv, bin_mul_r, bin_mul_l, bin_mod, bin_div, bin_mulmod, m0, m1] at e
    subst e
    exact ⟨_, _, rfl, (mod_range _ m0).1, (mod_range _ m0).2, [], ss, t + 1, s, rfl, hs⟩
  | cons g gs =>
    generalize e : endD _ = R
    by_cases hg : g < m
    · simp [ixD, lookD, atD_in, setiD, bcallD, bLen, bInt, bin_add, bin_mod, bin_div, m0, m1, hg, recvD, bmethD, mPop] at e
      subst e
      exact ⟨_, _, rfl, (mod_range _ m0).1, (mod_range _ m0).2, gs, ss, t + 1, s, rfl, hs⟩
    · simp [ixD, lookD, atD_in, setiD, bcallD, bLen, bInt, bin_add, bin_mod, bin_div, m0, m1, hg] at e
      subst e
      exact ⟨_, _, rfl, (mod_range _ m0).1, (mod_range _ m0).2, g / m :: gs, ss, t + 1, s, rfl, hs⟩
theorem lc_ints {f : D → Hh → Res (Option D × Hh)} {F : Int → Option Int} {h : Hh} {xs : List Int} (hf : ∀ i, f (.int i) h = .ok ((F i).map D.int, h)) (hl : xs.length ≤ 16777216) : lcD f (xs.map D.int) [] h = .ok ((xs.filterMap F).map D.int, h) := by
  rw [lcD_map (F := fun d => match d with | .int i => (F i).map D.int | _ => none)]
  · rw [List.nil_append, List.filterMap_map, List.map_filterMap]
    rfl
  · intro x m
    obtain ⟨i, _, rfl⟩ := List.mem_map.mp m
    exact hf i
  · simpa using hl
theorem pow18 : ∃ b : Int, binD .Pow (.int 10) (.int 18) = .ok (.int b) := ⟨_, bin_pow (by decide)⟩
theorem pot_ok (G : Gam) (ns : List Int) : ∃ h', runD G 5 irPot [.scr ns] [] = .ok (.ref 1, h') ∧ PotOk h' [] := by
  rw [runD_eq]
  have hc : (cutD ns none (some 63)).length ≤ 63 := by
    unfold cutD clampD
    simp
    omega
  generalize ecs : cutD ns none (some 63) = cs at hc
  obtain ⟨b, hp⟩ := pow18
  have e1 : ∀ h : Hh, lcD (fun x h1 => (setT (.var 4) x (wipeE [some (D.scr ns), none, none, none, none] [4])).bind fun r1 => (evTs G .nil r1 h1).bind fun b => if b.1 then (evE G (.bcall .int (.cons (.var 4) .nil)) r1 b.2).bind fun y => .ok (some y.1, y.2) else .ok (none, b.2)) (cs.map D.int) [] h = .ok ((cs.filterMap some).map D.int, h) := fun h => by
    refine lc_ints (fun i => ?_) (by omega)
    simp [bcallD, bInt]
  have e2 : ∀ h : Hh, lcD (fun x h1 => (setT (.var 4) x (wipeE [some (D.scr ns), some (.lst (cs.map D.int)), none, none, none] [4])).bind fun r1 => (evTs G (.cons (.cmp .GtE (.bcall .abs (.cons (.var 4) .nil)) (.bin .Pow (.con (.int 10)) (.con (.int 18)))) .nil) r1 h1).bind fun b => if b.1 then (evE G (.bcall .abs (.cons (.var 4) .nil)) r1 b.2).bind fun y => .ok (some y.1, y.2) else .ok (none, b.2)) (cs.map D.int) [] h = .ok ((cs.filterMap fun i => if b ≤ i.natAbs then some (i.natAbs : Int) else none).map D.int, h) := fun h => by
    refine lc_ints (fun i => ?_) (by omega)
    by_cases hi : b ≤ i.natAbs
    · simp [bcallD, bAbs, hp, hi]
    · simp [bcallD, bAbs, hp, hi]
  have e3 : ∀ (gg : D) (h : Hh), lcD (fun x h1 => (setT (.var 4) x (wipeE [some (D.scr ns), some (.lst (cs.map D.int)), some gg, none, none] [4])).bind fun r1 => (evTs G (.cons (.cmp .Lt (.bcall .abs (.cons (.var 4) .nil)) (.bin .Pow (.con (.int 10)) (.con (.int 18)))) .nil) r1 h1).bind fun b => if b.1 then (evE G (.bin .Mod (.bcall .int (.cons (.var 4) .nil)) (.con (.int 1000000007))) r1 b.2).bind fun y => .ok (some y.1, y.2) else .ok (none, b.2)) (cs.map D.int) [] h = .ok ((cs.filterMap fun i => if (i.natAbs : Int) < b then some (i % 1000000007) else none).map D.int, h) := fun gg h => by
    refine lc_ints (fun i => ?_) (by omega)
    by_cases hi : (i.natAbs : Int) < b
    · simp [bcallD, bAbs, bInt, hp, hi, bin_mod]
    · simp [bcallD, bAbs, bInt, hp, hi, bin_mod]
  generalize (fun i : Int => if b ≤ i.natAbs then some (i.natAbs : Int) else none) = F2 at e2
  generalize eF3 : (fun i : Int => if (i.natAbs : Int) < b then some (i % 1000000007) else none) = F3 at e3
  have h3 : (cs.filterMap F3).length ≤ 63 := Nat.le_trans (List.length_filterMap_le _ _) hc
  simp only [List.filterMap_some] at e1
  have add : binD .Add (.lst ((cs.filterMap F3).map D.int)) (.lst [.int (cs.length + 1)]) = .ok (.lst ((cs.filterMap F3 ++ [(cs.length : Int) + 1]).map D.int)) := by
    show ofB (okN _) _ = _
    have : okN (((cs.filterMap F3).map D.int).length + [D.int (cs.length + 1)].length) = true := by unfold okN; simp; omega
    rw [this]
    simp
  generalize hss : cs.filterMap F3 ++ [(cs.length : Int) + 1] = ss at add
  have hs : 0 < ss.length := by rw [← hss]; simp
  generalize e : endD _ = R
  unfold irPot at e
  rw [evSs_c, evS_set, ev_lc] at e
  simp only [evI_seq, ev_sl, ev_var, ev_con, evO_con, evO_n, List.map_cons, List.map_nil, List.cons_append, List.nil_append, List.length_cons, List.length_nil, List.replicate, getV_z, Res.bind_ok, slD, lookD, ecs, seqD_l] at e
  rw [e1] at e
  simp only [Res.bind_ok, Res.bs_ok, thenS_nx, List.set, Bool.false_eq_true, if_false] at e
  rw [evSs_c, evS_set, ev_lc] at e
  simp only [evI_seq, ev_var, getV_z, getV_s, Res.bind_ok, seqD_l] at e
  rw [e2] at e
  simp only [Res.bind_ok, Res.bs_ok, thenS_nx, List.set, if_true, List.length_nil, List.nil_append] at e
  rw [evSs_c, evS_set, ev_bin, ev_lc] at e
  simp only [evI_seq, ev_var, getV_z, getV_s, Res.bind_ok, seqD_l] at e
  rw [e3] at e
  simp [bcallD, bLen, bSum, bInt, lookD, bin_add, add, ints_map, bin_mod, okN] at e
  subst e
  exact ⟨_, rfl, _, ss, 0, _, rfl, hs⟩
end Z9

set_option Elab.async false
set_option linter.all false
set_option maxRecDepth 100000
set_option maxHeartbeats 4000000
/-! E18: pure defs, comprehensions that draw, loops. -/
namespace Z9
open PySem PySem.Spec
theorem pureF_ok {g : Fn} {ds : List D} {d : D} {h h' : Hh} (a : pureDs ds = true) (e : g ds [] = .ok (d, h')) (b : pureD d = true) : pureF g ds h = .ok (d, h) := by
  unfold pureF
  rw [if_pos a, e]
  simp [frzD, b]
theorem pureF_exc {g : Fn} {ds : List D} {c : Nat} {xs : List D} {h h' : Hh} (a : pureDs ds = true) (e : g ds [] = .exc c xs h') : pureF g ds h = .exc c xs h := by
  unfold pureF
  rw [if_pos a, e]
/-- a comprehension whose turns change the state -/
theorem lcD_inv {f : D → Hh → Res (Option D × Hh)} {I : Hh → Prop} {Q : D → Prop} : ∀ {xs acc : List D} {h : Hh}, (∀ x ∈ xs, ∀ h, I h → ∃ y h', f x h = .ok (some y, h') ∧ I h' ∧ Q y) → I h → acc.length + xs.length ≤ 16777216 → (∀ y ∈ acc, Q y) →
    ∃ ys h', lcD f xs acc h = .ok (ys, h') ∧ I h' ∧ ys.length = acc.length + xs.length ∧ ∀ y ∈ ys, Q y
  | [], acc, h, _, hi, _, ha => ⟨acc, h, by simp [lcD], hi, by simp, ha⟩
  | x :: xs, acc, h, hf, hi, hl, ha => by
    obtain ⟨y, h', e, i', q⟩ := hf x List.mem_cons_self h hi
    simp only [List.length_cons] at hl
    obtain ⟨ys, h2, e2, i2, l2, q2⟩ := lcD_inv (acc := acc ++ [y]) (fun x m => hf x (List.mem_cons_of_mem _ m)) i' (by simp; omega) (fun z m => by
      rcases List.mem_append.mp m with m | m
      · exact ha z m
      · rw [List.mem_singleton.mp m]
        exact q)
    refine ⟨ys, h2, ?_, i2, ?_, q2⟩
    · simp only [lcD, e]
      rw [if_pos (by omega)]
      exact e2
    · rw [l2]
      simp
      omega
/-- a for whose turns all go on, by an invariant -/
theorem forD_inv {f : D → Z9.Env → Hh → Res Out} {I : Z9.Env → Hh → Prop} : ∀ {xs : List D} {r : Z9.Env} {h : Hh}, (∀ x ∈ xs, ∀ r h, I r h → ∃ r' h', f x r h = .ok (.nx r' h') ∧ I r' h') → I r h → ∃ r' h', forD f xs r h = .ok (.nx r' h') ∧ I r' h'
  | [], r, h, _, hi => ⟨r, h, rfl, hi⟩
  | x :: xs, r, h, hf, hi => by
    obtain ⟨r', h', e, i'⟩ := hf x List.mem_cons_self r h hi
    obtain ⟨r2, h2, e2, i2⟩ := forD_inv (fun x m => hf x (List.mem_cons_of_mem _ m)) i'
    exact ⟨r2, h2, by simp only [forD, e, e2], i2⟩
theorem strs_map (cs : List (List Nat)) : strs? (cs.map D.str) = some cs := by
  induction cs with
  | nil => rfl
  | cons x xs ih => simp [strs?, ih]
theorem joinS_chars : ∀ cs : List Nat, joinS [] (cs.map fun c => [c]) = cs
  | [] => rfl
  | [c] => rfl
  | c :: d :: cs => by
    have := joinS_chars (d :: cs)
    simp only [List.map_cons] at this
    simp only [List.map_cons, joinS, this]
    rfl
theorem all_ex {α β : Type} {f : β → α} {Q : β → Prop} : ∀ {ys : List α}, (∀ y ∈ ys, ∃ c, y = f c ∧ Q c) → ∃ cs : List β, ys = cs.map f ∧ ∀ c ∈ cs, Q c
  | [], _ => ⟨[], rfl, fun _ m => by cases m⟩
  | y :: ys, h => by
    obtain ⟨c, e, q⟩ := h y List.mem_cons_self
    obtain ⟨cs, e2, q2⟩ := all_ex fun z m => h z (List.mem_cons_of_mem _ m)
    refine ⟨c :: cs, by rw [e, e2]; rfl, fun d m => ?_⟩
    rcases List.mem_cons.mp m with rfl | m
    · exact q
    · exact q2 d m
theorem join_chars {cs : List Nat} {h : Hh} (hl : cs.length ≤ 16777216) : bmethD .join (.str []) [.lst (cs.map fun c => .str [c])] h = .ok (.str cs, h) := by
  have e : (cs.map fun c => D.str [c]) = (cs.map fun c => [c]).map D.str := by rw [List.map_map]; rfl
  have hk : okN ((((cs.map fun c => [c]).map List.length).sum + (cs.map fun c => [c]).length * ([] : List Nat).length)) = true := by
    have : ((cs.map fun c => [c]).map List.length).sum = cs.length := by
      clear hl e
      induction cs with
      | nil => rfl
      | cons c cs ih => simp at ih ⊢; omega
    rw [this]
    unfold okN
    simp
    omega
  rw [e]
  simp only [bmethD, mJoin, strs_map, ofO_some, Res.bind_ok]
  rw [hk, joinS_chars]
  rfl
end Z9

set_option Elab.async false
set_option linter.all false
set_option maxRecDepth 100000
set_option maxHeartbeats 4000000
/-! E19: loops that find, steps, whiles. -/
namespace Z9
open PySem PySem.Spec
def optD : D × Hh → Res (Option Int × Hh)
  | (.int i, h) => .ok (some i, h)
  | _ => .no
@[simp] theorem optD_i (i h) : optD (.int i, h) = .ok (some i, h) := rfl
@[simp] theorem evO_e (G : Gam) (r : Z9.Env) (h : Hh) (e : Ex) : evO G (.some e) r h = (evE G e r h).bind optD := by
  simp only [evO]
  congr 1
  funext p
  obtain ⟨d, h⟩ := p
  cases d <;> rfl
/-- a for that finds something -/
theorem forD_find {f : D → Z9.Env → Hh → Res Out} {I : Z9.Env → Prop} {h : Hh} {d : D} {Bad : D → Prop} : ∀ {xs : List D} {r : Z9.Env}, (∀ x ∈ xs, ∀ r, I r → (Bad x → f x r h = .ok (.rt d h)) ∧ (¬ Bad x → ∃ r', f x r h = .ok (.nx r' h) ∧ I r')) → I r → (∃ x ∈ xs, Bad x) → forD f xs r h = .ok (.rt d h)
  | [], r, _, _, hx => by
    obtain ⟨x, m, _⟩ := hx
    cases m
  | x :: xs, r, hf, hi, hx => by
    by_cases hb : Bad x
    · simp only [forD, (hf x List.mem_cons_self r hi).1 hb]
    · obtain ⟨r', e, i'⟩ := (hf x List.mem_cons_self r hi).2 hb
      simp only [forD, e]
      refine forD_find (fun y m => hf y (List.mem_cons_of_mem _ m)) i' ?_
      obtain ⟨y, m, hy⟩ := hx
      rcases List.mem_cons.mp m with rfl | m
      · exact absurd hy hb
      · exact ⟨y, m, hy⟩
theorem step {G : Gam} {C : Res Out → Prop} {s : Sm} {ss : Sms} {r r1 : Z9.Env} {h h1 : Hh} (e : evS G s r h = .ok (.nx r1 h1)) (k : C (evSs G ss r1 h1)) : C (evSs G (.cons s ss) r h) := by
  rw [evSs_c, e]
  exact k
theorem for_then {G : Gam} {C : Res Out → Prop} (I : Z9.Env → Hh → Prop) {t : Tg} {it : It} {b ss : Sms} {r : Z9.Env} {h h1 : Hh} {xs : List D} (e : evI G it r h = .ok (xs, h1)) (hi : I r h1)
    (hf : ∀ x ∈ xs, ∀ r h, I r h → ∃ r' h', (setT t x r).bs r (fun r2 => evSs G b r2 h) = .ok (.nx r' h') ∧ I r' h') (k : ∀ r' h', I r' h' → C (evSs G ss r' h')) : C (evSs G (.cons (.forr t it b) ss) r h) := by
  obtain ⟨r', h', e2, i⟩ := forD_inv hf hi
  rw [evSs_c, evS_for, e, Res.bs_ok, e2]
  exact k r' h' i
theorem pow30 : ∃ b : Int, binD .Pow (.int 10) (.int 30) = .ok (.int b) ∧ 1000 ≤ b := ⟨_, bin_pow (by decide), by decide⟩
theorem pow20 : ∃ b : Int, binD .Pow (.int 10) (.int 20) = .ok (.int b) ∧ 1000 ≤ b := ⟨_, bin_pow (by decide), by decide⟩
/-- a for that seeks -/
theorem forD_search {f : D → Z9.Env → Hh → Res Out} {I : Z9.Env → Prop} {h : Hh} {P : D → Bool} {V : D → D} : ∀ {xs : List D} {r : Z9.Env}, (∀ x ∈ xs, ∀ r, I r → (P x = true → f x r h = .ok (.rt (V x) h)) ∧ (P x = false → ∃ r', f x r h = .ok (.nx r' h) ∧ I r')) → I r →
    (∀ x, xs.find? P = some x → forD f xs r h = .ok (.rt (V x) h)) ∧ (xs.find? P = none → ∃ r', forD f xs r h = .ok (.nx r' h) ∧ I r')
  | [], r, _, hi => ⟨fun _ e => (by cases e), fun _ => ⟨r, rfl, hi⟩⟩
  | x :: xs, r, hf, hi => by
    have ih := fun r' i' => forD_search (xs := xs) (r := r') (fun y m => hf y (List.mem_cons_of_mem _ m)) i'
    cases hb : P x with
    | true =>
      have e := (hf x List.mem_cons_self r hi).1 hb
      refine ⟨fun y ey => ?_, fun ey => ?_⟩
      · rw [List.find?_cons, hb] at ey
        cases ey
        simp only [forD, e]
      · rw [List.find?_cons, hb] at ey
        cases ey
    | false =>
      obtain ⟨r', e, i'⟩ := (hf x List.mem_cons_self r hi).2 hb
      rw [List.find?_cons, hb]
      simp only [forD, e]
      exact ih r' i'
theorem whileD_eq {c : Z9.Env → Hh → Res (Bool × Hh)} {f : Z9.Env → Hh → Res Out} {r : Z9.Env} {h : Hh} {n : Nat} {R : Res Out} (e : whileN c f n r h = R) (hR : R ≠ .no) : whileD c f r h = R := by
  have ex : ∃ n, whileN c f n r h ≠ .no := ⟨n, by rw [e]; exact hR⟩
  unfold whileD
  rw [dif_pos ex]
  have h1 := Classical.choose_spec ex
  have key : ∀ m k r h, whileN c f m r h ≠ .no → whileN c f (m + k) r h = whileN c f m r h := by
    intro m
    induction m with
    | zero => intro k r h z; exact absurd rfl z
    | succ m ih =>
      intro k r h z
      rw [show m + 1 + k = (m + k) + 1 by omega]
      unfold whileN at z ⊢
      cases hc : c r h with
      | no => rfl
      | exc => rfl
      | ok b =>
        rw [hc] at z
        simp only [Res.bs_ok] at z ⊢
        cases hb : b.1 with
        | false => rfl
        | true =>
          rw [hb] at z
          simp only [if_true] at z ⊢
          cases hf : f r b.2 with
          | no => rfl
          | exc => rfl
          | ok o =>
            rw [hf] at z
            cases o with
            | nx r' h' => exact ih k r' h' z
            | ct r' h' => exact ih k r' h' z
            | bk => rfl
            | rt => rfl
            | ex => rfl
  rw [← key (Classical.choose ex) n r h h1, Nat.add_comm, key n (Classical.choose ex) r h (by rw [e]; exact hR), e]
end Z9

set_option Elab.async false
set_option linter.all false
set_option maxRecDepth 100000
set_option maxHeartbeats 4000000
/-! E20: what forms give, as terms: one rule a form. -/
namespace Z9
open PySem PySem.Spec
section
variable {G : Gam} {r : Z9.Env} {h h1 h2 h3 : Hh}
theorem dvr {i : Nat} {d : D} (e : r[i]? = some (some d)) : evE G (.var i) r h = .ok (d, h) := by
  rw [ev_var]
  unfold getV
  rw [e]
  rfl
theorem dcn (d : D) : evE G (.con d) r h = .ok (d, h) := ev_con _ _ _ _
theorem dgl {k : Nat} {d : D} (e : G.con k = some d) : evE G (.glob k) r h = .ok (d, h) := by
  rw [ev_glob, e]
  rfl
theorem dnn (i : Int) : evE G (.neg (.con (.int i))) r h = .ok (.int (-i), h) := ev_neg _ _ _ _
theorem dsn : evEs G .nil r h = .ok ([], h) := evEs_n _ _ _
theorem dsc {e : Ex} {es : Exs} {x : D} {xs : List D} (a : evE G e r h = .ok (x, h1)) (b : evEs G es r h1 = .ok (xs, h2)) : evEs G (.cons e es) r h = .ok (x :: xs, h2) := by
  rw [evEs_c, a, Res.bind_ok, b, Res.bind_ok]
theorem ds1 {e : Ex} {x : D} (a : evE G e r h = .ok (x, h1)) : evEs G (.cons e .nil) r h = .ok ([x], h1) := dsc a dsn
theorem ds2 {e e2 : Ex} {x y : D} (a : evE G e r h = .ok (x, h1)) (b : evE G e2 r h1 = .ok (y, h2)) : evEs G (.cons e (.cons e2 .nil)) r h = .ok ([x, y], h2) := dsc a (ds1 b)
theorem ds3 {e e2 e3 : Ex} {x y z : D} (a : evE G e r h = .ok (x, h1)) (b : evE G e2 r h1 = .ok (y, h2)) (c : evE G e3 r h2 = .ok (z, h3)) : evEs G (.cons e (.cons e2 (.cons e3 .nil))) r h = .ok ([x, y, z], h3) := dsc a (ds2 b c)
theorem dcall {k n : Nat} {g : Fn} {es : Exs} {xs : List D} (f : G.fn k = some (n, g)) (a : evEs G es r h = .ok (xs, h1)) (l : xs.length = n) : evE G (.call k es) r h = g xs h1 := by
  rw [ev_call (n := n) (g := g) _ _ _ f, a, Res.bind_ok, if_pos l]
theorem okN_of {n : Nat} (h : n ≤ 1000) : okN n = true := by
  unfold okN
  exact decide_eq_true (by omega)
theorem dtup {es : Exs} {xs : List D} (a : evEs G es r h = .ok (xs, h1)) (l : xs.length ≤ 1000) : evE G (.tup es) r h = .ok (.tup xs, h1) := by
  rw [ev_tup, a, Res.bind_ok, okN_of l]
  rfl
theorem dlst {es : Exs} {xs : List D} (a : evEs G es r h = .ok (xs, h1)) (l : xs.length ≤ 1000) : evE G (.lst es) r h = .ok (.lst xs, h1) := by
  rw [ev_lst, a, Res.bind_ok, okN_of l]
  rfl
theorem dbin {o : Operator} {a b : Ex} {x y z : D} (e1 : evE G a r h = .ok (x, h1)) (e2 : evE G b r h1 = .ok (y, h2)) (e3 : binD o x y = .ok z) : evE G (.bin o a b) r h = .ok (z, h2) := by
  rw [ev_bin, e1, Res.bind_ok, e2, Res.bind_ok, e3, Res.bind_ok]
theorem dcmp {o : CmpOp} {a b : Ex} {x y z : D} (e1 : evE G a r h = .ok (x, h1)) (e2 : evE G b r h1 = .ok (y, h2)) (e3 : cmpD o x y = .ok z) : evE G (.cmp o a b) r h = .ok (z, h2) := by
  rw [ev_cmp, e1, Res.bind_ok, e2, Res.bind_ok, e3, Res.bind_ok]
theorem dcmp2 {o o2 : CmpOp} {a b c : Ex} {x y z : D} {t u : Bool} (e1 : evE G a r h = .ok (x, h1)) (e2 : evE G b r h1 = .ok (y, h2)) (e3 : cmpD o x y = .ok (.bl t)) (e4 : evE G c r h2 = .ok (z, h2)) (e5 : cmpD o2 y z = .ok (.bl u)) : evE G (.cmp2 o o2 a b c) r h = .ok (.bl (t && u), h2) := by
  rw [ev_cmp2, e1, Res.bind_ok, e2, Res.bind_ok, e3, Res.bind_ok, boolD_bl, Res.bind_ok]
  cases t with
  | true => rw [if_pos rfl, e4, Res.bind_ok, e5, Res.bind_ok]; rfl
  | false => rw [if_neg Bool.false_ne_true]; rfl
theorem dnot {a : Ex} {b : Bool} (e1 : evE G a r h = .ok (.bl b, h1)) : evE G (.not a) r h = .ok (.bl (!b), h1) := by
  rw [ev_not, e1, Res.bind_ok, boolD_bl, Res.bind_ok]
theorem da1 {k : Bool} {a : Ex} {b : Bool} (e1 : evE G a r h = .ok (.bl b, h1)) : evA G k (.cons a .nil) r h = .ok (.bl b, h1) := by
  rw [evA_1, e1, Res.bind_ok, boolD_bl, Res.bind_ok]
theorem dat {k : Bool} {a a2 : Ex} {as : Exs} {R : Res (D × Hh)} (e1 : evE G a r h = .ok (.bl k, h1)) (e2 : evA G k (.cons a2 as) r h1 = R) : evA G k (.cons a (.cons a2 as)) r h = R := by
  rw [evA_2, e1, Res.bind_ok, boolD_bl, Res.bind_ok, if_pos rfl, e2]
theorem dax {k b : Bool} {a a2 : Ex} {as : Exs} (e1 : evE G a r h = .ok (.bl b, h1)) (n : b ≠ k) : evA G k (.cons a (.cons a2 as)) r h = .ok (.bl b, h1) := by
  rw [evA_2, e1, Res.bind_ok, boolD_bl, Res.bind_ok, if_neg n]
theorem dand {es : Exs} {R : Res (D × Hh)} (e : evA G true es r h = R) : evE G (.and es) r h = R := by rw [ev_and, e]
theorem dor {es : Exs} {R : Res (D × Hh)} (e : evA G false es r h = R) : evE G (.or es) r h = R := by rw [ev_or, e]
/-- and of two, where both may be asked -/
theorem dand2 {a a2 : Ex} {b c : Bool} (e1 : evE G a r h = .ok (.bl b, h)) (e2 : b = true → evE G a2 r h = .ok (.bl c, h)) : evE G (.and (.cons a (.cons a2 .nil))) r h = .ok (.bl (b && c), h) := by
  cases b with
  | true => exact dand (dat e1 (da1 (e2 rfl)))
  | false => exact dand (dax e1 Bool.false_ne_true)
theorem dor2 {a a2 : Ex} {b c : Bool} (e1 : evE G a r h = .ok (.bl b, h)) (e2 : b = false → evE G a2 r h = .ok (.bl c, h)) : evE G (.or (.cons a (.cons a2 .nil))) r h = .ok (.bl (b || c), h) := by
  cases b with
  | false => exact dor (dat e1 (da1 (e2 rfl)))
  | true => exact dor (dax e1 (fun z => by cases z))
theorem dif_t {c a b : Ex} {R : Res (D × Hh)} (e1 : evE G c r h = .ok (.bl true, h1)) (e2 : evE G a r h1 = R) : evE G (.ife c a b) r h = R := by
  rw [ev_ife, e1, Res.bind_ok, boolD_bl, Res.bind_ok, if_pos rfl, e2]
theorem dif_f {c a b : Ex} {R : Res (D × Hh)} (e1 : evE G c r h = .ok (.bl false, h1)) (e2 : evE G b r h1 = R) : evE G (.ife c a b) r h = R := by
  rw [ev_ife, e1, Res.bind_ok, boolD_bl, Res.bind_ok, if_neg Bool.false_ne_true, e2]
theorem dix {a i : Ex} {x y z : D} (e1 : evE G a r h = .ok (x, h1)) (e2 : evE G i r h1 = .ok (y, h2)) (e3 : ixD h2 x y = .ok z) : evE G (.ix a i) r h = .ok (z, h2) := by
  rw [ev_ix, e1, Res.bind_ok, e2, Res.bind_ok, e3, Res.bind_ok]
theorem don : evO G .none r h = .ok (none, h) := evO_n _ _ _
theorem dos {e : Ex} {i : Int} (a : evE G e r h = .ok (.int i, h1)) : evO G (.some e) r h = .ok (some i, h1) := evO_s _ _ _ a
theorem dsl {a : Ex} {lo hi : Ox} {x z : D} {u v : Option Int} (e1 : evE G a r h = .ok (x, h1)) (e2 : evO G lo r h1 = .ok (u, h2)) (e3 : evO G hi r h2 = .ok (v, h3)) (e4 : slD h3 x u v = .ok z) : evE G (.sl a lo hi) r h = .ok (z, h3) := by
  rw [ev_sl, e1, Res.bind_ok, e2, Res.bind_ok, e3, Res.bind_ok, e4, Res.bind_ok]
theorem disi {a : Ex} {t : Ty} {x z : D} (e1 : evE G a r h = .ok (x, h1)) (e2 : isiD h1 x t = .ok z) : evE G (.isi a t) r h = .ok (z, h1) := by
  rw [ev_isi, e1, Res.bind_ok, e2, Res.bind_ok]
theorem dbc {f : BF} {es : Exs} {xs : List D} {z : D} (e1 : evEs G es r h = .ok (xs, h1)) (e2 : bcallD f xs h1 = .ok z) : evE G (.bcall f es) r h = .ok (z, h1) := by
  rw [ev_bcall, e1, Res.bind_ok, e2, Res.bind_ok]
theorem dbm {m : BM} {a : Ex} {es : Exs} {x : D} {xs : List D} {R : Res (D × Hh)} (e1 : evE G a r h = .ok (x, h1)) (k : recvD m x = true) (e2 : evEs G es r h1 = .ok (xs, h2)) (e3 : bmethD m x xs h2 = R) : evE G (.bmeth m a es) r h = R := by
  rw [ev_bmeth, e1, Res.bind_ok, if_pos k, e2, Res.bind_ok, e3]
theorem drange {e : Ex} {n : Nat} (a : evE G e r h = .ok (.int (n : Int), h1)) (hn : n ≤ 1000) : evI G (.range e) r h = .ok ((List.range n).map fun (i : Nat) => .int (i : Int), h1) := by
  have h1 : (0 : Int) ≤ (n : Int) := Int.natCast_nonneg n
  have h2 : (n : Int) ≤ 1000 := by omega
  have h3 : (n : Int) < 1099511627776 := Int.lt_of_le_of_lt h2 (by decide)
  rw [evI_rng, a, Res.bind_ok, rangeD_n h1 h3, Int.toNat_natCast]
theorem dlc {elt : Ex} {t : Tg} {it : It} {ifs : Exs} {own : List Nat} {xs ys : List D} (a : evI G it r h = .ok (xs, h1))
    (b : lcD (fun x h1 => (setT t x (wipeE r own)).bind fun r1 => (evTs G ifs r1 h1).bind fun b => if b.1 then (evE G elt r1 b.2).bind fun y => .ok (some y.1, y.2) else .ok (none, b.2)) xs [] h1 = .ok (ys, h2)) : evE G (.lc false elt t it ifs own) r h = .ok (.lst ys, h2) := by
  rw [ev_lc, a, Res.bind_ok, b, Res.bind_ok, if_neg Bool.false_ne_true]
theorem lc1000 {f : D → Hh → Res (Option D × Hh)} {F : D → Option D} {h : Hh} {xs : List D} (hf : ∀ x ∈ xs, f x h = .ok (F x, h)) (hl : xs.length ≤ 1000) : lcD f xs [] h = .ok (xs.filterMap F, h) := by
  have : ([] : List D).length + xs.length ≤ 16777216 := by
    rw [List.length_nil, Nat.zero_add]
    exact Nat.le_trans hl (by decide)
  have := lcD_map (acc := []) hf this
  rwa [List.nil_append] at this
/-! statements -/
theorem sset {i : Nat} {e : Ex} {d : D} (a : evE G e r h = .ok (d, h1)) : evS G (.set i e) r h = .ok (.nx (r.set i (some d)) h1) := by rw [evS_set, a, Res.bs_ok]
theorem spar {i j : Nat} {es : Exs} {x y : D} (a : evEs G es r h = .ok ([x, y], h1)) : evS G (.par i j es) r h = .ok (.nx ((r.set i (some x)).set j (some y)) h1) := by
  simp only [evS]
  rw [a, Res.bs_ok]
  rfl
theorem sasg {t : Tg} {e : Ex} {d : D} {r1 : Z9.Env} (a : evE G e r h = .ok (d, h1)) (b : setT t d r = .ok r1) : evS G (.asg t e) r h = .ok (.nx r1 h1) := by rw [evS_asg, a, Res.bs_ok, b, Res.bs_ok]
theorem sexp {e : Ex} {d : D} (a : evE G e r h = .ok (d, h1)) : evS G (.expr e) r h = .ok (.nx r h1) := by rw [evS_expr, a, Res.bs_ok]
theorem sret {e : Ex} {d : D} (a : evE G e r h = .ok (d, h1)) : evS G (.ret e) r h = .ok (.rt d h1) := by rw [evS_ret, a, Res.bs_ok]
theorem sit {c : Ex} {x y : Sms} {R : Res Out} (a : evE G c r h = .ok (.bl true, h1)) (b : evSs G x r h1 = R) : evS G (.iff c x y) r h = R := by rw [evS_iff, a, Res.bs_ok, boolD_bl, Res.bs_ok, if_pos rfl, b]
theorem sif {c : Ex} {x y : Sms} {R : Res Out} (a : evE G c r h = .ok (.bl false, h1)) (b : evSs G y r h1 = R) : evS G (.iff c x y) r h = R := by rw [evS_iff, a, Res.bs_ok, boolD_bl, Res.bs_ok, if_neg Bool.false_ne_true, b]
theorem sif0 {c : Ex} {x : Sms} (a : evE G c r h = .ok (.bl false, h1)) : evS G (.iff c x .nil) r h = .ok (.nx r h1) := sif a (evSs_n _ _ _)
theorem qnx {s : Sm} {ss : Sms} {r1 : Z9.Env} {R : Res Out} (a : evS G s r h = .ok (.nx r1 h1)) (b : evSs G ss r1 h1 = R) : evSs G (.cons s ss) r h = R := by rw [evSs_c, a, Res.bind_ok, thenS_nx, b]
theorem qrt {s : Sm} {ss : Sms} {d : D} (a : evS G s r h = .ok (.rt d h1)) : evSs G (.cons s ss) r h = .ok (.rt d h1) := by rw [evSs_c, a, Res.bind_ok, thenS_rt]
theorem qex {s : Sm} {ss : Sms} {c : Nat} {xs : List D} {r1 : Z9.Env} (a : evS G s r h = .ok (.ex c xs r1 h1)) : evSs G (.cons s ss) r h = .ok (.ex c xs r1 h1) := by rw [evSs_c, a, Res.bind_ok, thenS_ex]
theorem qct {s : Sm} {ss : Sms} {r1 : Z9.Env} (a : evS G s r h = .ok (.ct r1 h1)) : evSs G (.cons s ss) r h = .ok (.ct r1 h1) := by rw [evSs_c, a, Res.bind_ok, thenS_ct]
theorem qbk {s : Sm} {ss : Sms} {r1 : Z9.Env} (a : evS G s r h = .ok (.bk r1 h1)) : evSs G (.cons s ss) r h = .ok (.bk r1 h1) := by rw [evSs_c, a, Res.bind_ok, thenS_bk]
theorem qn : evSs G .nil r h = .ok (.nx r h) := evSs_n _ _ _
theorem run_rt {n : Nat} {b : Sms} {xs : List D} {d : D} {e : Z9.Env} (k : e = xs.map some ++ List.replicate (n - xs.length) none) (a : evSs G b e h = .ok (.rt d h1)) : runD G n b xs h = .ok (d, h1) := by
  rw [runD_eq, ← k, a, endD_rt]
theorem run_nx {n : Nat} {b : Sms} {xs : List D} {e r1 : Z9.Env} (k : e = xs.map some ++ List.replicate (n - xs.length) none) (a : evSs G b e h = .ok (.nx r1 h1)) : runD G n b xs h = .ok (.non, h1) := by
  rw [runD_eq, ← k, a, endD_nx]
theorem run_ex {n c : Nat} {b : Sms} {xs ys : List D} {e r1 : Z9.Env} (k : e = xs.map some ++ List.replicate (n - xs.length) none) (a : evSs G b e h = .ok (.ex c ys r1 h1)) : runD G n b xs h = .exc c ys h1 := by
  rw [runD_eq, ← k, a, endD_ex]
/-- the run of a for over numbers, that seeks -/
theorem forD_seek {b : Sms} {i : Nat} {I : Z9.Env → Prop} {P : Nat → Bool} {V : Nat → D} : ∀ {ns : List Nat} {r : Z9.Env}, (∀ q ∈ ns, ∀ r, I r → (P q = true → evSs G b (r.set i (some (.int (q : Int)))) h = .ok (.rt (V q) h)) ∧ (P q = false → ∃ r', evSs G b (r.set i (some (.int (q : Int)))) h = .ok (.nx r' h) ∧ I r')) → I r →
    (∀ q, ns.find? P = some q → forD (fun x r1 h1 => (setT (.var i) x r1).bs r1 fun r2 => evSs G b r2 h1) (ns.map fun (m : Nat) => .int (m : Int)) r h = .ok (.rt (V q) h)) ∧
    (ns.find? P = none → ∃ r', forD (fun x r1 h1 => (setT (.var i) x r1).bs r1 fun r2 => evSs G b r2 h1) (ns.map fun (m : Nat) => .int (m : Int)) r h = .ok (.nx r' h) ∧ I r')
  | [], r, _, hi => ⟨fun _ e => (by cases e), fun _ => ⟨r, rfl, hi⟩⟩
  | q :: ns, r, hf, hi => by
    have ih := fun r' i' => forD_seek (ns := ns) (r := r') (fun y m => hf y (List.mem_cons_of_mem _ m)) i'
    rw [List.map_cons, List.find?_cons]
    unfold forD
    rw [setT_v, Res.bs_ok]
    cases hb : P q with
    | true =>
      rw [(hf q List.mem_cons_self r hi).1 hb]
      exact ⟨fun y ey => by cases ey; rfl, fun ey => by cases ey⟩
    | false =>
      obtain ⟨r', e, i'⟩ := (hf q List.mem_cons_self r hi).2 hb
      rw [e]
      exact ih r' i'
end
end Z9

set_option linter.all false
/-! M02: words that come round: the least way to write one. Plain Lean. -/
namespace Z9
theorem flatRep {α : Type} (ag : List α) : ∀ (n i : Nat), i < n * ag.length → ((List.replicate n ag).flatten)[i]? = ag[i % ag.length]?
  | 0, i, h => by omega
  | n + 1, i, h => by
    rw [List.replicate_succ, List.flatten_cons]
    by_cases hi : i < ag.length
    · rw [List.getElem?_append_left hi, Nat.mod_eq_of_lt hi]
    · rw [List.getElem?_append_right (by omega), flatRep ag n (i - ag.length) (by have := Nat.succ_mul n ag.length; simp only [Nat.succ_eq_add_one] at this; omega), ← Nat.mod_eq_sub_mod (by omega : i ≥ ag.length)]
theorem flatLen {α : Type} (ag : List α) : ∀ n : Nat, ((List.replicate n ag).flatten).length = n * ag.length
  | 0 => by simp
  | n + 1 => by
    rw [List.replicate_succ, List.flatten_cons, List.length_append, flatLen ag n, Nat.succ_mul]
    omega
/-- the letters of an endless content -/
def wd (hd ag : List Nat) (i : Nat) : Nat := if i < hd.length then hd.getD i 0 else ag.getD ((i - hd.length) % ag.length) 0
structure Canon (w : Nat → Nat) (l p : Nat) : Prop where
  pos : 0 < p
  per : ∀ i, l ≤ i → w (i + p) = w i
  least : ∀ q, 0 < q → q < p → ∀ m, ¬ ∀ i, m ≤ i → w (i + q) = w i
  first : l = 0 ∨ w (l - 1 + p) ≠ w (l - 1)
theorem Canon.uniq {w : Nat → Nat} {l p l2 p2 : Nat} (a : Canon w l p) (b : Canon w l2 p2) : l = l2 ∧ p = p2 := by
  have hp : p = p2 := by
    rcases Nat.lt_trichotomy p p2 with h | h | h
    · exact absurd a.per (b.least p a.pos h l)
    · exact h
    · exact absurd b.per (a.least p2 b.pos h l2)
  subst hp
  refine ⟨?_, rfl⟩
  rcases Nat.lt_trichotomy l l2 with h | h | h
  · rcases b.first with z | z
    · omega
    · exact absurd (a.per (l2 - 1) (by omega)) z
  · exact h
  · rcases a.first with z | z
    · omega
    · exact absurd (b.per (l - 1) (by omega)) z
theorem per_mul {w : Nat → Nat} {l p : Nat} (h : ∀ i, l ≤ i → w (i + p) = w i) : ∀ k i, l ≤ i → w (i + k * p) = w i
  | 0, i, _ => by simp
  | k + 1, i, hi => by
    have : i + (k + 1) * p = (i + k * p) + p := by rw [Nat.succ_mul]; omega
    rw [this, h _ (by omega), per_mul h k i hi]
/-- a period further on is one from l on -/
theorem per_down {w : Nat → Nat} {l p q m : Nat} (h : ∀ i, l ≤ i → w (i + p) = w i) (hp : 0 < p) (hq : ∀ i, m ≤ i → w (i + q) = w i) : ∀ i, l ≤ i → w (i + q) = w i := fun i hi => by
  have h1 := per_mul h m (i + q) (by omega)
  have h2 := per_mul h m i hi
  have : m ≤ m * p := Nat.le_mul_of_pos_right m hp
  rw [← h1, ← h2, ← hq (i + m * p) (by omega)]
  congr 1
  omega
/-- a least period divides each -/
theorem per_dvd {w : Nat → Nat} {l p q : Nat} (h : ∀ i, l ≤ i → w (i + p) = w i) (hp : 0 < p) (q0 : 0 < q) (hq : ∀ i, l ≤ i → w (i + q) = w i) (hl : ∀ r, 0 < r → r < q → ¬ ∀ i, l ≤ i → w (i + r) = w i) : p % q = 0 := by
  rcases Nat.eq_zero_or_pos (p % q) with z | z
  · exact z
  · refine absurd (fun i hi => ?_) (hl (p % q) z (Nat.mod_lt _ q0))
    have h1 := per_mul hq (p / q) (i + p % q) (by omega)
    rw [← h1, ← h i hi]
    congr 1
    have := Nat.mod_add_div p q
    rw [Nat.mul_comm] at this
    omega
/-- where there is a period below p there is one that divides p -/
theorem per_small {w : Nat → Nat} {l p : Nat} (h : ∀ i, l ≤ i → w (i + p) = w i) (hp : 0 < p) : ∀ n q, q ≤ n → 0 < q → q < p → (∀ i, l ≤ i → w (i + q) = w i) → ∃ r, 0 < r ∧ r < p ∧ p % r = 0 ∧ ∀ i, l ≤ i → w (i + r) = w i
  | 0, q, hn, q0, _, _ => by omega
  | n + 1, q, hn, q0, qp, hq => by
    by_cases z : ∃ r, 0 < r ∧ r < q ∧ ∀ i, l ≤ i → w (i + r) = w i
    · obtain ⟨r, r0, rq, hr⟩ := z
      exact per_small h hp n r (by omega) r0 (by omega) hr
    · exact ⟨q, q0, qp, per_dvd h hp q0 hq fun r r0 rq hr => z ⟨r, r0, rq, hr⟩, hq⟩

/-- the round that is written once -/
def isRoot (ag : List Nat) (m : Nat) : Bool := ag.length % m == 0 && (List.replicate (ag.length / m) (ag.take m)).flatten == ag
def rootLen (ag : List Nat) : Nat := ((List.range' 1 (ag.length - 1)).find? (isRoot ag)).getD ag.length
def root (ag : List Nat) : List Nat := ag.take (rootLen ag)
theorem getD_some {l : List Nat} {i : Nat} (h : i < l.length) : l[i]? = some (l.getD i 0) := by
  rw [List.getD_eq_getElem?_getD, List.getElem?_eq_getElem h]
  rfl
theorem isRoot_per {ag : List Nat} {m : Nat} (m0 : 0 < m) (h : isRoot ag m = true) (hm : m ≤ ag.length) : ag.length % m = 0 ∧ ∀ i, i < ag.length → ag.getD i 0 = (ag.take m).getD (i % m) 0 := by
  simp only [isRoot, Bool.and_eq_true, beq_iff_eq] at h
  refine ⟨h.1, fun i hi => ?_⟩
  have hl : (ag.take m).length = m := by rw [List.length_take]; omega
  have hd : ag.length / m * m = ag.length := Nat.div_mul_cancel (Nat.dvd_of_mod_eq_zero h.1)
  have := flatRep (ag.take m) (ag.length / m) i (by rw [hl, hd]; exact hi)
  rw [h.2, hl] at this
  rw [List.getD_eq_getElem?_getD, List.getD_eq_getElem?_getD, this]
theorem isRoot_of {ag : List Nat} {m : Nat} (m0 : 0 < m) (hm : m ≤ ag.length) (hd : ag.length % m = 0) (h : ∀ i, i + m < ag.length → ag.getD (i + m) 0 = ag.getD i 0) : isRoot ag m = true := by
  simp only [isRoot, Bool.and_eq_true, beq_iff_eq]
  refine ⟨hd, ?_⟩
  have hl : (ag.take m).length = m := by rw [List.length_take]; omega
  have hdm : ag.length / m * m = ag.length := Nat.div_mul_cancel (Nat.dvd_of_mod_eq_zero hd)
  have key : ∀ n i, i ≤ n → i < ag.length → ag.getD i 0 = ag.getD (i % m) 0 := by
    intro n
    induction n with
    | zero =>
      intro i hi hl
      have : i = 0 := by omega
      subst this
      rw [Nat.zero_mod]
    | succ n ih =>
      intro i hi hl
      by_cases z : i < m
      · rw [Nat.mod_eq_of_lt z]
      · have := h (i - m) (by omega)
        rw [show i - m + m = i by omega] at this
        rw [this, ih (i - m) (by omega) (by omega), ← Nat.mod_eq_sub_mod (by omega)]
  refine List.ext_getElem? fun i => ?_
  by_cases hi : i < ag.length
  · rw [flatRep _ _ _ (by rw [hl, hdm]; exact hi), hl]
    have hm2 : i % m < m := Nat.mod_lt _ m0
    rw [List.getElem?_take, if_pos hm2, getD_some (by omega : i % m < ag.length), getD_some hi, key i i (Nat.le_refl _) hi]
  · rw [List.getElem?_eq_none (by rw [flatLen, hl, hdm]; omega), List.getElem?_eq_none (by omega)]
theorem rootLen_pos {ag : List Nat} (h : ag ≠ []) : 0 < rootLen ag ∧ rootLen ag ≤ ag.length ∧ isRoot ag (rootLen ag) = true ∧ ∀ m, 0 < m → m < rootLen ag → isRoot ag m = false := by
  have hn : 0 < ag.length := Nat.pos_of_ne_zero fun z => h (List.eq_nil_of_length_eq_zero z)
  unfold rootLen
  cases e : (List.range' 1 (ag.length - 1)).find? (isRoot ag) with
  | none =>
    refine ⟨hn, Nat.le_refl _, ?_, fun m m0 m1 => ?_⟩
    · exact isRoot_of hn (Nat.le_refl _) (Nat.mod_self _) (fun i hi => by
        have : ¬ i + ag.length < ag.length := by omega
        exact absurd hi this)
    · have := List.find?_eq_none.mp e m (by
        rw [List.mem_range'_1]
        simp only [Option.getD_none] at m1
        omega)
      simpa using this
  | some m =>
    have hm := List.mem_of_find?_eq_some e
    rw [List.mem_range'_1] at hm
    refine ⟨by simp only [Option.getD_some]; omega, by simp only [Option.getD_some]; omega, List.find?_some e, fun q q0 q1 => ?_⟩
    simp only [Option.getD_some] at q1
    obtain ⟨_, as, bs, e2, e3⟩ := List.find?_eq_some_iff_append.mp e
    have : q ∈ List.range' 1 (ag.length - 1) := by
      rw [List.mem_range'_1]
      omega
    rw [e2, List.mem_append] at this
    rcases this with z | z
    · simpa using e3 q z
    · exfalso
      have hs : List.Pairwise (· < ·) (List.range' 1 (ag.length - 1)) := List.pairwise_lt_range'
      rw [e2, List.pairwise_append] at hs
      rcases List.mem_cons.mp z with rfl | z
      · omega
      · have := (List.pairwise_cons.mp hs.2.1).1 q z
        omega
theorem root_len {ag : List Nat} (h : ag ≠ []) : (root ag).length = rootLen ag := by
  rw [root, List.length_take]
  have := (rootLen_pos h).2.1
  omega
/-- the word of the root is the word -/
theorem wd_root {hd ag : List Nat} (h : ag ≠ []) : ∀ i, wd hd (root ag) i = wd hd ag i := by
  intro i
  obtain ⟨a, b, c, d⟩ := rootLen_pos h
  obtain ⟨e1, e2⟩ := isRoot_per a c b
  unfold wd
  split
  · rfl
  · rw [root_len h]
    have hn : 0 < ag.length := by omega
    rw [e2 _ (Nat.mod_lt _ hn)]
    have : (i - hd.length) % ag.length % rootLen ag = (i - hd.length) % rootLen ag := Nat.mod_mod_of_dvd _ (Nat.dvd_of_mod_eq_zero e1)
    rw [this]
    rfl
theorem wd_per {hd ag : List Nat} : ∀ i, hd.length ≤ i → wd hd ag (i + ag.length) = wd hd ag i := fun i hi => by
  unfold wd
  rw [if_neg (by omega), if_neg (by omega)]
  have : i + ag.length - hd.length = i - hd.length + ag.length := by omega
  rw [this, Nat.add_mod_right]
/-- no lesser period than the root's -/
theorem root_least {hd ag : List Nat} (h : ag ≠ []) : ∀ q, 0 < q → q < rootLen ag → ∀ m, ¬ ∀ i, m ≤ i → wd hd ag (i + q) = wd hd ag i := by
  intro q q0 q1 m hq
  obtain ⟨a, b, c, d⟩ := rootLen_pos h
  have hp : ∀ i, hd.length ≤ i → wd hd ag (i + rootLen ag) = wd hd ag i := fun i hi => by
    rw [← wd_root h, ← wd_root h, ← root_len h]
    exact wd_per i hi
  have hq' := per_down hp a hq
  obtain ⟨r, r0, r1, r2, r3⟩ := per_small hp a q q (Nat.le_refl _) q0 q1 hq'
  obtain ⟨e1, e2⟩ := isRoot_per a c b
  have := isRoot_of (ag := ag) r0 (by omega) (Nat.mod_eq_zero_of_dvd (Nat.dvd_trans (Nat.dvd_of_mod_eq_zero r2) (Nat.dvd_of_mod_eq_zero e1))) (fun i hi => by
    have := r3 (hd.length + i) (by omega)
    unfold wd at this
    rw [if_neg (by omega), if_neg (by omega)] at this
    rw [show hd.length + i + r - hd.length = i + r by omega, show hd.length + i - hd.length = i by omega, Nat.mod_eq_of_lt hi, Nat.mod_eq_of_lt (by omega)] at this
    exact this)
  rw [d r r0 r1] at this
  cases this
/-- the round with its last letter ahead -/
def rot (a : List Nat) : List Nat := a.drop (a.length - 1) ++ a.take (a.length - 1)
theorem rot_len {a : List Nat} : (rot a).length = a.length := by
  unfold rot
  rw [List.length_append, List.length_drop, List.length_take]
  omega
/-- letters of the head that are the round's go to it -/
def back : Nat → List Nat → List Nat → List Nat × List Nat
  | 0, f, a => (f, a)
  | n + 1, f, a => if 0 < f.length ∧ 0 < a.length ∧ f.getD (f.length - 1) 0 = a.getD (a.length - 1) 0 then back n (f.take (f.length - 1)) (rot a) else (f, a)
theorem rot_get {a : List Nat} (h : 0 < a.length) (i : Nat) (hi : i < a.length) : (rot a).getD i 0 = a.getD ((i + (a.length - 1)) % a.length) 0 := by
  unfold rot
  rw [List.getD_eq_getElem?_getD, List.getD_eq_getElem?_getD]
  have hl : (a.drop (a.length - 1)).length = 1 := by rw [List.length_drop]; omega
  by_cases z : i = 0
  · subst z
    rw [List.getElem?_append_left (by omega), List.getElem?_drop, Nat.zero_add, Nat.mod_eq_of_lt (by omega)]
    simp
  · rw [List.getElem?_append_right (by omega), hl, List.getElem?_take, if_pos (by omega)]
    have : (i + (a.length - 1)) % a.length = i - 1 := by
      rw [show i + (a.length - 1) = i - 1 + a.length by omega, Nat.add_mod_right, Nat.mod_eq_of_lt (by omega)]
    rw [this]
theorem wd_back {f a : List Nat} (h1 : 0 < f.length) (h2 : 0 < a.length) (h3 : f.getD (f.length - 1) 0 = a.getD (a.length - 1) 0) : ∀ i, wd (f.take (f.length - 1)) (rot a) i = wd f a i := fun i => by
  have hl : (f.take (f.length - 1)).length = f.length - 1 := by rw [List.length_take]; omega
  unfold wd
  rw [hl, rot_len]
  by_cases z : i < f.length - 1
  · rw [if_pos z, if_pos (by omega), List.getD_eq_getElem?_getD, List.getElem?_take, if_pos z, List.getD_eq_getElem?_getD]
  · rw [if_neg z, rot_get h2 _ (Nat.mod_lt _ h2)]
    have e : ((i - (f.length - 1)) % a.length + (a.length - 1)) % a.length = (i - (f.length - 1) + (a.length - 1)) % a.length := by rw [Nat.mod_add_mod]
    rw [e]
    by_cases y : i < f.length
    · rw [if_pos y]
      have : i = f.length - 1 := by omega
      subst this
      rw [Nat.sub_self, Nat.zero_add, Nat.mod_eq_of_lt (by omega), h3]
    · rw [if_neg y, show i - (f.length - 1) + (a.length - 1) = i - f.length + a.length by omega, Nat.add_mod_right]
theorem back_canon : ∀ (n : Nat) (f a : List Nat), f.length ≤ n → 0 < a.length → (∀ q, 0 < q → q < a.length → ∀ m, ¬ ∀ i, m ≤ i → wd f a (i + q) = wd f a i) →
    (∀ i, wd (back n f a).1 (back n f a).2 i = wd f a i) ∧ Canon (wd f a) (back n f a).1.length (back n f a).2.length ∧ (back n f a).1.length ≤ f.length ∧ (back n f a).2.length = a.length
  | 0, f, a, hn, ha, hl => ⟨fun _ => rfl, ⟨ha, wd_per, hl, .inl (by show f.length = 0; omega)⟩, Nat.le_refl _, rfl⟩
  | n + 1, f, a, hn, ha, hl => by
    unfold back
    by_cases z : 0 < f.length ∧ 0 < a.length ∧ f.getD (f.length - 1) 0 = a.getD (a.length - 1) 0
    · rw [if_pos z]
      have e := wd_back z.1 z.2.1 z.2.2
      have ee : wd (f.take (f.length - 1)) (rot a) = wd f a := funext e
      have hl' : (f.take (f.length - 1)).length = f.length - 1 := by rw [List.length_take]; omega
      obtain ⟨i1, i2, i3, i4⟩ := back_canon n (f.take (f.length - 1)) (rot a) (by omega) (by rw [rot_len]; exact ha) (by rw [rot_len, ee]; exact hl)
      rw [ee] at i1 i2
      exact ⟨i1, i2, by omega, by rw [i4, rot_len]⟩
    · rw [if_neg z]
      refine ⟨fun _ => rfl, ⟨ha, wd_per, hl, ?_⟩, Nat.le_refl _, rfl⟩
      rcases Nat.eq_zero_or_pos f.length with y | y
      · exact .inl y
      · refine .inr fun x => z ⟨y, ha, ?_⟩
        show f.getD (f.length - 1) 0 = _
        have x : wd f a (f.length - 1 + a.length) = wd f a (f.length - 1) := x
        unfold wd at x
        rw [if_neg (by omega), if_pos (by omega), show f.length - 1 + a.length - f.length = a.length - 1 by omega, Nat.mod_eq_of_lt (by omega)] at x
        exact x.symm
/-- what the program tells -/
def shortest (f a : List Nat) : List Nat × List Nat := back f.length f (root a)
theorem shortest_ok {f a : List Nat} (h : a ≠ []) : (∀ i, wd (shortest f a).1 (shortest f a).2 i = wd f a i) ∧ Canon (wd f a) (shortest f a).1.length (shortest f a).2.length ∧ (shortest f a).1.length ≤ f.length ∧ (shortest f a).2.length = rootLen a := by
  have e : wd f (root a) = wd f a := funext (wd_root h)
  have hl := root_len h
  have hp := rootLen_pos h
  have := back_canon f.length f (root a) (Nat.le_refl _) (by omega) (by rw [hl, e]; exact root_least h)
  rw [e, hl] at this
  exact this
theorem wd_ext {f a f2 a2 : List Nat} (h1 : f.length = f2.length) (h2 : a.length = a2.length) (h : ∀ i, wd f a i = wd f2 a2 i) : (f, a) = (f2, a2) := by
  have e1 : f = f2 := by
    refine List.ext_getElem? fun i => ?_
    by_cases z : i < f.length
    · have := h i
      unfold wd at this
      rw [if_pos z, if_pos (by omega)] at this
      rw [getD_some z, getD_some (by omega), this]
    · rw [List.getElem?_eq_none (by omega), List.getElem?_eq_none (by omega)]
  have e2 : a = a2 := by
    refine List.ext_getElem? fun i => ?_
    by_cases z : i < a.length
    · have := h (f.length + i)
      unfold wd at this
      rw [if_neg (by omega), if_neg (by omega), ← h1, show f.length + i - f.length = i by omega, Nat.mod_eq_of_lt z, Nat.mod_eq_of_lt (by omega)] at this
      rw [getD_some z, getD_some (by omega), this]
    · rw [List.getElem?_eq_none (by omega), List.getElem?_eq_none (by omega)]
  rw [e1, e2]
/-- the same word, the same shortest way to write it -/
theorem shortest_eq {f a f2 a2 : List Nat} (h1 : a ≠ []) (h2 : a2 ≠ []) (h : ∀ i, wd f a i = wd f2 a2 i) : shortest f a = shortest f2 a2 := by
  obtain ⟨e1, c1, _, _⟩ := shortest_ok (f := f) h1
  obtain ⟨e2, c2, _, _⟩ := shortest_ok (f := f2) h2
  have ew : wd f a = wd f2 a2 := funext h
  rw [ew] at c1
  obtain ⟨l, p⟩ := c1.uniq c2
  exact wd_ext l p fun i => (e1 i).trans ((h i).trans (e2 i).symm)
theorem shortest_inj {f a f2 a2 : List Nat} (h1 : a ≠ []) (h2 : a2 ≠ []) (h : shortest f a = shortest f2 a2) : ∀ i, wd f a i = wd f2 a2 i := fun i => by
  rw [← (shortest_ok (f := f) h1).1, ← (shortest_ok (f := f2) h2).1, h]
/-- two words that are alike far enough are alike -/
theorem wd_far {f a f2 a2 : List Nat} {n : Nat} (h1 : a ≠ []) (h2 : a2 ≠ []) (hn : f.length + f2.length + a.length * a2.length ≤ n) (h : ∀ i, i < n → wd f a i = wd f2 a2 i) : ∀ i, wd f a i = wd f2 a2 i := by
  have ha : 0 < a.length := Nat.pos_of_ne_zero fun z => h1 (List.eq_nil_of_length_eq_zero z)
  have ha2 : 0 < a2.length := Nat.pos_of_ne_zero fun z => h2 (List.eq_nil_of_length_eq_zero z)
  have hm : 0 < a.length * a2.length := Nat.mul_pos ha ha2
  have p1 : ∀ i, f.length ≤ i → wd f a (i + a.length * a2.length) = wd f a i := fun i hi => by rw [Nat.mul_comm]; exact per_mul wd_per a2.length i hi
  have p2 : ∀ i, f2.length ≤ i → wd f2 a2 (i + a.length * a2.length) = wd f2 a2 i := fun i hi => per_mul wd_per a.length i hi
  have key : ∀ m i, i ≤ m → wd f a i = wd f2 a2 i := by
    intro m
    induction m with
    | zero => intro i hi; exact h i (by omega)
    | succ m ih =>
      intro i hi
      by_cases z : i < n
      · exact h i z
      · have q1 := p1 (i - a.length * a2.length) (by omega)
        have q2 := p2 (i - a.length * a2.length) (by omega)
        rw [show i - a.length * a2.length + a.length * a2.length = i by omega] at q1 q2
        rw [q1, q2]
        exact ih _ (by omega)
  exact fun i => key i i (Nat.le_refl _)
/-- the first n letters -/
def firstN (w : Nat → Nat) (n : Nat) : List Nat := (List.range n).map w
theorem firstN_get {w : Nat → Nat} {n i : Nat} (h : i < n) : (firstN w n).getD i 0 = w i := by
  rw [firstN, List.getD_eq_getElem?_getD, List.getElem?_map, List.getElem?_range h]
  rfl
/-- head and round cut out of a word -/
def cutF (w : Nat → Nat) (long size : Nat) : List Nat := (firstN w (long + size)).take long
def cutA (w : Nat → Nat) (long size : Nat) : List Nat := (firstN w (long + size)).drop long
theorem cutW_len {w : Nat → Nat} {long size : Nat} : (cutF w long size).length = long ∧ (cutA w long size).length = size := by
  unfold cutF cutA firstN
  simp
theorem cutW_wd {w : Nat → Nat} {long size : Nat} {i : Nat} (hi : i < long + size) : wd (cutF w long size) (cutA w long size) i = w i := by
  unfold wd
  rw [cutW_len.1, cutW_len.2]
  split
  · rename_i z
    rw [cutF, List.getD_eq_getElem?_getD, List.getElem?_take, if_pos z, ← List.getD_eq_getElem?_getD, firstN_get hi]
  · rename_i z
    rw [Nat.mod_eq_of_lt (by omega), cutA, List.getD_eq_getElem?_getD, List.getElem?_drop, ← List.getD_eq_getElem?_getD, show long + (i - long) = i by omega, firstN_get hi]
/-- the law's look at a length of the round and of the head -/
def look (w : Nat → Nat) (size long : Nat) : Prop := ∀ i, i < 60 → wd (cutF w long size) (cutA w long size) i = w i
theorem look_win {w : Nat → Nat} {size long : Nat} (h : look w size long) : ∀ i, long ≤ i → i + size < 60 → w (i + size) = w i := fun i hi hl => by
  have e1 := h (i + size) hl
  have e2 := h i (by omega)
  have := wd_per (hd := cutF w long size) (ag := cutA w long size) i (by rw [cutW_len.1]; exact hi)
  rw [cutW_len.2] at this
  rw [← e1, this, e2]
theorem look_small {w : Nat → Nat} {l p size long : Nat} (c : Canon w l p) (s0 : 0 < size) (sp : size < p) (hb : long + l + p + size ≤ 60) : ¬ look w size long := fun h => by
  refine c.least size s0 sp (long + l) fun i hi => ?_
  have hw := look_win h
  have hm := Nat.mod_lt (i - (long + l)) c.pos
  have hd := Nat.mod_add_div (i - (long + l)) p
  rw [Nat.mul_comm] at hd
  have e1 := per_mul c.per ((i - (long + l)) / p) (long + l + (i - (long + l)) % p) (by omega)
  have e2 := per_mul c.per ((i - (long + l)) / p) (long + l + (i - (long + l)) % p + size) (by omega)
  have e3 := hw (long + l + (i - (long + l)) % p) (by omega) (by omega)
  rw [show long + l + (i - (long + l)) % p + (i - (long + l)) / p * p = i by omega] at e1
  rw [show long + l + (i - (long + l)) % p + size + (i - (long + l)) / p * p = i + size by omega] at e2
  rw [e1, e2, e3]
theorem look_short {w : Nat → Nat} {l p long : Nat} (c : Canon w l p) (hl : long < l) (hb : l + p ≤ 60) : ¬ look w p long := fun h => by
  rcases c.first with z | z
  · omega
  · exact z (look_win h (l - 1) (by omega) (by omega))
theorem look_right {w : Nat → Nat} {l p : Nat} (c : Canon w l p) : look w p l := fun i hi => by
  have key : ∀ m i, i ≤ m → wd (cutF w l p) (cutA w l p) i = w i := by
    intro m
    induction m with
    | zero => intro i hi; exact cutW_wd (by have := c.pos; omega)
    | succ m ih =>
      intro i hi
      by_cases z : i < l + p
      · exact cutW_wd z
      · have e1 := wd_per (hd := cutF w l p) (ag := cutA w l p) (i - p) (by rw [cutW_len.1]; omega)
        rw [cutW_len.2, show i - p + p = i by omega] at e1
        have e2 := c.per (i - p) (by omega)
        rw [show i - p + p = i by omega] at e2
        rw [e1, e2]
        exact ih _ (by have := c.pos; omega)
  exact key i i (Nat.le_refl _)
/-- what is cut out at the right lengths -/
theorem cutW_right {f a : List Nat} (h : a ≠ []) : (cutF (wd f a) (shortest f a).1.length (shortest f a).2.length, cutA (wd f a) (shortest f a).1.length (shortest f a).2.length) = shortest f a := by
  obtain ⟨e, c, _, _⟩ := shortest_ok (f := f) h
  refine wd_ext cutW_len.1 cutW_len.2 fun i => Eq.trans ?_ (e i).symm
  have key : ∀ m i, i ≤ m → wd (cutF (wd f a) (shortest f a).1.length (shortest f a).2.length) (cutA (wd f a) (shortest f a).1.length (shortest f a).2.length) i = wd f a i := by
    intro m
    induction m with
    | zero => intro i hi; exact cutW_wd (by have := c.pos; omega)
    | succ m ih =>
      intro i hi
      by_cases z : i < (shortest f a).1.length + (shortest f a).2.length
      · exact cutW_wd z
      · have e1 := wd_per (hd := cutF (wd f a) (shortest f a).1.length (shortest f a).2.length) (ag := cutA (wd f a) (shortest f a).1.length (shortest f a).2.length) (i - (shortest f a).2.length) (by rw [cutW_len.1]; omega)
        rw [cutW_len.2, show i - (shortest f a).2.length + (shortest f a).2.length = i by omega] at e1
        have e2 := c.per (i - (shortest f a).2.length) (by omega)
        rw [show i - (shortest f a).2.length + (shortest f a).2.length = i by omega] at e2
        rw [e1, e2]
        exact ih _ (by have := c.pos; omega)
  exact key i i (Nat.le_refl _)
end Z9

set_option Elab.async false
set_option linter.all false
set_option maxRecDepth 100000
set_option maxHeartbeats 4000000
namespace Z9
open PySem PySem.Spec PyProof.Rows L2
def topS (i : Nat) : Stmt := PySem.Challenge.pw_wholewalks_k02_whole_least_contents.main.body.getD i (.Pass ⟨0, 0, 0, 0⟩)
abbrev nmL : List Str := ["is_pair", "is_string_of", "is_letters", "is_content_of", "is_content", "check_content", "least_round", "shortest", "least_content", "same_signs", "_law_pot", "_law_draw", "_law_string", "_law_sign", "_law_first", "_law_least", "_law_written", "_law_long_right", "law", "WalkError", "NoContent", "LETTERS"]
/-- constants, classes of errors, those that are raised -/
abbrev consL : List (Nat × D) := [(21, (.str [97, 98, 99]))]
abbrev tabL : List (Nat × List Nat) := [(20, [20, 19])]
abbrev exL : List Nat := [20]
/-! is_pair -/
abbrev N_is_pair : List Str := ["thing"]
def ir_is_pair : Sms := (.cons (.ret (.and (.cons (.isi (.var 0) .tuple) (.cons (.cmp .Eq (.bcall .len (.cons (.var 0) .nil)) (.con (.int 2))) .nil)))) .nil)
theorem m_is_pair : mSs ⟨N_is_pair, nmL⟩ (defScope (topS 5)) ir_is_pair (defBody (topS 5)) = true := by decide +kernel
theorem sc_is_pair : FnScope N_is_pair ["thing"] (defScope (topS 5)) := ⟨rfl, rfl, rfl, by decide +kernel, rfl, by decide +kernel, by decide +kernel⟩
noncomputable def G_is_pair : Gam := mkG [] consL tabL exL
noncomputable def r_is_pair : Fn := runD G_is_pair 1 ir_is_pair
noncomputable def g_is_pair : Fn := pureF r_is_pair
/-! is_string_of -/
abbrev N_is_string_of : List Str := ["thing", "signs", "sign"]
def ir_is_string_of : Sms := (.cons (.iff (.not (.isi (.var 0) .str)) (.cons (.ret (.con (.bl false))) .nil) .nil) (.cons (.forr (.var 2) (.seq (.var 0)) (.cons (.iff (.cmp .NotIn (.var 2) (.var 1)) (.cons (.ret (.con (.bl false))) .nil) .nil) .nil)) (.cons (.ret (.con (.bl true))) .nil)))
theorem m_is_string_of : mSs ⟨N_is_string_of, nmL⟩ (defScope (topS 6)) ir_is_string_of (defBody (topS 6)) = true := by decide +kernel
theorem sc_is_string_of : FnScope N_is_string_of ["thing", "signs"] (defScope (topS 6)) := ⟨rfl, rfl, rfl, by decide +kernel, rfl, by decide +kernel, by decide +kernel⟩
noncomputable def G_is_string_of : Gam := mkG [] consL tabL exL
noncomputable def r_is_string_of : Fn := runD G_is_string_of 3 ir_is_string_of
noncomputable def g_is_string_of : Fn := pureF r_is_string_of
/-! least_round -/
abbrev N_least_round : List Str := ["again", "many"]
def ir_least_round : Sms := (.cons (.forr (.var 1) (.range2 (.con (.int 1)) (.bcall .len (.cons (.var 0) .nil))) (.cons (.iff (.and (.cons (.cmp .Eq (.bin .Mod (.bcall .len (.cons (.var 0) .nil)) (.var 1)) (.con (.int 0))) (.cons (.cmp .Eq (.bin .Mult (.sl (.var 0) .none (.some (.var 1))) (.bin .FloorDiv (.bcall .len (.cons (.var 0) .nil)) (.var 1))) (.var 0)) .nil))) (.cons (.ret (.sl (.var 0) .none (.some (.var 1)))) .nil) .nil) .nil)) (.cons (.ret (.var 0)) .nil))
theorem m_least_round : mSs ⟨N_least_round, nmL⟩ (defScope (topS 12)) ir_least_round (defBody (topS 12)) = true := by decide +kernel
theorem sc_least_round : FnScope N_least_round ["again"] (defScope (topS 12)) := ⟨rfl, rfl, rfl, by decide +kernel, rfl, by decide +kernel, by decide +kernel⟩
noncomputable def G_least_round : Gam := mkG [] consL tabL exL
noncomputable def r_least_round : Fn := runD G_least_round 2 ir_least_round
noncomputable def g_least_round : Fn := pureF r_least_round
/-! _law_pot -/
abbrev N_law_pot : List Str := ["_law_script", "_law_cells", "_law_greats", "_law_smalls", "_law_item"]
abbrev ir_law_pot : Sms := irPot
theorem m_law_pot : mSs ⟨N_law_pot, nmL⟩ (defScope (topS 17)) ir_law_pot (defBody (topS 17)) = true := by decide +kernel
theorem sc_law_pot : FnScope N_law_pot ["_law_script"] (defScope (topS 17)) := ⟨rfl, rfl, rfl, by decide +kernel, rfl, by decide +kernel, by decide +kernel⟩
noncomputable def G_law_pot : Gam := mkG [] consL tabL exL
noncomputable def r_law_pot : Fn := runD G_law_pot 5 ir_law_pot
noncomputable def g_law_pot : Fn := r_law_pot
/-! _law_draw -/
abbrev N_law_draw : List Str := ["_law_pot_here", "_law_many", "_law_turn", "_law_seed", "_law_number"]
abbrev ir_law_draw : Sms := irDraw
theorem m_law_draw : mSs ⟨N_law_draw, nmL⟩ (defScope (topS 18)) ir_law_draw (defBody (topS 18)) = true := by decide +kernel
theorem sc_law_draw : FnScope N_law_draw ["_law_pot_here", "_law_many"] (defScope (topS 18)) := ⟨rfl, rfl, rfl, by decide +kernel, rfl, by decide +kernel, by decide +kernel⟩
noncomputable def G_law_draw : Gam := mkG [] consL tabL exL
noncomputable def r_law_draw : Fn := runD G_law_draw 5 ir_law_draw
noncomputable def g_law_draw : Fn := r_law_draw
/-! _law_sign -/
abbrev N_law_sign : List Str := ["_law_content", "_law_place"]
def ir_law_sign : Sms := (.cons (.iff (.cmp .Lt (.var 1) (.bcall .len (.cons (.ix (.var 0) (.con (.int 0))) .nil))) (.cons (.ret (.ix (.ix (.var 0) (.con (.int 0))) (.var 1))) .nil) .nil) (.cons (.iff (.cmp .Eq (.ix (.var 0) (.con (.int 1))) (.con (.str []))) (.cons (.ret (.con (.str [101, 110, 100]))) .nil) .nil) (.cons (.ret (.ix (.ix (.var 0) (.con (.int 1))) (.bin .Mod (.bcall .int (.cons (.bin .Sub (.var 1) (.bcall .len (.cons (.ix (.var 0) (.con (.int 0))) .nil))) .nil)) (.bcall .len (.cons (.ix (.var 0) (.con (.int 1))) .nil))))) .nil)))
theorem m_law_sign : mSs ⟨N_law_sign, nmL⟩ (defScope (topS 20)) ir_law_sign (defBody (topS 20)) = true := by decide +kernel
theorem sc_law_sign : FnScope N_law_sign ["_law_content", "_law_place"] (defScope (topS 20)) := ⟨rfl, rfl, rfl, by decide +kernel, rfl, by decide +kernel, by decide +kernel⟩
noncomputable def G_law_sign : Gam := mkG [] consL tabL exL
noncomputable def r_law_sign : Fn := runD G_law_sign 2 ir_law_sign
noncomputable def g_law_sign : Fn := pureF r_law_sign
/-! is_letters -/
abbrev N_is_letters : List Str := ["thing", "letters"]
def ir_is_letters : Sms := (.cons (.ret (.call 1 (.cons (.var 0) (.cons (.sl (.glob 21) .none (.some (.var 1))) .nil)))) .nil)
theorem m_is_letters : mSs ⟨N_is_letters, nmL⟩ (defScope (topS 7)) ir_is_letters (defBody (topS 7)) = true := by decide +kernel
theorem sc_is_letters : FnScope N_is_letters ["thing", "letters"] (defScope (topS 7)) := ⟨rfl, rfl, rfl, by decide +kernel, rfl, by decide +kernel, by decide +kernel⟩
noncomputable def G_is_letters : Gam := mkG [(1, 2, g_is_string_of)] consL tabL exL
@[simp] theorem c_is_letters_is_string_of (es : Exs) (r : Z9.Env) (h : Hh) : evE G_is_letters (.call 1 es) r h = (evEs G_is_letters es r h).bind fun p => if p.1.length = 2 then g_is_string_of p.1 p.2 else .no := ev_call _ _ _ rfl es
@[simp] theorem k_is_letters_LETTERS : G_is_letters.con 21 = some (.str [97, 98, 99]) := rfl
noncomputable def r_is_letters : Fn := runD G_is_letters 2 ir_is_letters
noncomputable def g_is_letters : Fn := pureF r_is_letters
/-! shortest -/
abbrev N_shortest : List Str := ["first", "again"]
def ir_shortest : Sms := (.cons (.set 1 (.call 6 (.cons (.var 1) .nil))) (.cons (.whil (.and (.cons (.cmp .Gt (.bcall .len (.cons (.var 0) .nil)) (.con (.int 0))) (.cons (.cmp .Gt (.bcall .len (.cons (.var 1) .nil)) (.con (.int 0))) (.cons (.cmp .Eq (.ix (.var 0) (.neg (.con (.int 1)))) (.ix (.var 1) (.neg (.con (.int 1))))) .nil)))) (.cons (.set 0 (.sl (.var 0) .none (.some (.neg (.con (.int 1)))))) (.cons (.set 1 (.bin .Add (.sl (.var 1) (.some (.neg (.con (.int 1)))) .none) (.sl (.var 1) .none (.some (.neg (.con (.int 1))))))) .nil))) (.cons (.ret (.tup (.cons (.var 0) (.cons (.var 1) .nil)))) .nil)))
theorem m_shortest : mSs ⟨N_shortest, nmL⟩ (defScope (topS 13)) ir_shortest (defBody (topS 13)) = true := by decide +kernel
theorem sc_shortest : FnScope N_shortest ["first", "again"] (defScope (topS 13)) := ⟨rfl, rfl, rfl, by decide +kernel, rfl, by decide +kernel, by decide +kernel⟩
noncomputable def G_shortest : Gam := mkG [(6, 1, g_least_round)] consL tabL exL
@[simp] theorem c_shortest_least_round (es : Exs) (r : Z9.Env) (h : Hh) : evE G_shortest (.call 6 es) r h = (evEs G_shortest es r h).bind fun p => if p.1.length = 1 then g_least_round p.1 p.2 else .no := ev_call _ _ _ rfl es
noncomputable def r_shortest : Fn := runD G_shortest 2 ir_shortest
noncomputable def g_shortest : Fn := pureF r_shortest
/-! _law_string -/
abbrev N_law_string : List Str := ["_law_pot_here", "_law_letters", "_law_most", "_law_k"]
def ir_law_string : Sms := (.cons (.ret (.bmeth .join (.con (.str [])) (.cons (.lc false (.ix (.con (.str [97, 98, 99])) (.call 11 (.cons (.var 0) (.cons (.var 1) .nil)))) (.var 3) (.range (.call 11 (.cons (.var 0) (.cons (.bin .Add (.var 2) (.con (.int 1))) .nil)))) .nil [3]) .nil))) .nil)
theorem m_law_string : mSs ⟨N_law_string, nmL⟩ (defScope (topS 19)) ir_law_string (defBody (topS 19)) = true := by decide +kernel
theorem sc_law_string : FnScope N_law_string ["_law_pot_here", "_law_letters", "_law_most"] (defScope (topS 19)) := ⟨rfl, rfl, rfl, by decide +kernel, rfl, by decide +kernel, by decide +kernel⟩
noncomputable def G_law_string : Gam := mkG [(11, 2, g_law_draw)] consL tabL exL
@[simp] theorem c_law_string_law_draw (es : Exs) (r : Z9.Env) (h : Hh) : evE G_law_string (.call 11 es) r h = (evEs G_law_string es r h).bind fun p => if p.1.length = 2 then g_law_draw p.1 p.2 else .no := ev_call _ _ _ rfl es
noncomputable def r_law_string : Fn := runD G_law_string 4 ir_law_string
noncomputable def g_law_string : Fn := r_law_string
/-! _law_first -/
abbrev N_law_first : List Str := ["_law_content", "_law_many", "_law_place"]
def ir_law_first : Sms := (.cons (.ret (.lc false (.call 13 (.cons (.var 0) (.cons (.var 2) .nil))) (.var 2) (.range (.var 1)) .nil [2])) .nil)
theorem m_law_first : mSs ⟨N_law_first, nmL⟩ (defScope (topS 21)) ir_law_first (defBody (topS 21)) = true := by decide +kernel
theorem sc_law_first : FnScope N_law_first ["_law_content", "_law_many"] (defScope (topS 21)) := ⟨rfl, rfl, rfl, by decide +kernel, rfl, by decide +kernel, by decide +kernel⟩
noncomputable def G_law_first : Gam := mkG [(13, 2, g_law_sign)] consL tabL exL
@[simp] theorem c_law_first_law_sign (es : Exs) (r : Z9.Env) (h : Hh) : evE G_law_first (.call 13 es) r h = (evEs G_law_first es r h).bind fun p => if p.1.length = 2 then g_law_sign p.1 p.2 else .no := ev_call _ _ _ rfl es
noncomputable def r_law_first : Fn := runD G_law_first 3 ir_law_first
noncomputable def g_law_first : Fn := pureF r_law_first
/-! _law_written -/
abbrev N_law_written : List Str := ["_law_pot_here", "_law_content", "_law_again", "_law_turn", "_law_head"]
def ir_law_written : Sms := (.cons (.asg (.tup (.cons (.var 4) (.cons (.var 2) .nil))) (.var 1)) (.cons (.iff (.cmp .Eq (.var 2) (.con (.str []))) (.cons (.ret (.var 1)) .nil) .nil) (.cons (.set 2 (.bin .Mult (.var 2) (.bin .Add (.con (.int 1)) (.call 11 (.cons (.var 0) (.cons (.con (.int 3)) .nil)))))) (.cons (.forr (.var 3) (.range (.call 11 (.cons (.var 0) (.cons (.con (.int 5)) .nil)))) (.cons (.par 4 2 (.cons (.bin .Add (.var 4) (.ix (.var 2) (.con (.int 0)))) (.cons (.bin .Add (.sl (.var 2) (.some (.con (.int 1))) .none) (.ix (.var 2) (.con (.int 0)))) .nil))) .nil)) (.cons (.ret (.tup (.cons (.var 4) (.cons (.var 2) .nil)))) .nil)))))
theorem m_law_written : mSs ⟨N_law_written, nmL⟩ (defScope (topS 23)) ir_law_written (defBody (topS 23)) = true := by decide +kernel
theorem sc_law_written : FnScope N_law_written ["_law_pot_here", "_law_content"] (defScope (topS 23)) := ⟨rfl, rfl, rfl, by decide +kernel, rfl, by decide +kernel, by decide +kernel⟩
noncomputable def G_law_written : Gam := mkG [(11, 2, g_law_draw)] consL tabL exL
@[simp] theorem c_law_written_law_draw (es : Exs) (r : Z9.Env) (h : Hh) : evE G_law_written (.call 11 es) r h = (evEs G_law_written es r h).bind fun p => if p.1.length = 2 then g_law_draw p.1 p.2 else .no := ev_call _ _ _ rfl es
noncomputable def r_law_written : Fn := runD G_law_written 5 ir_law_written
noncomputable def g_law_written : Fn := r_law_written
/-! is_content_of -/
abbrev N_is_content_of : List Str := ["thing", "letters"]
def ir_is_content_of : Sms := (.cons (.ret (.and (.cons (.call 0 (.cons (.var 0) .nil)) (.cons (.call 2 (.cons (.ix (.var 0) (.con (.int 0))) (.cons (.var 1) .nil))) (.cons (.call 2 (.cons (.ix (.var 0) (.con (.int 1))) (.cons (.var 1) .nil))) .nil))))) .nil)
theorem m_is_content_of : mSs ⟨N_is_content_of, nmL⟩ (defScope (topS 9)) ir_is_content_of (defBody (topS 9)) = true := by decide +kernel
theorem sc_is_content_of : FnScope N_is_content_of ["thing", "letters"] (defScope (topS 9)) := ⟨rfl, rfl, rfl, by decide +kernel, rfl, by decide +kernel, by decide +kernel⟩
noncomputable def G_is_content_of : Gam := mkG [(0, 1, g_is_pair), (2, 2, g_is_letters)] consL tabL exL
@[simp] theorem c_is_content_of_is_pair (es : Exs) (r : Z9.Env) (h : Hh) : evE G_is_content_of (.call 0 es) r h = (evEs G_is_content_of es r h).bind fun p => if p.1.length = 1 then g_is_pair p.1 p.2 else .no := ev_call _ _ _ rfl es
@[simp] theorem c_is_content_of_is_letters (es : Exs) (r : Z9.Env) (h : Hh) : evE G_is_content_of (.call 2 es) r h = (evEs G_is_content_of es r h).bind fun p => if p.1.length = 2 then g_is_letters p.1 p.2 else .no := ev_call _ _ _ rfl es
noncomputable def r_is_content_of : Fn := runD G_is_content_of 2 ir_is_content_of
noncomputable def g_is_content_of : Fn := pureF r_is_content_of
/-! _law_least -/
abbrev N_law_least : List Str := ["_law_content", "_law_letters", "_law_size", "_law_long", "_law_line", "_law_found"]
def ir_law_least : Sms := (.cons (.iff (.cmp .Eq (.ix (.var 0) (.con (.int 1))) (.con (.str []))) (.cons (.ret (.var 0)) .nil) .nil) (.cons (.forr (.var 2) (.range2 (.con (.int 1)) (.bin .Add (.bcall .len (.cons (.ix (.var 0) (.con (.int 1))) .nil)) (.con (.int 1)))) (.cons (.forr (.var 3) (.range (.bin .Add (.bin .Add (.bcall .len (.cons (.ix (.var 0) (.con (.int 0))) .nil)) (.bcall .len (.cons (.ix (.var 0) (.con (.int 1))) .nil))) (.con (.int 1)))) (.cons (.set 4 (.bmeth .join (.con (.str [])) (.cons (.call 14 (.cons (.var 0) (.cons (.bin .Add (.var 3) (.var 2)) .nil))) .nil))) (.cons (.set 5 (.tup (.cons (.sl (.var 4) .none (.some (.var 3))) (.cons (.sl (.var 4) (.some (.var 3)) .none) .nil)))) (.cons (.iff (.cmp .Eq (.call 14 (.cons (.var 5) (.cons (.con (.int 60)) .nil))) (.call 14 (.cons (.var 0) (.cons (.con (.int 60)) .nil)))) (.cons (.ret (.var 5)) .nil) .nil) .nil)))) .nil)) (.cons (.ret (.var 0)) .nil)))
theorem m_law_least : mSs ⟨N_law_least, nmL⟩ (defScope (topS 22)) ir_law_least (defBody (topS 22)) = true := by decide +kernel
theorem sc_law_least : FnScope N_law_least ["_law_content", "_law_letters"] (defScope (topS 22)) := ⟨rfl, rfl, rfl, by decide +kernel, rfl, by decide +kernel, by decide +kernel⟩
noncomputable def G_law_least : Gam := mkG [(14, 2, g_law_first)] consL tabL exL
@[simp] theorem c_law_least_law_first (es : Exs) (r : Z9.Env) (h : Hh) : evE G_law_least (.call 14 es) r h = (evEs G_law_least es r h).bind fun p => if p.1.length = 2 then g_law_first p.1 p.2 else .no := ev_call _ _ _ rfl es
noncomputable def r_law_least : Fn := runD G_law_least 6 ir_law_least
noncomputable def g_law_least : Fn := pureF r_law_least
/-! is_content -/
abbrev N_is_content : List Str := ["thing"]
def ir_is_content : Sms := (.cons (.ret (.call 3 (.cons (.var 0) (.cons (.bcall .len (.cons (.glob 21) .nil)) .nil)))) .nil)
theorem m_is_content : mSs ⟨N_is_content, nmL⟩ (defScope (topS 10)) ir_is_content (defBody (topS 10)) = true := by decide +kernel
theorem sc_is_content : FnScope N_is_content ["thing"] (defScope (topS 10)) := ⟨rfl, rfl, rfl, by decide +kernel, rfl, by decide +kernel, by decide +kernel⟩
noncomputable def G_is_content : Gam := mkG [(3, 2, g_is_content_of)] consL tabL exL
@[simp] theorem c_is_content_is_content_of (es : Exs) (r : Z9.Env) (h : Hh) : evE G_is_content (.call 3 es) r h = (evEs G_is_content es r h).bind fun p => if p.1.length = 2 then g_is_content_of p.1 p.2 else .no := ev_call _ _ _ rfl es
@[simp] theorem k_is_content_LETTERS : G_is_content.con 21 = some (.str [97, 98, 99]) := rfl
noncomputable def r_is_content : Fn := runD G_is_content 1 ir_is_content
noncomputable def g_is_content : Fn := pureF r_is_content
/-! check_content -/
abbrev N_check_content : List Str := ["thing"]
def ir_check_content : Sms := (.cons (.iff (.not (.call 4 (.cons (.var 0) .nil))) (.cons (.rais 20 .nil) .nil) .nil) .nil)
theorem m_check_content : mSs ⟨N_check_content, nmL⟩ (defScope (topS 11)) ir_check_content (defBody (topS 11)) = true := by decide +kernel
theorem sc_check_content : FnScope N_check_content ["thing"] (defScope (topS 11)) := ⟨rfl, rfl, rfl, by decide +kernel, rfl, by decide +kernel, by decide +kernel⟩
noncomputable def G_check_content : Gam := mkG [(4, 1, g_is_content)] consL tabL exL
@[simp] theorem c_check_content_is_content (es : Exs) (r : Z9.Env) (h : Hh) : evE G_check_content (.call 4 es) r h = (evEs G_check_content es r h).bind fun p => if p.1.length = 1 then g_is_content p.1 p.2 else .no := ev_call _ _ _ rfl es
@[simp] theorem x_check_content_NoContent : G_check_content.exk 20 = true := rfl
noncomputable def r_check_content : Fn := runD G_check_content 1 ir_check_content
noncomputable def g_check_content : Fn := pureF r_check_content
/-! least_content -/
abbrev N_least_content : List Str := ["content"]
def ir_least_content : Sms := (.cons (.expr (.call 5 (.cons (.var 0) .nil))) (.cons (.ret (.call 7 (.cons (.ix (.var 0) (.con (.int 0))) (.cons (.ix (.var 0) (.con (.int 1))) .nil)))) .nil))
theorem m_least_content : mSs ⟨N_least_content, nmL⟩ (defScope (topS 14)) ir_least_content (defBody (topS 14)) = true := by decide +kernel
theorem sc_least_content : FnScope N_least_content ["content"] (defScope (topS 14)) := ⟨rfl, rfl, rfl, by decide +kernel, rfl, by decide +kernel, by decide +kernel⟩
noncomputable def G_least_content : Gam := mkG [(5, 1, g_check_content), (7, 2, g_shortest)] consL tabL exL
@[simp] theorem c_least_content_check_content (es : Exs) (r : Z9.Env) (h : Hh) : evE G_least_content (.call 5 es) r h = (evEs G_least_content es r h).bind fun p => if p.1.length = 1 then g_check_content p.1 p.2 else .no := ev_call _ _ _ rfl es
@[simp] theorem c_least_content_shortest (es : Exs) (r : Z9.Env) (h : Hh) : evE G_least_content (.call 7 es) r h = (evEs G_least_content es r h).bind fun p => if p.1.length = 2 then g_shortest p.1 p.2 else .no := ev_call _ _ _ rfl es
noncomputable def r_least_content : Fn := runD G_least_content 1 ir_least_content
noncomputable def g_least_content : Fn := pureF r_least_content
/-! same_signs -/
abbrev N_same_signs : List Str := ["content", "second"]
def ir_same_signs : Sms := (.cons (.expr (.call 5 (.cons (.var 0) .nil))) (.cons (.expr (.call 5 (.cons (.var 1) .nil))) (.cons (.ret (.cmp .Eq (.call 7 (.cons (.ix (.var 0) (.con (.int 0))) (.cons (.ix (.var 0) (.con (.int 1))) .nil))) (.call 7 (.cons (.ix (.var 1) (.con (.int 0))) (.cons (.ix (.var 1) (.con (.int 1))) .nil))))) .nil)))
theorem m_same_signs : mSs ⟨N_same_signs, nmL⟩ (defScope (topS 15)) ir_same_signs (defBody (topS 15)) = true := by decide +kernel
theorem sc_same_signs : FnScope N_same_signs ["content", "second"] (defScope (topS 15)) := ⟨rfl, rfl, rfl, by decide +kernel, rfl, by decide +kernel, by decide +kernel⟩
noncomputable def G_same_signs : Gam := mkG [(5, 1, g_check_content), (7, 2, g_shortest)] consL tabL exL
@[simp] theorem c_same_signs_check_content (es : Exs) (r : Z9.Env) (h : Hh) : evE G_same_signs (.call 5 es) r h = (evEs G_same_signs es r h).bind fun p => if p.1.length = 1 then g_check_content p.1 p.2 else .no := ev_call _ _ _ rfl es
@[simp] theorem c_same_signs_shortest (es : Exs) (r : Z9.Env) (h : Hh) : evE G_same_signs (.call 7 es) r h = (evEs G_same_signs es r h).bind fun p => if p.1.length = 2 then g_shortest p.1 p.2 else .no := ev_call _ _ _ rfl es
noncomputable def r_same_signs : Fn := runD G_same_signs 2 ir_same_signs
noncomputable def g_same_signs : Fn := pureF r_same_signs
/-! _law_long_right -/
abbrev N_law_long_right : List Str := ["_law_pot_here", "_law_due", "_law_other", "_law_at", "_law_least_here", "_law_inner", "_law_again"]
def ir_law_long_right : Sms := (.cons (.par 5 6 (.cons (.bin .Add (.call 12 (.cons (.var 0) (.cons (.con (.int 2)) (.cons (.con (.int 9)) .nil)))) (.con (.str [98]))) (.cons (.bin .Add (.con (.int 1)) (.call 11 (.cons (.var 0) (.cons (.con (.int 5)) .nil)))) .nil))) (.cons (.set 1 (.tup (.cons (.bin .Add (.bin .Mult (.con (.str [97])) (.call 11 (.cons (.var 0) (.cons (.con (.int 30)) .nil)))) (.con (.str [99]))) (.cons (.var 5) .nil)))) (.cons (.set 2 (.tup (.cons (.bin .Add (.ix (.var 1) (.con (.int 0))) (.sl (.var 5) .none (.some (.call 11 (.cons (.var 0) (.cons (.bcall .len (.cons (.var 5) .nil)) .nil)))))) (.cons (.con (.str [])) .nil)))) (.cons (.set 3 (.bin .Sub (.bcall .len (.cons (.ix (.var 2) (.con (.int 0))) .nil)) (.bcall .len (.cons (.ix (.var 1) (.con (.int 0))) .nil)))) (.cons (.set 2 (.tup (.cons (.ix (.var 2) (.con (.int 0))) (.cons (.bin .Mult (.bin .Add (.sl (.var 5) (.some (.var 3)) .none) (.sl (.var 5) .none (.some (.var 3)))) (.var 6)) .nil)))) (.cons (.set 4 (.ife (.cmp .Lt (.bcall .len (.cons (.ix (.var 1) (.con (.int 0))) .nil)) (.con (.int 12))) (.call 15 (.cons (.var 1) (.cons (.con (.int 3)) .nil))) (.bin .Add (.sl (.var 1) .none (.some (.con (.int 1)))) (.tup (.cons (.ix (.call 15 (.cons (.tup (.cons (.con (.str [])) (.cons (.var 5) .nil))) (.cons (.con (.int 3)) .nil))) (.con (.int 1))) .nil))))) (.cons (.iff (.or (.cons (.cmp .NotEq (.call 8 (.cons (.var 2) .nil)) (.var 4)) (.cons (.cmp .IsNot (.call 9 (.cons (.var 2) (.cons (.var 4) .nil))) (.con (.bl true))) .nil))) (.cons (.ret (.con (.bl false))) .nil) .nil) (.cons (.ret (.and (.cons (.cmp .Is (.call 9 (.cons (.var 2) (.cons (.tup (.cons (.bin .Add (.ix (.var 2) (.con (.int 0))) (.con (.str [99]))) (.cons (.ix (.var 2) (.con (.int 1))) .nil))) .nil))) (.con (.bl false))) (.cons (.cmp .Is (.call 9 (.cons (.var 2) (.cons (.tup (.cons (.ix (.var 2) (.con (.int 0))) (.cons (.con (.str [])) .nil))) .nil))) (.con (.bl false))) .nil)))) .nil))))))))
theorem m_law_long_right : mSs ⟨N_law_long_right, nmL⟩ (defScope (topS 24)) ir_law_long_right (defBody (topS 24)) = true := by decide +kernel
theorem sc_law_long_right : FnScope N_law_long_right ["_law_pot_here"] (defScope (topS 24)) := ⟨rfl, rfl, rfl, by decide +kernel, rfl, by decide +kernel, by decide +kernel⟩
noncomputable def G_law_long_right : Gam := mkG [(12, 3, g_law_string), (11, 2, g_law_draw), (15, 2, g_law_least), (8, 1, g_least_content), (9, 2, g_same_signs)] consL tabL exL
@[simp] theorem c_law_long_right_law_string (es : Exs) (r : Z9.Env) (h : Hh) : evE G_law_long_right (.call 12 es) r h = (evEs G_law_long_right es r h).bind fun p => if p.1.length = 3 then g_law_string p.1 p.2 else .no := ev_call _ _ _ rfl es
@[simp] theorem c_law_long_right_law_draw (es : Exs) (r : Z9.Env) (h : Hh) : evE G_law_long_right (.call 11 es) r h = (evEs G_law_long_right es r h).bind fun p => if p.1.length = 2 then g_law_draw p.1 p.2 else .no := ev_call _ _ _ rfl es
@[simp] theorem c_law_long_right_law_least (es : Exs) (r : Z9.Env) (h : Hh) : evE G_law_long_right (.call 15 es) r h = (evEs G_law_long_right es r h).bind fun p => if p.1.length = 2 then g_law_least p.1 p.2 else .no := ev_call _ _ _ rfl es
@[simp] theorem c_law_long_right_least_content (es : Exs) (r : Z9.Env) (h : Hh) : evE G_law_long_right (.call 8 es) r h = (evEs G_law_long_right es r h).bind fun p => if p.1.length = 1 then g_least_content p.1 p.2 else .no := ev_call _ _ _ rfl es
@[simp] theorem c_law_long_right_same_signs (es : Exs) (r : Z9.Env) (h : Hh) : evE G_law_long_right (.call 9 es) r h = (evEs G_law_long_right es r h).bind fun p => if p.1.length = 2 then g_same_signs p.1 p.2 else .no := ev_call _ _ _ rfl es
noncomputable def r_law_long_right : Fn := runD G_law_long_right 7 ir_law_long_right
noncomputable def g_law_long_right : Fn := r_law_long_right
/-! law -/
abbrev N_law : List Str := ["_law_script", "_law_pot_here", "_law_turn", "_law_letters", "_law_content", "_law_due", "_law_other", "_law_second", "_law_told"]
def ir_law : Sms := (.cons (.set 1 (.call 10 (.cons (.var 0) .nil))) (.cons (.iff (.and (.cons (.cmp .Eq (.call 11 (.cons (.var 1) (.cons (.con (.int 8)) .nil))) (.con (.int 0))) (.cons (.not (.call 17 (.cons (.var 1) .nil))) .nil))) (.cons (.ret (.con (.bl false))) .nil) .nil) (.cons (.forr (.var 2) (.range (.con (.int 4))) (.cons (.set 3 (.bin .Add (.con (.int 1)) (.call 11 (.cons (.var 1) (.cons (.con (.int 3)) .nil))))) (.cons (.set 4 (.tup (.cons (.call 12 (.cons (.var 1) (.cons (.var 3) (.cons (.con (.int 5)) .nil)))) (.cons (.ife (.cmp .Gt (.call 11 (.cons (.var 1) (.cons (.con (.int 4)) .nil))) (.con (.int 0))) (.call 12 (.cons (.var 1) (.cons (.var 3) (.cons (.con (.int 4)) .nil)))) (.con (.str []))) .nil)))) (.cons (.set 5 (.call 15 (.cons (.var 4) (.cons (.var 3) .nil)))) (.cons (.set 6 (.call 16 (.cons (.var 1) (.cons (.var 4) .nil)))) (.cons (.iff (.or (.cons (.cmp .NotEq (.call 8 (.cons (.var 4) .nil)) (.var 5)) (.cons (.cmp .NotEq (.call 8 (.cons (.var 6) .nil)) (.var 5)) (.cons (.cmp .IsNot (.call 9 (.cons (.var 4) (.cons (.var 6) .nil))) (.con (.bl true))) .nil)))) (.cons (.ret (.con (.bl false))) .nil) .nil) (.cons (.set 7 (.tup (.cons (.call 12 (.cons (.var 1) (.cons (.var 3) (.cons (.con (.int 5)) .nil)))) (.cons (.ife (.cmp .Gt (.call 11 (.cons (.var 1) (.cons (.con (.int 2)) .nil))) (.con (.int 0))) (.call 12 (.cons (.var 1) (.cons (.var 3) (.cons (.con (.int 4)) .nil)))) (.con (.str []))) .nil)))) (.cons (.set 8 (.call 9 (.cons (.var 4) (.cons (.var 7) .nil)))) (.cons (.iff (.or (.cons (.not (.isi (.var 8) .bool)) (.cons (.cmp .NotEq (.var 8) (.cmp .Eq (.call 14 (.cons (.var 4) (.cons (.con (.int 60)) .nil))) (.call 14 (.cons (.var 7) (.cons (.con (.int 60)) .nil))))) .nil))) (.cons (.ret (.con (.bl false))) .nil) .nil) (.cons (.iff (.cmp .NotEq (.call 8 (.cons (.var 5) .nil)) (.var 5)) (.cons (.ret (.con (.bl false))) .nil) .nil) .nil)))))))))) (.cons (.ret (.con (.bl true))) .nil))))
theorem m_law : mSs ⟨N_law, nmL⟩ (defScope (topS 25)) ir_law (defBody (topS 25)) = true := by decide +kernel
theorem sc_law : FnScope N_law ["_law_script"] (defScope (topS 25)) := ⟨rfl, rfl, rfl, by decide +kernel, rfl, by decide +kernel, by decide +kernel⟩
noncomputable def G_law : Gam := mkG [(10, 1, g_law_pot), (11, 2, g_law_draw), (17, 1, g_law_long_right), (12, 3, g_law_string), (15, 2, g_law_least), (16, 2, g_law_written), (8, 1, g_least_content), (9, 2, g_same_signs), (14, 2, g_law_first)] consL tabL exL
@[simp] theorem c_law_law_pot (es : Exs) (r : Z9.Env) (h : Hh) : evE G_law (.call 10 es) r h = (evEs G_law es r h).bind fun p => if p.1.length = 1 then g_law_pot p.1 p.2 else .no := ev_call _ _ _ rfl es
@[simp] theorem c_law_law_draw (es : Exs) (r : Z9.Env) (h : Hh) : evE G_law (.call 11 es) r h = (evEs G_law es r h).bind fun p => if p.1.length = 2 then g_law_draw p.1 p.2 else .no := ev_call _ _ _ rfl es
@[simp] theorem c_law_law_long_right (es : Exs) (r : Z9.Env) (h : Hh) : evE G_law (.call 17 es) r h = (evEs G_law es r h).bind fun p => if p.1.length = 1 then g_law_long_right p.1 p.2 else .no := ev_call _ _ _ rfl es
@[simp] theorem c_law_law_string (es : Exs) (r : Z9.Env) (h : Hh) : evE G_law (.call 12 es) r h = (evEs G_law es r h).bind fun p => if p.1.length = 3 then g_law_string p.1 p.2 else .no := ev_call _ _ _ rfl es
@[simp] theorem c_law_law_least (es : Exs) (r : Z9.Env) (h : Hh) : evE G_law (.call 15 es) r h = (evEs G_law es r h).bind fun p => if p.1.length = 2 then g_law_least p.1 p.2 else .no := ev_call _ _ _ rfl es
@[simp] theorem c_law_law_written (es : Exs) (r : Z9.Env) (h : Hh) : evE G_law (.call 16 es) r h = (evEs G_law es r h).bind fun p => if p.1.length = 2 then g_law_written p.1 p.2 else .no := ev_call _ _ _ rfl es
@[simp] theorem c_law_least_content (es : Exs) (r : Z9.Env) (h : Hh) : evE G_law (.call 8 es) r h = (evEs G_law es r h).bind fun p => if p.1.length = 1 then g_least_content p.1 p.2 else .no := ev_call _ _ _ rfl es
@[simp] theorem c_law_same_signs (es : Exs) (r : Z9.Env) (h : Hh) : evE G_law (.call 9 es) r h = (evEs G_law es r h).bind fun p => if p.1.length = 2 then g_same_signs p.1 p.2 else .no := ev_call _ _ _ rfl es
@[simp] theorem c_law_law_first (es : Exs) (r : Z9.Env) (h : Hh) : evE G_law (.call 14 es) r h = (evEs G_law es r h).bind fun p => if p.1.length = 2 then g_law_first p.1 p.2 else .no := ev_call _ _ _ rfl es
noncomputable def r_law : Fn := runD G_law 9 ir_law
noncomputable def g_law : Fn := r_law
end Z9

set_option Elab.async false
set_option linter.all false
set_option maxRecDepth 100000
set_option maxHeartbeats 4000000
namespace Z9
open PySem PySem.Spec
def abc (n : Nat) (s : List Nat) : Prop := ∀ c ∈ s, 97 ≤ c ∧ c < 97 + n
theorem abc_mem {s : List Nat} (a : abc 3 s) {c : Nat} (m : c ∈ s) : c ∈ [97, 98, 99] := by
  have := a c m
  simp
  omega

theorem strof_ok {s : List Nat} (a : ∀ c ∈ s, c ∈ [97, 98, 99]) (h : Hh) : g_is_string_of [.str s, .str [97, 98, 99]] h = .ok (.bl true, h) := pureF_ok rfl (by
  simp only [r_is_string_of, runD_eq, ir_is_string_of]
  generalize e : endD _ = R
  simp only [evSs_c, evS_iff, evS_for, ev_not, ev_isi, ev_var, List.map_cons, List.map_nil, List.cons_append, List.nil_append, List.length_cons, List.length_nil, List.replicate, getV_z, Res.bind_ok, isiD, lookD, tkD, subT, ofO_some, boolD_bl, Bool.not_true, Res.bs_ok, Bool.false_eq_true, if_false, evSs_n, thenS_nx, evI_seq, seqD_s] at e
  obtain ⟨r', h', e2, i⟩ := forD_inv (xs := s.map fun c => D.str [c]) (h := []) (f := fun x r1 h1 => (setT (.var 2) x r1).bs r1 fun r2 => evSs G_is_string_of (.cons (.iff (.cmp .NotIn (.var 2) (.var 1)) (.cons (.ret (.con (.bl false))) .nil) .nil) .nil) r2 h1)
    (I := fun r h => h = [] ∧ ∃ x, r = [some (.str s), some (.str [97, 98, 99]), x]) (r := [some (.str s), some (.str [97, 98, 99]), none]) (fun x m r h ⟨hh, y, er⟩ => by
      obtain ⟨c, m2, rfl⟩ := List.mem_map.mp m
      subst er hh
      have := a c m2
      refine ⟨[some (.str s), some (.str [97, 98, 99]), some (.str [c])], [], ?_, rfl, _, rfl⟩
      rcases (by simpa using this : c = 97 ∨ c = 98 ∨ c = 99) with rfl | rfl | rfl <;> simp [cmpD]) ⟨rfl, _, rfl⟩
  obtain ⟨rfl, y, rfl⟩ := i
  simp only [evSs_c, evS_iff, evS_ret, ev_con, evSs_n] at e e2
  rw [e2] at e
  rw [← e]
  rfl) rfl
theorem strof_bad {s : List Nat} (a : ∃ c ∈ s, c ∉ [97, 98, 99]) (h : Hh) : g_is_string_of [.str s, .str [97, 98, 99]] h = .ok (.bl false, h) := pureF_ok rfl (by
  simp only [r_is_string_of, runD_eq, ir_is_string_of]
  generalize e : endD _ = R
  simp only [evSs_c, evS_iff, evS_for, ev_not, ev_isi, ev_var, List.map_cons, List.map_nil, List.cons_append, List.nil_append, List.length_cons, List.length_nil, List.replicate, getV_z, Res.bind_ok, isiD, lookD, tkD, subT, ofO_some, boolD_bl, Bool.not_true, Res.bs_ok, Bool.false_eq_true, if_false, evSs_n, thenS_nx, evI_seq, seqD_s] at e
  have e2 := forD_find (xs := s.map fun c => D.str [c]) (h := []) (d := .bl false) (f := fun x r1 h1 => (setT (.var 2) x r1).bs r1 fun r2 => evSs G_is_string_of (.cons (.iff (.cmp .NotIn (.var 2) (.var 1)) (.cons (.ret (.con (.bl false))) .nil) .nil) .nil) r2 h1)
    (I := fun r => ∃ x, r = [some (.str s), some (.str [97, 98, 99]), x]) (Bad := fun x => ∃ c, x = .str [c] ∧ c ∉ [97, 98, 99]) (r := [some (.str s), some (.str [97, 98, 99]), none]) (fun x m r ⟨y, er⟩ => by
      obtain ⟨c, m2, rfl⟩ := List.mem_map.mp m
      subst er
      constructor
      · rintro ⟨c', ec, hc⟩
        cases ec
        have : decide (c ∈ [97, 98, 99]) = false := decide_eq_false hc
        simp only [evSs_c, evS_iff, evS_ret, ev_con, evSs_n, setT_v, Res.bs_ok, ev_cmp, ev_var, List.set, getV_s, getV_z, Res.bind_ok, cmpD, this, boolD_bl, Bool.not_false, if_true, thenS_rt]
      · intro hb
        have : c ∈ [97, 98, 99] := Classical.byContradiction fun z => hb ⟨c, rfl, z⟩
        refine ⟨[some (.str s), some (.str [97, 98, 99]), some (.str [c])], ?_, _, rfl⟩
        rcases (by simpa using this : c = 97 ∨ c = 98 ∨ c = 99) with rfl | rfl | rfl <;> simp [cmpD]) ⟨_, rfl⟩ (by
      obtain ⟨c, m, hc⟩ := a
      exact ⟨_, List.mem_map.mpr ⟨c, m, rfl⟩, c, rfl, hc⟩)
  simp only [evSs_c, evS_iff, evS_ret, ev_con, evSs_n] at e e2
  rw [e2] at e
  rw [← e]
  rfl) rfl
theorem strof_no {x : D} (hp : pureD x = true) (hx : ∀ h, isiD h x .str = .ok (.bl false)) (h : Hh) : g_is_string_of [x, .str [97, 98, 99]] h = .ok (.bl false, h) := pureF_ok (by simp [pureDs, pureD, hp]) (by simp [r_is_string_of, runD_eq, ir_is_string_of, hx]; rfl) rfl
theorem lets {x : D} {b : Bool} (hp : pureD x = true) (hx : ∀ h, g_is_string_of [x, .str [97, 98, 99]] h = .ok (.bl b, h)) (h : Hh) : g_is_letters [x, .int 3] h = .ok (.bl b, h) := pureF_ok (by simp [pureDs, pureD, hp]) (by
  have : slD [] (.str [97, 98, 99]) none (some 3) = .ok (.str [97, 98, 99]) := rfl
  simp [r_is_letters, runD_eq, ir_is_letters, this, hx]; rfl) rfl
theorem pair_no {x : D} (hp : pureD x = true) (hx : ∀ h, isiD h x .tuple = .ok (.bl false)) (h : Hh) : g_is_pair [x] h = .ok (.bl false, h) := pureF_ok (by simp [pureDs, pureD, hp]) (by simp [r_is_pair, runD_eq, ir_is_pair, hx]; rfl) rfl
theorem pair_yes {x y : D} (hp : pureD x = true) (hq : pureD y = true) (h : Hh) : g_is_pair [.tup [x, y]] h = .ok (.bl true, h) := pureF_ok (by simp [pureDs, pureD, hp, hq]) (by
  simp [r_is_pair, runD_eq, ir_is_pair, isiD, lookD, tkD, subT, bcallD, bLen]; rfl) rfl
theorem pair_wrong {xs : List D} (hp : pureDs xs = true) (hl : xs.length ≠ 2) (h : Hh) : g_is_pair [.tup xs] h = .ok (.bl false, h) := pureF_ok (by simp [pureDs, pureD, hp]) (by
  have : ¬ (xs.length : Int) = 2 := by omega
  simp [r_is_pair, runD_eq, ir_is_pair, isiD, lookD, tkD, subT, bcallD, bLen, this]; rfl) rfl
theorem cof_nopair {x : D} (hp : pureD x = true) (hx : ∀ h, g_is_pair [x] h = .ok (.bl false, h)) (h : Hh) : g_is_content_of [x, .int 3] h = .ok (.bl false, h) := pureF_ok (by simp [pureDs, pureD, hp]) (by simp [r_is_content_of, runD_eq, ir_is_content_of, hx]; rfl) rfl
theorem cof_pair {x y : D} {a b : Bool} (hp : pureD x = true) (hq : pureD y = true) (hx : ∀ h, g_is_letters [x, .int 3] h = .ok (.bl a, h)) (hy : ∀ h, g_is_letters [y, .int 3] h = .ok (.bl b, h)) (h : Hh) : g_is_content_of [.tup [x, y], .int 3] h = .ok (.bl (a && b), h) := pureF_ok (by simp [pureDs, pureD, hp, hq]) (by
  have := pair_yes hp hq
  cases a <;> simp [r_is_content_of, runD_eq, ir_is_content_of, this, ixD, lookD, atD_in, hx, hy] <;> rfl) rfl
theorem content_of {x : D} {b : Bool} (hp : pureD x = true) (hx : ∀ h, g_is_content_of [x, .int 3] h = .ok (.bl b, h)) (h : Hh) : g_is_content [x] h = .ok (.bl b, h) := pureF_ok (by simp [pureDs, pureD, hp]) (by simp [r_is_content, runD_eq, ir_is_content, bcallD, bLen, lookD, hx]; rfl) rfl
theorem check_ok {x : D} (hp : pureD x = true) (hx : ∀ h, g_is_content [x] h = .ok (.bl true, h)) (h : Hh) : g_check_content [x] h = .ok (.non, h) := pureF_ok (by simp [pureDs, pureD, hp]) (by simp [r_check_content, runD_eq, ir_check_content, hx]; rfl) rfl
theorem check_no {x : D} (hp : pureD x = true) (hx : ∀ h, g_is_content [x] h = .ok (.bl false, h)) (h : Hh) : g_check_content [x] h = .exc 20 [] h := pureF_exc (h' := []) (by simp [pureDs, pureD, hp]) (by simp [r_check_content, runD_eq, ir_check_content, hx])
theorem good_content {hd ag : List Nat} (a : abc 3 hd) (b : abc 3 ag) (h : Hh) : g_is_content [.tup [.str hd, .str ag]] h = .ok (.bl true, h) :=
  content_of rfl (cof_pair (a := true) (b := true) rfl rfl (lets rfl (strof_ok fun c m => abc_mem a m)) (lets rfl (strof_ok fun c m => abc_mem b m))) h
theorem g_draw {h : Hh} {m : Int} (p : PotOk h []) (m0 : 0 < m) (m1 : m < 1073741824) : ∃ k h', g_law_draw [.ref 1, .int m] h = .ok (.int k, h') ∧ 0 ≤ k ∧ k < m ∧ PotOk h' [] := draw_ok G_law_draw p m0 m1
theorem g_string {h : Hh} {n m : Int} (p : PotOk h []) (n0 : 1 ≤ n) (n1 : n ≤ 3) (m0 : 0 ≤ m) (m1 : m ≤ 1000) : ∃ s h', g_law_string [.ref 1, .int n, .int m] h = .ok (.str s, h') ∧ (s.length : Int) ≤ m ∧ abc 3 s ∧ PotOk h' [] := by
  obtain ⟨k, h1, e1, k0, k1, p1⟩ := g_draw p (m := m + 1) (by omega) (by omega)
  generalize hf : (fun x h1 => (setT (.var 3) x (wipeE [some (D.ref 1), some (.int n), some (.int m), none] [3])).bind fun r1 => (evTs G_law_string .nil r1 h1).bind fun b => if b.1 then (evE G_law_string (.ix (.con (.str [97, 98, 99])) (.call 11 (.cons (.var 0) (.cons (.var 1) .nil)))) r1 b.2).bind fun y => .ok (some y.1, y.2) else .ok (none, b.2) : D → Hh → Res (Option D × Hh)) = f
  obtain ⟨ys, h2, e2, p2, l2, q2⟩ := lcD_inv (f := f) (I := fun h => PotOk h []) (Q := fun y => ∃ c, y = (fun c => D.str [c]) c ∧ (97 ≤ c ∧ c < 97 + 3)) (xs := (List.range k.toNat).map fun (i : Nat) => .int (i : Int)) (acc := []) (fun x m h ph => by
    subst hf
    obtain ⟨j, h', e, j0, j1, p'⟩ := g_draw ph (m := n) (by omega) (by omega)
    rcases (by omega : j = 0 ∨ j = 1 ∨ j = 2) with rfl | rfl | rfl
    · exact ⟨.str [97], h', by simp [e, ixD, lookD, atD_in], p', 97, rfl, by omega⟩
    · exact ⟨.str [98], h', by simp [e, ixD, lookD, atD_in], p', 98, rfl, by omega⟩
    · exact ⟨.str [99], h', by simp [e, ixD, lookD, atD_in], p', 99, rfl, by omega⟩) p1 (by simp; omega) (fun _ m => by cases m)
  obtain ⟨cs, rfl, qc⟩ := all_ex q2
  simp at l2
  refine ⟨cs, h2, ?_, by omega, qc, p2⟩
  show runD G_law_string 4 ir_law_string _ _ = _
  rw [runD_eq]
  unfold ir_law_string
  have er : evE G_law_string (.call 11 (.cons (.var 0) (.cons (.bin .Add (.var 2) (.con (.int 1))) .nil))) [some (D.ref 1), some (.int n), some (.int m), none] h = .ok (.int k, h1) := by simp [bin_add, e1]
  have ej := join_chars (cs := cs) (h := h2) (by omega)
  simp only [List.map_cons, List.map_nil, List.cons_append, List.nil_append, List.length_cons, List.length_nil, List.replicate, evSs_c, evS_ret, ev_bmeth, ev_con, Res.bind_ok, recvD, if_true, evEs_c, ev_lc, evI_rng, er, rangeD_n k0 (by omega : k < 1099511627776)]
  rw [hf, e2]
  simp only [Res.bind_ok, Bool.false_eq_true, if_false, evEs_n]
  rw [ej]
  rfl

theorem cut_to {α : Type} {xs : List α} {m : Int} (a : 0 ≤ m) : cutD xs none (some m) = xs.take m.toNat := by
  unfold cutD clampD
  simp only [if_neg (by omega : ¬ m < 0), List.drop_zero, Nat.sub_zero]
  rw [List.take_eq_take_iff]
  omega
theorem cut_from {α : Type} {xs : List α} {m : Int} (a : 0 ≤ m) : cutD xs (some m) none = xs.drop m.toNat := by
  unfold cutD clampD
  simp only [if_neg (by omega : ¬ m < 0)]
  by_cases z : m.toNat ≤ xs.length
  · rw [Nat.min_eq_left z, List.take_of_length_le (by rw [List.length_drop]; omega)]
  · rw [Nat.min_eq_right (by omega), List.drop_of_length_le (Nat.le_refl _), List.drop_of_length_le (by omega)]
    simp
theorem cut_to1 {α : Type} {xs : List α} (a : 0 < xs.length) : cutD xs none (some (-1)) = xs.take (xs.length - 1) := by
  unfold cutD clampD
  simp only [if_pos (by omega : (-1 : Int) < 0), List.drop_zero, Nat.sub_zero]
  congr 1
  omega
theorem cut_from1 {α : Type} {xs : List α} (a : 0 < xs.length) : cutD xs (some (-1)) none = xs.drop (xs.length - 1) := by
  unfold cutD clampD
  simp only [if_pos (by omega : (-1 : Int) < 0)]
  have : (-1 + (xs.length : Int)).toNat = xs.length - 1 := by omega
  rw [this, List.take_of_length_le (by rw [List.length_drop]; omega)]
theorem atD_last {xs : List Nat} (a : 0 < xs.length) : atD xs (-1) = some (xs.getD (xs.length - 1) 0) := by
  unfold atD ixN
  rw [if_neg (by omega), if_pos (by omega)]
  have : (-1 + (xs.length : Int)).toNat = xs.length - 1 := by omega
  show xs[(-1 + (xs.length : Int)).toNat]? = _
  rw [this, getD_some (by omega)]
theorem range2D (G : Gam) (r : Z9.Env) (h h' : Hh) {e : Ex} {n : Nat} (k : evE G e r h = .ok (.int n, h')) (hn : n ≤ 1000) : evI G (.range2 (.con (.int 1)) e) r h = .ok ((List.range' 1 (n - 1)).map fun (m : Nat) => .int (m : Int), h') := by
  have h1 : -1099511627776 < (n : Int) := by omega
  have h2 : (n : Int) < 1099511627776 := by omega
  unfold evI
  rw [ev_con, Res.bind_ok, k, Res.bind_ok]
  show ofB (decide _ && decide _ && decide _ && decide _) _ = _
  rw [decide_eq_true h1, decide_eq_true h2, decide_eq_true (by omega : (-1099511627776 : Int) < 1), decide_eq_true (by omega : (1 : Int) < 1099511627776)]
  show Res.ok _ = _
  congr 2
  rw [List.range'_eq_map_range, List.map_map]
  have : ((n : Int) - 1).toNat = n - 1 := by omega
  rw [this]
  refine List.map_congr_left fun i _ => ?_
  simp
theorem mulStr {s : List Nat} {k : Nat} (h1 : k ≤ 1000) (h2 : s.length * k ≤ 1000) : binD .Mult (.str s) (.int (k : Int)) = .ok (.str (List.replicate k s).flatten) := by
  show ofB (decide _ && decide _ && okN _) _ = _
  have : okN (s.length * (Int.toNat (k : Int))) = true := by unfold okN; rw [Int.toNat_natCast]; simp only [decide_eq_true_eq]; omega
  rw [this, decide_eq_true (Int.natCast_nonneg k), decide_eq_true (by omega), Int.toNat_natCast]
  rfl
theorem addStr {s t : List Nat} (h : s.length + t.length ≤ 100000) : binD .Add (.str s) (.str t) = .ok (.str (s ++ t)) := by
  show ofB (okN _) _ = _
  have : okN (s.length + t.length) = true := by unfold okN; simp only [decide_eq_true_eq]; omega
  rw [this]
  rfl
theorem divSmall {i j : Int} (a : 0 < j) (b : j ≤ 1000) : binD .FloorDiv (.int i) (.int j) = .ok (.int (i / j)) := bin_div a (by omega)
def lrBody : Sms := .cons (.iff (.and (.cons (.cmp .Eq (.bin .Mod (.bcall .len (.cons (.var 0) .nil)) (.var 1)) (.con (.int 0))) (.cons (.cmp .Eq (.bin .Mult (.sl (.var 0) .none (.some (.var 1))) (.bin .FloorDiv (.bcall .len (.cons (.var 0) .nil)) (.var 1))) (.var 0)) .nil))) (.cons (.ret (.sl (.var 0) .none (.some (.var 1)))) .nil) .nil) .nil
theorem lr_turn {ag : List Nat} {q : Nat} (q0 : 0 < q) (q1 : q ≤ ag.length) (hl : ag.length ≤ 1000) (y : Option D) : evSs G_least_round lrBody [some (.str ag), some (.int q)] [] = if isRoot ag q = true then .ok (.rt (.str (ag.take q)) []) else .ok (.nx [some (.str ag), some (.int q)] []) := by
  have q0' : (0 : Int) < q := by omega
  have hl2 : (ag.take q).length = q := by rw [List.length_take]; omega
  have hle : (ag.take q).length * (ag.length / q) ≤ ag.length := by rw [hl2]; exact Nat.mul_div_le _ _
  have hdl : ag.length / q ≤ ag.length := Nat.div_le_self _ _
  have hmul := mulStr (s := ag.take q) (k := ag.length / q) (by omega) (by omega)
  have hmod : binD .Mod (.int (ag.length : Int)) (.int (q : Int)) = .ok (.int ((ag.length % q : Nat) : Int)) := by rw [bin_mod q0', Int.natCast_emod]
  have hdiv : binD .FloorDiv (.int (ag.length : Int)) (.int (q : Int)) = .ok (.int ((ag.length / q : Nat) : Int)) := by rw [divSmall q0' (by omega), Int.natCast_ediv]
  have hsl : slD [] (.str ag) none (some (q : Int)) = .ok (.str (ag.take q)) := by
    show Res.ok (D.str (cutD ag none (some (q : Int)))) = _
    rw [cut_to (by omega), Int.toNat_natCast]
  have e0 : ∀ x : Option D, evE G_least_round (.bcall .len (.cons (.var 0) .nil)) [some (.str ag), x] [] = .ok (.int ag.length, []) := fun x => by simp [bcallD, bLen, lookD]
  have e1 : evE G_least_round (.bin .Mod (.bcall .len (.cons (.var 0) .nil)) (.var 1)) [some (.str ag), some (.int q)] [] = .ok (.int ((ag.length % q : Nat) : Int), []) := by
    rw [ev_bin, e0, Res.bind_ok, ev_var, getV_s, getV_z, Res.bind_ok, Res.bind_ok, hmod, Res.bind_ok]
  have e2 : evE G_least_round (.bin .FloorDiv (.bcall .len (.cons (.var 0) .nil)) (.var 1)) [some (.str ag), some (.int q)] [] = .ok (.int ((ag.length / q : Nat) : Int), []) := by
    rw [ev_bin, e0, Res.bind_ok, ev_var, getV_s, getV_z, Res.bind_ok, Res.bind_ok, hdiv, Res.bind_ok]
  have e3 : evE G_least_round (.sl (.var 0) .none (.some (.var 1))) [some (.str ag), some (.int q)] [] = .ok (.str (ag.take q), []) := by
    rw [ev_sl, ev_var, getV_z, Res.bind_ok, Res.bind_ok, evO_n, Res.bind_ok, evO_e, ev_var, getV_s, getV_z, Res.bind_ok, Res.bind_ok, optD_i, Res.bind_ok, hsl, Res.bind_ok]
  have e4 : evE G_least_round (.bin .Mult (.sl (.var 0) .none (.some (.var 1))) (.bin .FloorDiv (.bcall .len (.cons (.var 0) .nil)) (.var 1))) [some (.str ag), some (.int q)] [] = .ok (.str (List.replicate (ag.length / q) (ag.take q)).flatten, []) := by
    rw [ev_bin, e3, Res.bind_ok, e2, Res.bind_ok, hmul, Res.bind_ok]
  have e5 : evE G_least_round (.and (.cons (.cmp .Eq (.bin .Mod (.bcall .len (.cons (.var 0) .nil)) (.var 1)) (.con (.int 0))) (.cons (.cmp .Eq (.bin .Mult (.sl (.var 0) .none (.some (.var 1))) (.bin .FloorDiv (.bcall .len (.cons (.var 0) .nil)) (.var 1))) (.var 0)) .nil))) [some (.str ag), some (.int q)] [] = .ok (.bl (isRoot ag q), []) := by
    rw [ev_and, evA_2, ev_cmp, e1, Res.bind_ok, ev_con, Res.bind_ok, int_eq, Res.bind_ok, Res.bind_ok, boolD_bl, Res.bind_ok]
    unfold isRoot
    by_cases z1 : ag.length % q = 0
    · have z3 : (ag.length % q == 0) = true := beq_iff_eq.mpr z1
      rw [z3, decide_eq_true (by omega : ((ag.length % q : Nat) : Int) = 0), if_pos rfl, evA_1, ev_cmp, e4, Res.bind_ok, ev_var, getV_z, Res.bind_ok, Res.bind_ok, str_eq, Res.bind_ok, Res.bind_ok, boolD_bl, Res.bind_ok, Bool.true_and]
      have z4 : decide ((List.replicate (ag.length / q) (ag.take q)).flatten = ag) = ((List.replicate (ag.length / q) (ag.take q)).flatten == ag) := by
        by_cases z2 : (List.replicate (ag.length / q) (ag.take q)).flatten = ag
        · rw [decide_eq_true z2, beq_iff_eq.mpr z2]
        · rw [decide_eq_false z2, beq_eq_false_iff_ne.mpr z2]
      rw [z4]
    · have z3 : (ag.length % q == 0) = false := beq_eq_false_iff_ne.mpr z1
      rw [z3, decide_eq_false (by omega : ¬ ((ag.length % q : Nat) : Int) = 0), if_neg Bool.false_ne_true, Bool.false_and]
  unfold lrBody
  rw [evSs_c, evS_iff, e5, Res.bs_ok, boolD_bl, Res.bs_ok]
  cases isRoot ag q with
  | true => rw [if_pos rfl, if_pos rfl, evSs_c, evS_ret, e3, Res.bs_ok, Res.bind_ok, thenS_rt, Res.bind_ok, thenS_rt]
  | false => rw [if_neg Bool.false_ne_true, if_neg Bool.false_ne_true, evSs_n, Res.bind_ok, thenS_nx, evSs_n]
def isRootD (ag : List Nat) : D → Bool
  | .int m => isRoot ag m.toNat
  | _ => false
def takeD (ag : List Nat) : D → D
  | .int m => .str (ag.take m.toNat)
  | _ => .non
theorem lround_eq {ag : List Nat} (hl : ag.length ≤ 1000) (h : Hh) : g_least_round [.str ag] h = .ok (.str (root ag), h) := pureF_ok (h' := []) rfl (by
  have hk : evE G_least_round (.bcall .len (.cons (.var 0) .nil)) [some (.str ag), none] [] = .ok (.int ag.length, []) := by simp [bcallD, bLen, lookD]
  have S := forD_search (f := fun x r1 h1 => (setT (.var 1) x r1).bs r1 fun r2 => evSs G_least_round lrBody r2 h1) (I := fun r => ∃ x, r = [some (.str ag), x]) (h := []) (P := isRootD ag) (V := takeD ag)
    (xs := (List.range' 1 (ag.length - 1)).map fun (m : Nat) => .int (m : Int)) (r := [some (.str ag), none]) (fun x m r ⟨y, er⟩ => by
      obtain ⟨q, hq, rfl⟩ := List.mem_map.mp m
      subst er
      rw [List.mem_range'_1] at hq
      have T := lr_turn (ag := ag) (q := q) (by omega) (by omega) hl y
      simp only [setT_v, Res.bs_ok, List.set, T, isRootD, takeD, Int.toNat_natCast]
      refine ⟨fun z => by rw [if_pos z], fun z => ⟨[some (.str ag), some (.int q)], by rw [if_neg (by rw [z]; exact Bool.false_ne_true)], _, rfl⟩⟩) ⟨_, rfl⟩
  rw [List.find?_map] at S
  have hP : (isRootD ag ∘ fun (m : Nat) => D.int (m : Int)) = isRoot ag := by
    funext m
    simp only [Function.comp, isRootD, Int.toNat_natCast]
  rw [hP] at S
  show runD G_least_round 2 ir_least_round [.str ag] [] = _
  rw [runD_eq]
  show endD (evSs G_least_round (.cons (.forr (.var 1) (.range2 (.con (.int 1)) (.bcall .len (.cons (.var 0) .nil))) lrBody) (.cons (.ret (.var 0)) .nil)) [some (.str ag), none] []) = _
  rw [evSs_c, evS_for, range2D _ _ _ _ hk hl, Res.bs_ok]
  cases hf : (List.range' 1 (ag.length - 1)).find? (isRoot ag) with
  | some m =>
    rw [S.1 (.int m) (by rw [hf]; rfl)]
    simp only [root, rootLen, hf, Option.getD_some, takeD, Int.toNat_natCast, Res.bind_ok, thenS_rt, endD_rt]
  | none =>
    obtain ⟨r', e2, x, rfl⟩ := S.2 (by rw [hf]; rfl)
    rw [e2]
    simp only [root, rootLen, hf, Option.getD_none, List.take_length, Res.bind_ok, thenS_nx, evSs_c, evS_ret, ev_var, getV_z, Res.bs_ok, thenS_rt, endD_rt]) rfl
end Z9

set_option Elab.async false
set_option linter.all false
set_option maxRecDepth 100000
set_option maxHeartbeats 4000000
namespace Z9
open PySem PySem.Spec
/-! the shortest pair, walked -/
theorem root_le {a : List Nat} : (root a).length ≤ a.length := by unfold root; rw [List.length_take]; omega
theorem back_nil : ∀ (n : Nat) (f : List Nat), back n f [] = (f, [])
  | 0, f => rfl
  | n + 1, f => by
    unfold back
    rw [if_neg (fun z => absurd z.2.1 (Nat.lt_irrefl 0))]
theorem shortest_nil {f : List Nat} : shortest f [] = (f, []) := by
  unfold shortest
  have : root [] = [] := rfl
  rw [this, back_nil]
theorem back_sub : ∀ (n : Nat) (f a : List Nat), (back n f a).1.length ≤ f.length ∧ (back n f a).2.length ≤ a.length ∧ (∀ c ∈ (back n f a).1, c ∈ f) ∧ (∀ c ∈ (back n f a).2, c ∈ a)
  | 0, f, a => ⟨Nat.le_refl _, Nat.le_refl _, fun _ m => m, fun _ m => m⟩
  | n + 1, f, a => by
    unfold back
    split
    · obtain ⟨h1, h2, h3, h4⟩ := back_sub n (f.take (f.length - 1)) (rot a)
      rw [List.length_take] at h1
      rw [rot_len] at h2
      refine ⟨by omega, h2, fun c m => List.mem_of_mem_take (h3 c m), fun c m => ?_⟩
      have := h4 c m
      unfold rot at this
      rcases List.mem_append.mp this with x | x
      · exact List.mem_of_mem_drop x
      · exact List.mem_of_mem_take x
    · exact ⟨Nat.le_refl _, Nat.le_refl _, fun _ m => m, fun _ m => m⟩
theorem shortest_sub {f a : List Nat} : (shortest f a).1.length ≤ f.length ∧ (shortest f a).2.length ≤ a.length ∧ (∀ c ∈ (shortest f a).1, c ∈ f) ∧ (∀ c ∈ (shortest f a).2, c ∈ a) := by
  obtain ⟨h1, h2, h3, h4⟩ := back_sub f.length f (root a)
  exact ⟨h1, Nat.le_trans h2 root_le, h3, fun c m => List.mem_of_mem_take (h4 c m)⟩
def shCond : Ex := .and (.cons (.cmp .Gt (.bcall .len (.cons (.var 0) .nil)) (.con (.int 0))) (.cons (.cmp .Gt (.bcall .len (.cons (.var 1) .nil)) (.con (.int 0))) (.cons (.cmp .Eq (.ix (.var 0) (.neg (.con (.int 1)))) (.ix (.var 1) (.neg (.con (.int 1))))) .nil)))
def shBody : Sms := .cons (.set 0 (.sl (.var 0) .none (.some (.neg (.con (.int 1)))))) (.cons (.set 1 (.bin .Add (.sl (.var 1) (.some (.neg (.con (.int 1)))) .none) (.sl (.var 1) .none (.some (.neg (.con (.int 1))))))) .nil)
def goesB (f a : List Nat) : Prop := 0 < f.length ∧ 0 < a.length ∧ f.getD (f.length - 1) 0 = a.getD (a.length - 1) 0
instance (f a : List Nat) : Decidable (goesB f a) := by unfold goesB; infer_instance
theorem lastD {s : List Nat} (h : 0 < s.length) : ixD [] (.str s) (.int (-1)) = .ok (.str [s.getD (s.length - 1) 0]) := by
  show ofO ((atD s (-1)).map _) = _
  rw [atD_last h]
  rfl
theorem sh_cond {f a : List Nat} : evE G_shortest shCond [some (.str f), some (.str a)] [] = .ok (.bl (decide (goesB f a)), []) := by
  have l0 : evE G_shortest (.bcall .len (.cons (.var 0) .nil)) [some (.str f), some (.str a)] [] = .ok (.int f.length, []) := by simp [bcallD, bLen, lookD]
  have l1 : evE G_shortest (.bcall .len (.cons (.var 1) .nil)) [some (.str f), some (.str a)] [] = .ok (.int a.length, []) := by simp [bcallD, bLen, lookD]
  unfold shCond
  rw [ev_and, evA_2, ev_cmp, l0, Res.bind_ok, ev_con, Res.bind_ok, int_gt, Res.bind_ok, Res.bind_ok, boolD_bl, Res.bind_ok]
  by_cases z : 0 < f.length
  · rw [decide_eq_true (by omega : (0 : Int) < f.length), if_pos rfl, evA_2, ev_cmp, l1, Res.bind_ok, ev_con, Res.bind_ok, int_gt, Res.bind_ok, Res.bind_ok, boolD_bl, Res.bind_ok]
    by_cases y : 0 < a.length
    · have i0 : evE G_shortest (.ix (.var 0) (.neg (.con (.int 1)))) [some (.str f), some (.str a)] [] = .ok (.str [f.getD (f.length - 1) 0], []) := by
        rw [ev_ix, ev_var, getV_z, Res.bind_ok, Res.bind_ok, ev_neg, Res.bind_ok, lastD z, Res.bind_ok]
      have i1 : evE G_shortest (.ix (.var 1) (.neg (.con (.int 1)))) [some (.str f), some (.str a)] [] = .ok (.str [a.getD (a.length - 1) 0], []) := by
        rw [ev_ix, ev_var, getV_s, getV_z, Res.bind_ok, Res.bind_ok, ev_neg, Res.bind_ok, lastD y, Res.bind_ok]
      rw [decide_eq_true (by omega : (0 : Int) < a.length), if_pos rfl, evA_1, ev_cmp, i0, Res.bind_ok, i1, Res.bind_ok, str_eq, Res.bind_ok, Res.bind_ok, boolD_bl, Res.bind_ok]
      have z4 : decide ([f.getD (f.length - 1) 0] = [a.getD (a.length - 1) 0]) = decide (goesB f a) := by
        by_cases x : f.getD (f.length - 1) 0 = a.getD (a.length - 1) 0
        · rw [decide_eq_true (by rw [x]), decide_eq_true ⟨z, y, x⟩]
        · rw [decide_eq_false (fun w => x (List.cons.inj w).1), decide_eq_false (fun w => x w.2.2)]
      rw [z4]
    · rw [decide_eq_false (by omega : ¬ (0 : Int) < a.length), if_neg Bool.false_ne_true, decide_eq_false (fun w => y w.2.1)]
  · rw [decide_eq_false (by omega : ¬ (0 : Int) < f.length), if_neg Bool.false_ne_true, decide_eq_false (fun w => z w.1)]
theorem sh_body {f a : List Nat} (g : goesB f a) (ha : a.length ≤ 1000) : evSs G_shortest shBody [some (.str f), some (.str a)] [] = .ok (.nx [some (.str (f.take (f.length - 1))), some (.str (rot a))] []) := by
  have s0 : ∀ {y : Option D}, evE G_shortest (.sl (.var 0) .none (.some (.neg (.con (.int 1))))) [some (.str f), y] [] = .ok (.str (f.take (f.length - 1)), []) := by
    intro y
    rw [ev_sl, ev_var, getV_z, Res.bind_ok, Res.bind_ok, evO_n, Res.bind_ok, evO_e, ev_neg, Res.bind_ok, optD_i, Res.bind_ok]
    show Res.bind (Res.ok (D.str (cutD f none (some (-1))))) _ = _
    rw [cut_to1 g.1, Res.bind_ok]
  have s1 : ∀ {y : Option D}, evE G_shortest (.sl (.var 1) .none (.some (.neg (.con (.int 1))))) [y, some (.str a)] [] = .ok (.str (a.take (a.length - 1)), []) := by
    intro y
    rw [ev_sl, ev_var, getV_s, getV_z, Res.bind_ok, Res.bind_ok, evO_n, Res.bind_ok, evO_e, ev_neg, Res.bind_ok, optD_i, Res.bind_ok]
    show Res.bind (Res.ok (D.str (cutD a none (some (-1))))) _ = _
    rw [cut_to1 g.2.1, Res.bind_ok]
  have s2 : ∀ {y : Option D}, evE G_shortest (.sl (.var 1) (.some (.neg (.con (.int 1)))) .none) [y, some (.str a)] [] = .ok (.str (a.drop (a.length - 1)), []) := by
    intro y
    rw [ev_sl, ev_var, getV_s, getV_z, Res.bind_ok, Res.bind_ok, evO_e, ev_neg, Res.bind_ok, optD_i, Res.bind_ok, evO_n, Res.bind_ok]
    show Res.bind (Res.ok (D.str (cutD a (some (-1)) none))) _ = _
    rw [cut_from1 g.2.1, Res.bind_ok]
  unfold shBody
  rw [evSs_c, evS_set, s0, Res.bs_ok, Res.bind_ok, thenS_nx, evSs_c, evS_set, ev_bin]
  simp only [List.set]
  rw [s2, Res.bind_ok, s1, Res.bind_ok, addStr (by rw [List.length_drop, List.length_take]; omega), Res.bind_ok, Res.bs_ok, Res.bind_ok, thenS_nx, evSs_n]
  rfl
theorem sh_while : ∀ (n : Nat) (f a : List Nat), f.length ≤ n → a.length ≤ 1000 → whileN (fun r1 h1 => (evE G_shortest shCond r1 h1).bind fun p => (boolD p.1).bind fun t => .ok (t, p.2)) (fun r1 h1 => evSs G_shortest shBody r1 h1) (n + 1) [some (.str f), some (.str a)] [] = .ok (.nx [some (.str (back n f a).1), some (.str (back n f a).2)] []) := by
  intro n
  induction n with
  | zero =>
    intro f a hn ha
    unfold whileN
    rw [sh_cond, Res.bind_ok, boolD_bl, Res.bind_ok, Res.bs_ok, decide_eq_false (fun z => absurd z.1 (by omega))]
    rfl
  | succ n ih =>
    intro f a hn ha
    unfold whileN
    rw [sh_cond, Res.bind_ok, boolD_bl, Res.bind_ok, Res.bs_ok]
    by_cases z : goesB f a
    · rw [decide_eq_true z, if_pos rfl, sh_body z ha]
      have := ih (f.take (f.length - 1)) (rot a) (by rw [List.length_take]; omega) (by rw [rot_len]; exact ha)
      have z' : 0 < f.length ∧ 0 < a.length ∧ f.getD (f.length - 1) 0 = a.getD (a.length - 1) 0 := z
      unfold back
      rw [if_pos z']
      exact this
    · rw [decide_eq_false z, if_neg Bool.false_ne_true]
      have z' : ¬ (0 < f.length ∧ 0 < a.length ∧ f.getD (f.length - 1) 0 = a.getD (a.length - 1) 0) := z
      unfold back
      rw [if_neg z']
theorem short_walk {f a : List Nat} (hf : f.length ≤ 1000) (ha : a.length ≤ 1000) (h : Hh) : g_shortest [.str f, .str a] h = .ok (.tup [.str (shortest f a).1, .str (shortest f a).2], h) := by
  have e1 : evE G_shortest (.call 6 (.cons (.var 1) .nil)) [some (.str f), some (.str a)] [] = .ok (.str (root a), []) := (dcall rfl (ds1 (dvr rfl)) rfl).trans (lround_eq ha [])
  have e2 : evS G_shortest (.whil shCond shBody) [some (.str f), some (.str (root a))] [] = .ok (.nx [some (.str (shortest f a).1), some (.str (shortest f a).2)] []) := by
    simp only [evS]
    exact whileD_eq (sh_while f.length f (root a) (Nat.le_refl _) (Nat.le_trans root_le ha)) (fun x => nomatch x)
  have e3 : evSs G_shortest ir_shortest [some (.str f), some (.str a)] [] = .ok (.rt (.tup [.str (shortest f a).1, .str (shortest f a).2]) []) :=
    qnx (sset e1) (qnx e2 (qrt (sret (dtup (ds2 (dvr rfl) (dvr rfl)) (by simp)))))
  exact pureF_ok (h' := []) rfl (run_rt rfl e3) rfl
/-- a content as a thing -/
def tupC (p : List Nat × List Nat) : D := .tup [.str p.1, .str p.2]
theorem tupC_eq (p q : List Nat × List Nat) : cmpD .Eq (tupC p) (tupC q) = .ok (.bl (decide (p = q))) := by
  rw [cmp_eq (by simp [tupC, canEq, depD, depDs]) (by simp [tupC, canEq, depD, depDs])]
  congr 2
  rw [Bool.eq_iff_iff]
  simp [tupC, eqD, eqDs, Prod.ext_iff]
theorem tupC_ne (p q : List Nat × List Nat) : cmpD .NotEq (tupC p) (tupC q) = .ok (.bl (!decide (p = q))) := by
  rw [cmp_ne (by simp [tupC, canEq, depD, depDs]) (by simp [tupC, canEq, depD, depDs])]
  congr 3
  rw [Bool.eq_iff_iff]
  simp [tupC, eqD, eqDs, Prod.ext_iff]
theorem tup0 {x y : D} {h : Hh} : ixD h (.tup [x, y]) (.int 0) = .ok x := rfl
theorem tup1 {x y : D} {h : Hh} : ixD h (.tup [x, y]) (.int 1) = .ok y := rfl
theorem check_walk {f a : List Nat} (af : abc 3 f) (aa : abc 3 a) (h : Hh) : g_check_content [tupC (f, a)] h = .ok (.non, h) := check_ok rfl (good_content af aa) h
theorem least_walk {f a : List Nat} (hf : f.length ≤ 1000) (ha : a.length ≤ 1000) (af : abc 3 f) (aa : abc 3 a) (h : Hh) : g_least_content [tupC (f, a)] h = .ok (tupC (shortest f a), h) := by
  have e1 : evE G_least_content (.call 5 (.cons (.var 0) .nil)) [some (tupC (f, a))] [] = .ok (.non, []) := (dcall rfl (ds1 (dvr rfl)) rfl).trans (check_walk af aa [])
  have e2 : evE G_least_content (.call 7 (.cons (.ix (.var 0) (.con (.int 0))) (.cons (.ix (.var 0) (.con (.int 1))) .nil))) [some (tupC (f, a))] [] = .ok (tupC (shortest f a), []) :=
    (dcall rfl (ds2 (dix (dvr rfl) (dcn _) tup0) (dix (dvr rfl) (dcn _) tup1)) rfl).trans (short_walk hf ha [])
  exact pureF_ok (h' := []) rfl (run_rt rfl (qnx (sexp e1) (qrt (sret e2)))) rfl
theorem same_walk {f a f2 a2 : List Nat} (hf : f.length ≤ 1000) (ha : a.length ≤ 1000) (af : abc 3 f) (aa : abc 3 a) (hf2 : f2.length ≤ 1000) (ha2 : a2.length ≤ 1000) (af2 : abc 3 f2) (aa2 : abc 3 a2) (h : Hh) :
    g_same_signs [tupC (f, a), tupC (f2, a2)] h = .ok (.bl (decide (shortest f a = shortest f2 a2)), h) := by
  have e1 : evE G_same_signs (.call 5 (.cons (.var 0) .nil)) [some (tupC (f, a)), some (tupC (f2, a2))] [] = .ok (.non, []) := (dcall rfl (ds1 (dvr rfl)) rfl).trans (check_walk af aa [])
  have e2 : evE G_same_signs (.call 5 (.cons (.var 1) .nil)) [some (tupC (f, a)), some (tupC (f2, a2))] [] = .ok (.non, []) := (dcall rfl (ds1 (dvr rfl)) rfl).trans (check_walk af2 aa2 [])
  have e3 : evE G_same_signs (.call 7 (.cons (.ix (.var 0) (.con (.int 0))) (.cons (.ix (.var 0) (.con (.int 1))) .nil))) [some (tupC (f, a)), some (tupC (f2, a2))] [] = .ok (tupC (shortest f a), []) :=
    (dcall rfl (ds2 (dix (dvr rfl) (dcn _) tup0) (dix (dvr rfl) (dcn _) tup1)) rfl).trans (short_walk hf ha [])
  have e4 : evE G_same_signs (.call 7 (.cons (.ix (.var 1) (.con (.int 0))) (.cons (.ix (.var 1) (.con (.int 1))) .nil))) [some (tupC (f, a)), some (tupC (f2, a2))] [] = .ok (tupC (shortest f2 a2), []) :=
    (dcall rfl (ds2 (dix (dvr rfl) (dcn _) tup0) (dix (dvr rfl) (dcn _) tup1)) rfl).trans (short_walk hf2 ha2 [])
  exact pureF_ok (h' := []) rfl (run_rt rfl (qnx (sexp e1) (qnx (sexp e2) (qrt (sret (dcmp e3 e4 (tupC_eq _ _))))))) rfl
/-- the sign at a place -/
def wdS (f a : List Nat) (i : Nat) : List Nat := if i < f.length then [f.getD i 0] else if a = [] then [101, 110, 100] else [a.getD ((i - f.length) % a.length) 0]
theorem wdS_wd {f a : List Nat} (h : a ≠ []) (i : Nat) : wdS f a i = [wd f a i] := by
  unfold wdS wd
  rw [if_neg h]
  split
  · rfl
  · rfl
theorem sign_walk {f a : List Nat} (i : Nat) (h : Hh) : g_law_sign [tupC (f, a), .int i] h = .ok (.str (wdS f a i), h) := by
  have p0 : evE G_law_sign (.ix (.var 0) (.con (.int 0))) [some (tupC (f, a)), some (.int i)] [] = .ok (.str f, []) := dix (dvr rfl) (dcn _) tup0
  have p1 : evE G_law_sign (.ix (.var 0) (.con (.int 1))) [some (tupC (f, a)), some (.int i)] [] = .ok (.str a, []) := dix (dvr rfl) (dcn _) tup1
  have pi : evE G_law_sign (.var 1) [some (tupC (f, a)), some (.int i)] [] = .ok (.int i, []) := dvr rfl
  have l0 : evE G_law_sign (.bcall .len (.cons (.ix (.var 0) (.con (.int 0))) .nil)) [some (tupC (f, a)), some (.int i)] [] = .ok (.int f.length, []) := dbc (ds1 p0) rfl
  have l1 : evE G_law_sign (.bcall .len (.cons (.ix (.var 0) (.con (.int 1))) .nil)) [some (tupC (f, a)), some (.int i)] [] = .ok (.int a.length, []) := dbc (ds1 p1) rfl
  have c0 := dcmp pi l0 (int_lt _ _)
  have c1 := dcmp p1 (dcn (.str [])) (str_eq _ _)
  unfold wdS
  by_cases z : i < f.length
  · have e1 : ixD [] (.str f) (.int (i : Int)) = .ok (.str [f.getD i 0]) := by
      show ofO ((atD f (i : Int)).map _) = _
      rw [atD_nat z, getD_some z]
      rfl
    rw [decide_eq_true (by omega)] at c0
    rw [if_pos z]
    exact pureF_ok (h' := []) rfl (run_rt rfl (qrt (sit c0 (qrt (sret (dix p0 pi e1)))))) rfl
  · rw [decide_eq_false (by omega)] at c0
    rw [if_neg z]
    by_cases y : a = []
    · rw [decide_eq_true y] at c1
      rw [if_pos y]
      exact pureF_ok (h' := []) rfl (run_rt rfl (qnx (sif0 c0) (qrt (sit c1 (qrt (sret (dcn _))))))) rfl
    · rw [decide_eq_false y] at c1
      rw [if_neg y]
      have y1 : 0 < a.length := Nat.pos_of_ne_zero fun z => y (List.eq_nil_of_length_eq_zero z)
      have y2 : (i - f.length) % a.length < a.length := Nat.mod_lt _ y1
      have e1 : ixD [] (.str a) (.int (((i - f.length) % a.length : Nat) : Int)) = .ok (.str [a.getD ((i - f.length) % a.length) 0]) := by
        show ofO ((atD a _).map _) = _
        rw [atD_nat y2, getD_some y2]
        rfl
      have e2 : (i : Int) - f.length = ((i - f.length : Nat) : Int) := by omega
      have e3 : binD .Mod (.int ((i : Int) - f.length)) (.int a.length) = .ok (.int (((i - f.length) % a.length : Nat) : Int)) := by
        rw [bin_mod (by omega), e2, Int.natCast_emod]
      have m1 := dbin (dbc (f := .int) (ds1 (dbin pi l0 (bin_sub _ _))) rfl) l1 e3
      exact pureF_ok (h' := []) rfl (run_rt rfl (qnx (sif0 c0) (qnx (sif0 c1) (qrt (sret (dix p1 m1 e1)))))) rfl
theorem first_walk {f a : List Nat} {n : Nat} (hn : n ≤ 1000) (h : Hh) : g_law_first [tupC (f, a), .int n] h = .ok (.lst (((List.range n).map (wdS f a)).map D.str), h) := by
  have hp : pureD (.lst (((List.range n).map (wdS f a)).map D.str)) = true := by
    show pureDs _ = true
    generalize (List.range n).map (wdS f a) = l
    induction l with
    | nil => rfl
    | cons x xs ih => simp [pureDs, pureD, ih]
  have e1 := lc1000 (f := fun x h1 => (setT (.var 2) x (wipeE [some (tupC (f, a)), some (.int n), none] [2])).bind fun r1 => (evTs G_law_first .nil r1 h1).bind fun b => if b.1 then (evE G_law_first (.call 13 (.cons (.var 0) (.cons (.var 2) .nil))) r1 b.2).bind fun y => .ok (some y.1, y.2) else .ok (none, b.2)) (F := fun x => match x with | .int i => some (.str (wdS f a i.toNat)) | _ => none) (h := []) (xs := (List.range n).map fun (i : Nat) => .int (i : Int)) (fun x m => by
      obtain ⟨i, _, rfl⟩ := List.mem_map.mp m
      have e : evE G_law_first (.call 13 (.cons (.var 0) (.cons (.var 2) .nil))) [some (tupC (f, a)), some (.int n), some (.int (i : Int))] [] = .ok (.str (wdS f a i), []) := (dcall rfl (ds2 (dvr rfl) (dvr rfl)) rfl).trans (sign_walk i [])
      show (Res.bind (Res.ok (true, [])) fun b : Bool × Hh => if b.1 then (evE G_law_first (.call 13 (.cons (.var 0) (.cons (.var 2) .nil))) [some (tupC (f, a)), some (.int n), some (.int (i : Int))] b.2).bind fun y => .ok (some y.1, y.2) else .ok (none, b.2)) = _
      rw [Res.bind_ok, if_pos rfl, e]; rfl) (by rw [List.length_map, List.length_range]; exact hn)
  have e2 : ((List.range n).map fun (i : Nat) => D.int (i : Int)).filterMap (fun x => match x with | .int i => some (D.str (wdS f a i.toNat)) | _ => none) = ((List.range n).map (wdS f a)).map D.str := by
    rw [List.filterMap_map, List.map_map]
    generalize List.range n = l
    induction l with
    | nil => rfl
    | cons x xs ih => simp [ih]
  rw [e2] at e1
  exact pureF_ok (h' := []) rfl (run_rt rfl (qrt (sret (dlc (drange (dvr rfl) hn) e1)))) hp
theorem strs_eq (xs ys : List (List Nat)) : cmpD .Eq (.lst (xs.map D.str)) (.lst (ys.map D.str)) = .ok (.bl (decide (xs = ys))) := by
  have hd : ∀ l : List (List Nat), canEq (.lst (l.map D.str)) = true := fun l => by
    have : depDs (l.map D.str) = some 0 := by
      induction l with
      | nil => rfl
      | cons x xs ih => simp [depDs, depD, ih]
    simp [canEq, depD, this]
  rw [cmp_eq (hd xs) (hd ys)]
  congr 2
  show eqDs _ _ = _
  induction xs generalizing ys with
  | nil => cases ys <;> simp [eqDs]
  | cons x xs ih => cases ys with
    | nil => simp [eqDs]
    | cons y ys => simp [eqDs, eqD, ih]
theorem first_eq (u v : Nat → List Nat) (n : Nat) : ((List.range n).map u = (List.range n).map v) ↔ ∀ i, i < n → u i = v i := by
  rw [List.map_inj_left]
  simp only [List.mem_range]
end Z9

set_option Elab.async false
set_option linter.all false
set_option maxRecDepth 100000
set_option maxHeartbeats 4000000
namespace Z9
open PySem PySem.Spec
theorem evS_par (G : Gam) (r : Z9.Env) (h : Hh) (i j : Nat) (es : Exs) : evS G (.par i j es) r h = (evEs G es r h).bs r fun p => parD i j r p.2 p.1 := by simp only [evS]
/-! the law's search for the least content -/
noncomputable def hit (f a : List Nat) (size long : Nat) : Bool := decide ((List.range 60).map (wdS (cutF (wd f a) long size) (cutA (wd f a) long size)) = (List.range 60).map (wdS f a))
theorem hit_look {f a : List Nat} {size long : Nat} (h : a ≠ []) (s : 0 < size) : hit f a size long = true ↔ look (wd f a) size long := by
  unfold hit look
  rw [decide_eq_true_iff, first_eq]
  have hc : cutA (wd f a) long size ≠ [] := fun z => by
    have := cutW_len (w := wd f a) (long := long) (size := size)
    rw [z] at this
    simp at this
    omega
  constructor
  · intro x i hi
    have := x i hi
    rw [wdS_wd hc, wdS_wd h] at this
    exact (List.cons.inj this).1
  · intro x i hi
    rw [wdS_wd hc, wdS_wd h, x i hi]
def llBody : Sms := .cons (.set 4 (.bmeth .join (.con (.str [])) (.cons (.call 14 (.cons (.var 0) (.cons (.bin .Add (.var 3) (.var 2)) .nil))) .nil))) (.cons (.set 5 (.tup (.cons (.sl (.var 4) .none (.some (.var 3))) (.cons (.sl (.var 4) (.some (.var 3)) .none) .nil)))) (.cons (.iff (.cmp .Eq (.call 14 (.cons (.var 5) (.cons (.con (.int 60)) .nil))) (.call 14 (.cons (.var 0) (.cons (.con (.int 60)) .nil)))) (.cons (.ret (.var 5)) .nil) .nil) .nil))
theorem first60 {f a : List Nat} (h : Hh) : g_law_first [tupC (f, a), .int 60] h = .ok (.lst (((List.range 60).map (wdS f a)).map D.str), h) := first_walk (n := 60) (by omega) h
theorem ll_turn {f a : List Nat} {size long : Nat} {l : D} (ha : a ≠ []) (hb : long + size ≤ 500) {x4 x5 : Option D} : evSs G_law_least llBody [some (tupC (f, a)), some l, some (.int size), some (.int long), x4, x5] [] =
    if hit f a size long = true then .ok (.rt (tupC (cutF (wd f a) long size, cutA (wd f a) long size)) []) else .ok (.nx [some (tupC (f, a)), some l, some (.int size), some (.int long), some (.str (firstN (wd f a) (long + size))), some (tupC (cutF (wd f a) long size, cutA (wd f a) long size))] []) := by
  have e1 := first_walk (f := f) (a := a) (n := long + size) (by omega) []
  have e2 : ((List.range (long + size)).map (wdS f a)).map D.str = (firstN (wd f a) (long + size)).map fun c => .str [c] := by
    rw [firstN, List.map_map, List.map_map]
    refine List.map_congr_left fun i _ => ?_
    show D.str (wdS f a i) = _
    rw [wdS_wd ha]
    rfl
  have hl : (firstN (wd f a) (long + size)).length = long + size := by rw [firstN, List.length_map, List.length_range]
  have e3 : evE G_law_least (.bmeth .join (.con (.str [])) (.cons (.call 14 (.cons (.var 0) (.cons (.bin .Add (.var 3) (.var 2)) .nil))) .nil)) [some (tupC (f, a)), some l, some (.int size), some (.int long), x4, x5] [] = .ok (.str (firstN (wd f a) (long + size)), []) := by
    have ec : (long : Int) + size = ((long + size : Nat) : Int) := by omega
    have b1 : binD .Add (.int (long : Int)) (.int (size : Int)) = .ok (.int ((long + size : Nat) : Int)) := by rw [bin_add, ec]
    have ev : evE G_law_least (.call 14 (.cons (.var 0) (.cons (.bin .Add (.var 3) (.var 2)) .nil))) [some (tupC (f, a)), some l, some (.int size), some (.int long), x4, x5] [] = .ok (.lst ((firstN (wd f a) (long + size)).map fun c => .str [c]), []) := by
      rw [← e2]
      exact (dcall rfl (ds2 (dvr rfl) (dbin (dvr rfl) (dvr rfl) b1)) rfl).trans e1
    have hl2 : (firstN (wd f a) (long + size)).length ≤ 16777216 := by rw [hl]; exact Nat.le_trans hb (by decide)
    exact dbm (dcn _) rfl (ds1 ev) (join_chars hl2)
  have e4 : ∀ {x5 : Option D}, evE G_law_least (.tup (.cons (.sl (.var 4) .none (.some (.var 3))) (.cons (.sl (.var 4) (.some (.var 3)) .none) .nil))) [some (tupC (f, a)), some l, some (.int size), some (.int long), some (.str (firstN (wd f a) (long + size))), x5] [] = .ok (tupC (cutF (wd f a) long size, cutA (wd f a) long size), []) := by
    intro x5
    have s1 : slD [] (.str (firstN (wd f a) (long + size))) none (some (long : Int)) = .ok (.str (cutF (wd f a) long size)) := by
      show Res.ok (D.str (cutD _ none (some (long : Int)))) = _
      rw [cut_to (by omega), Int.toNat_natCast]
      rfl
    have s2 : slD [] (.str (firstN (wd f a) (long + size))) (some (long : Int)) none = .ok (.str (cutA (wd f a) long size)) := by
      show Res.ok (D.str (cutD _ (some (long : Int)) none)) = _
      rw [cut_from (by omega), Int.toNat_natCast]
      rfl
    exact dtup (ds2 (dsl (dvr rfl) don (dos (dvr rfl)) s1) (dsl (dvr rfl) (dos (dvr rfl)) don s2)) (by simp)
  have e5 := first60 (f := cutF (wd f a) long size) (a := cutA (wd f a) long size) []
  have e6 := first60 (f := f) (a := a) []
  have e7 : evE G_law_least (.cmp .Eq (.call 14 (.cons (.var 5) (.cons (.con (.int 60)) .nil))) (.call 14 (.cons (.var 0) (.cons (.con (.int 60)) .nil)))) [some (tupC (f, a)), some l, some (.int size), some (.int long), some (.str (firstN (wd f a) (long + size))), some (tupC (cutF (wd f a) long size, cutA (wd f a) long size))] [] = .ok (.bl (hit f a size long), []) :=
    dcmp ((dcall rfl (ds2 (dvr rfl) (dcn _)) rfl).trans e5) ((dcall rfl (ds2 (dvr rfl) (dcn _)) rfl).trans e6) (strs_eq _ _)
  cases hh : hit f a size long with
  | true =>
    rw [hh] at e7
    rw [if_pos rfl]
    exact qnx (sset e3) (qnx (sset e4) (qrt (sit e7 (qrt (sret (dvr rfl))))))
  | false =>
    rw [hh] at e7
    rw [if_neg Bool.false_ne_true]
    exact qnx (sset e3) (qnx (sset e4) (qnx (sif0 e7) qn))
theorem find_range' {P : Nat → Bool} : ∀ {n s p : Nat}, s ≤ p → p < s + n → P p = true → (∀ q, s ≤ q → q < p → P q = false) → (List.range' s n).find? P = some p
  | 0, s, p, h1, h2, _, _ => by omega
  | n + 1, s, p, h1, h2, h3, h4 => by
    rw [List.range'_succ, List.find?_cons]
    by_cases z : s = p
    · rw [z, h3]
    · rw [h4 s (Nat.le_refl _) (by omega)]
      exact find_range' (by omega) (by omega) h3 fun q a b => h4 q (by omega) b
def shp (f a : List Nat) (l : D) (s : Option D) (r : Z9.Env) : Prop := ∃ x3 x4 x5, r = [some (tupC (f, a)), some l, s, x3, x4, x5]
theorem ll_in {f a : List Nat} {size n : Nat} {l : D} (ha : a ≠ []) (hb : n + size ≤ 500) {r : Z9.Env} (hr : shp f a l (some (.int size)) r) :
    (∀ m, (List.range n).find? (hit f a size) = some m → forD (fun x r1 h1 => (setT (.var 3) x r1).bs r1 fun r2 => evSs G_law_least llBody r2 h1) ((List.range n).map fun (i : Nat) => .int (i : Int)) r [] = .ok (.rt (tupC (cutF (wd f a) m size, cutA (wd f a) m size)) [])) ∧
    ((List.range n).find? (hit f a size) = none → ∃ r', forD (fun x r1 h1 => (setT (.var 3) x r1).bs r1 fun r2 => evSs G_law_least llBody r2 h1) ((List.range n).map fun (i : Nat) => .int (i : Int)) r [] = .ok (.nx r' []) ∧ shp f a l (some (.int size)) r') :=
  forD_seek (I := shp f a l (some (.int size))) (P := hit f a size) (V := fun m => tupC (cutF (wd f a) m size, cutA (wd f a) m size)) (fun q m r ⟨x3, x4, x5, er⟩ => by
    subst er
    rw [List.mem_range] at m
    have T := ll_turn (f := f) (a := a) (size := size) (long := q) (l := l) ha (by omega) (x4 := x4) (x5 := x5)
    constructor
    · intro z
      rw [if_pos z] at T
      exact T
    · intro z
      rw [if_neg (by rw [z]; exact Bool.false_ne_true)] at T
      exact ⟨_, T, _, _, _, rfl⟩) hr
noncomputable def hit2 (f a : List Nat) (size : Nat) : Bool := ((List.range (f.length + a.length + 1)).find? (hit f a size)).isSome
noncomputable def cut2 (f a : List Nat) (m : Nat) : D := match (List.range (f.length + a.length + 1)).find? (hit f a m) with
  | some l => tupC (cutF (wd f a) l m, cutA (wd f a) l m)
  | none => .non
def llFor : Sms := .cons (.forr (.var 3) (.range (.bin .Add (.bin .Add (.bcall .len (.cons (.ix (.var 0) (.con (.int 0))) .nil)) (.bcall .len (.cons (.ix (.var 0) (.con (.int 1))) .nil))) (.con (.int 1)))) llBody) .nil
theorem ll_range {f a : List Nat} {l : D} {x2 x3 x4 x5 : Option D} (hb : f.length + a.length ≤ 200) : evI G_law_least (.range (.bin .Add (.bin .Add (.bcall .len (.cons (.ix (.var 0) (.con (.int 0))) .nil)) (.bcall .len (.cons (.ix (.var 0) (.con (.int 1))) .nil))) (.con (.int 1)))) [some (tupC (f, a)), some l, x2, x3, x4, x5] [] = .ok ((List.range (f.length + a.length + 1)).map fun (i : Nat) => .int (i : Int), []) := by
  have l0 : evE G_law_least (.bcall .len (.cons (.ix (.var 0) (.con (.int 0))) .nil)) [some (tupC (f, a)), some l, x2, x3, x4, x5] [] = .ok (.int f.length, []) := dbc (ds1 (dix (dvr rfl) (dcn _) tup0)) rfl
  have l1 : evE G_law_least (.bcall .len (.cons (.ix (.var 0) (.con (.int 1))) .nil)) [some (tupC (f, a)), some l, x2, x3, x4, x5] [] = .ok (.int a.length, []) := dbc (ds1 (dix (dvr rfl) (dcn _) tup1)) rfl
  exact drange (n := f.length + a.length + 1) (dbin (dbin l0 l1 (bin_add _ _)) (dcn _) (bin_add _ _)) (by omega)
theorem ll_walk {f a : List Nat} {l : D} (hl : pureD l = true) (hf : f.length ≤ 11) (h10 : a.length ≤ 10) (h : Hh) : g_law_least [tupC (f, a), l] h = .ok (tupC (shortest f a), h) := pureF_ok (h' := []) (by simp [pureDs, hl]; rfl) (by
  show runD G_law_least 6 ir_law_least [tupC (f, a), l] [] = _
  rw [runD_eq]
  show endD (evSs G_law_least (.cons (.iff (.cmp .Eq (.ix (.var 0) (.con (.int 1))) (.con (.str []))) (.cons (.ret (.var 0)) .nil) .nil) (.cons (.forr (.var 2) (.range2 (.con (.int 1)) (.bin .Add (.bcall .len (.cons (.ix (.var 0) (.con (.int 1))) .nil)) (.con (.int 1)))) llFor) (.cons (.ret (.var 0)) .nil))) [some (tupC (f, a)), some l, none, none, none, none] []) = _
  have e1 : evE G_law_least (.cmp .Eq (.ix (.var 0) (.con (.int 1))) (.con (.str []))) [some (tupC (f, a)), some l, none, none, none, none] [] = .ok (.bl (decide (a = [])), []) := by
    exact dcmp (dix (dvr rfl) (dcn _) tup1) (dcn _) (str_eq _ _)
  rw [evSs_c, evS_iff, e1, Res.bs_ok, boolD_bl, Res.bs_ok]
  by_cases ha : a = []
  · rw [decide_eq_true ha, if_pos rfl, evSs_c, evS_ret, ev_var, getV_z, Res.bind_ok, Res.bs_ok, Res.bind_ok, thenS_rt, Res.bind_ok, thenS_rt, endD_rt, ha, shortest_nil]
  · have ha0 : 0 < a.length := Nat.pos_of_ne_zero fun z => ha (List.eq_nil_of_length_eq_zero z)
    rw [decide_eq_false ha, if_neg Bool.false_ne_true, evSs_n, Res.bind_ok, thenS_nx, evSs_c, evS_for]
    have hk : evE G_law_least (.bin .Add (.bcall .len (.cons (.ix (.var 0) (.con (.int 1))) .nil)) (.con (.int 1))) [some (tupC (f, a)), some l, none, none, none, none] [] = .ok (.int ((a.length + 1 : Nat) : Int), []) := by
      exact dbin (dbc (ds1 (dix (dvr rfl) (dcn _) tup1)) rfl) (dcn _) (bin_add _ _)
    rw [range2D _ _ _ _ hk (by omega), Res.bs_ok]
    obtain ⟨_, c, cl, cp⟩ := shortest_ok (f := f) ha
    have rp := rootLen_pos ha
    have S := forD_seek (G := G_law_least) (h := []) (i := 2) (b := llFor) (I := fun r => ∃ s, shp f a l s r) (P := hit2 f a) (V := cut2 f a)
      (ns := List.range' 1 (a.length + 1 - 1)) (r := [some (tupC (f, a)), some l, none, none, none, none]) (fun q hq r ⟨s, x3, x4, x5, er⟩ => by
        subst er
        rw [List.mem_range'_1] at hq
        have T := ll_in (f := f) (a := a) (size := q) (n := f.length + a.length + 1) (l := l) (r := [some (tupC (f, a)), some l, some (.int q), x3, x4, x5]) ha (by omega) ⟨_, _, _, rfl⟩
        have R := ll_range (f := f) (a := a) (l := l) (x2 := some (.int q)) (x3 := x3) (x4 := x4) (x5 := x5) (by omega)
        have F : ∀ o, forD (fun x r1 h1 => (setT (.var 3) x r1).bs r1 fun r2 => evSs G_law_least llBody r2 h1) ((List.range (f.length + a.length + 1)).map fun (i : Nat) => .int (i : Int)) [some (tupC (f, a)), some l, some (.int q), x3, x4, x5] [] = .ok o → evS G_law_least (.forr (.var 3) (.range (.bin .Add (.bin .Add (.bcall .len (.cons (.ix (.var 0) (.con (.int 0))) .nil)) (.bcall .len (.cons (.ix (.var 0) (.con (.int 1))) .nil))) (.con (.int 1)))) llBody) [some (tupC (f, a)), some l, some (.int q), x3, x4, x5] [] = .ok o := fun o eo => by
          rw [evS_for, R, Res.bs_ok]
          exact eo
        unfold hit2 cut2
        cases hf : (List.range (f.length + a.length + 1)).find? (hit f a q) with
        | some m => exact ⟨fun _ => qrt (F _ (T.1 m hf)), fun z => by cases z⟩
        | none =>
          obtain ⟨r', e2, i2⟩ := T.2 hf
          exact ⟨(fun z => by cases z), fun _ => ⟨r', qnx (F _ e2) qn, _, i2⟩⟩) ⟨_, _, _, _, rfl⟩
    have hin : (List.range (f.length + a.length + 1)).find? (hit f a (shortest f a).2.length) = some (shortest f a).1.length := by
      rw [List.range_eq_range']
      refine find_range' (by omega) (by omega) ((hit_look ha c.pos).mpr (look_right c)) fun q _ hq => ?_
      cases e : hit f a (shortest f a).2.length q with
      | false => rfl
      | true => exact absurd ((hit_look ha c.pos).mp e) (look_short c hq (by omega))
    have hout : (List.range' 1 (a.length + 1 - 1)).find? (hit2 f a) = some (shortest f a).2.length := by
      refine find_range' c.pos (by omega) (by rw [hit2, hin]; rfl) fun q h1 h2 => ?_
      unfold hit2
      have : (List.range (f.length + a.length + 1)).find? (hit f a q) = none := by
        rw [List.find?_eq_none]
        intro m mm e
        rw [List.mem_range] at mm
        exact look_small c (by omega) h2 (by omega) ((hit_look ha (by omega)).mp e)
      rw [this]
      rfl
    have S1 := S.1 _ hout
    have hc : cut2 f a (shortest f a).2.length = tupC (shortest f a) := by
      unfold cut2
      rw [hin]
      show tupC (_, _) = _
      rw [cutW_right ha]
    rw [hc] at S1
    rw [S1, Res.bind_ok, thenS_rt, endD_rt]) rfl
end Z9

set_option Elab.async false
set_option linter.all false
set_option maxRecDepth 100000
set_option maxHeartbeats 4000000
namespace Z9
open PySem PySem.Spec
/-! the same word, written otherwise -/
theorem wd_fwd {f t : List Nat} {x : Nat} (i : Nat) : wd (f ++ [x]) (t ++ [x]) i = wd f (x :: t) i := by
  have h := wd_back (f := f ++ [x]) (a := t ++ [x]) (by simp) (by simp) (by simp) i
  have e1 : (f ++ [x]).take ((f ++ [x]).length - 1) = f := by simp
  have e2 : rot (t ++ [x]) = x :: t := by unfold rot; simp
  rw [e1, e2] at h
  exact h.symm
theorem wd_rot {f a : List Nat} : ∀ j, j ≤ a.length → ∀ i, wd (f ++ a.take j) (a.drop j ++ a.take j) i = wd f a i
  | 0, _, i => by simp
  | j + 1, hj, i => by
    have h := wd_rot (f := f) (a := a) j (by omega) i
    have e : a.drop j = a[j] :: a.drop (j + 1) := List.drop_eq_getElem_cons (by omega)
    have e2 : a.take (j + 1) = a.take j ++ [a[j]] := by rw [List.take_succ, List.getElem?_eq_getElem (by omega)]; rfl
    rw [e, List.cons_append] at h
    rw [← h, ← wd_fwd, e2, List.append_assoc, List.append_assoc]
theorem wd_rep {f a : List Nat} (n : Nat) (i : Nat) : wd f (List.replicate (n + 1) a).flatten i = wd f a i := by
  unfold wd
  split
  · rfl
  · by_cases ha : a.length = 0
    · have : a = [] := List.eq_nil_of_length_eq_zero ha
      rw [this]
      have : (List.replicate (n + 1) ([] : List Nat)).flatten = [] := by simp
      rw [this]
    · have hp : 0 < (n + 1) * a.length := Nat.mul_pos (by omega) (by omega)
      rw [flatLen, List.getD_eq_getElem?_getD, flatRep _ _ _ (Nat.mod_lt _ hp), ← List.getD_eq_getElem?_getD, Nat.mod_mod_of_dvd _ (Nat.dvd_mul_left _ _)]
theorem mem_rep {a : List Nat} {n c : Nat} (m : c ∈ (List.replicate n a).flatten) : c ∈ a := by
  rw [List.mem_flatten] at m
  obtain ⟨l, m1, m2⟩ := m
  rw [List.eq_of_mem_replicate m1] at m2
  exact m2
theorem forD_cnt {f : D → Z9.Env → Hh → Res Out} {I : Nat → Z9.Env → Hh → Prop} {K : Nat} : ∀ {xs : List D} {r : Z9.Env} {h : Hh} {j : Nat}, j + xs.length ≤ K → (∀ x ∈ xs, ∀ j r h, j < K → I j r h → ∃ r' h', f x r h = .ok (.nx r' h') ∧ I (j + 1) r' h') → I j r h → ∃ r' h', forD f xs r h = .ok (.nx r' h') ∧ I (j + xs.length) r' h'
  | [], r, h, _, _, _, hi => ⟨r, h, rfl, hi⟩
  | x :: xs, r, h, j, hK, hf, hi => by
    rw [List.length_cons] at hK
    obtain ⟨r', h', e, i'⟩ := hf x List.mem_cons_self j r h (by omega) hi
    obtain ⟨r2, h2, e2, i2⟩ := forD_cnt (by omega) (fun x m => hf x (List.mem_cons_of_mem _ m)) i'
    refine ⟨r2, h2, by simp only [forD, e, e2], ?_⟩
    rw [List.length_cons, show j + (xs.length + 1) = j + 1 + xs.length by omega]
    exact i2
def wrBody : Sms := .cons (.par 4 2 (.cons (.bin .Add (.var 4) (.ix (.var 2) (.con (.int 0)))) (.cons (.bin .Add (.sl (.var 2) (.some (.con (.int 1))) .none) (.ix (.var 2) (.con (.int 0)))) .nil))) .nil
theorem wr_turn {f t : List Nat} {x : Nat} {c : D} {y : Option D} {h : Hh} (hf : f.length ≤ 1000) (ht : t.length ≤ 1000) : evSs G_law_written wrBody [some (.ref 1), some c, some (.str (x :: t)), y, some (.str f)] h = .ok (.nx [some (.ref 1), some c, some (.str (t ++ [x])), y, some (.str (f ++ [x]))] h) := by
  have i0 : ixD h (.str (x :: t)) (.int 0) = .ok (.str [x]) := by
    show ofO ((atD (x :: t) 0).map _) = _
    rw [atD_in (by omega) (by rw [List.length_cons]; omega)]
    rfl
  have s1 : slD h (.str (x :: t)) (some 1) none = .ok (.str t) := by
    show Res.ok (D.str (cutD (x :: t) (some 1) none)) = _
    rw [cut_from (by omega)]
    rfl
  have a1 : binD .Add (.str f) (.str [x]) = .ok (.str (f ++ [x])) := addStr (by simp; omega)
  have a2 : binD .Add (.str t) (.str [x]) = .ok (.str (t ++ [x])) := addStr (by simp; omega)
  unfold wrBody
  simp only [evSs_c, evS_par, evEs_c, ev_bin, ev_var, ev_ix, ev_con, ev_sl, evO_con, evO_n, getV_s, getV_z, Res.bind_ok, i0, s1, a1, a2, evEs_n, Res.bs_ok, parD, List.set, thenS_nx, evSs_n]
theorem abc_app {n : Nat} {s t : List Nat} (a : abc n s) (b : abc n t) : abc n (s ++ t) := fun c m => (List.mem_append.mp m).elim (a c) (b c)
theorem wr_walk {f a : List Nat} {h : Hh} (p : PotOk h []) (hf : f.length ≤ 20) (h10 : a.length ≤ 20) (af : abc 3 f) (aa : abc 3 a) :
    ∃ f2 a2 h', g_law_written [.ref 1, tupC (f, a)] h = .ok (tupC (f2, a2), h') ∧ PotOk h' [] ∧ f2.length ≤ 1000 ∧ a2.length ≤ 1000 ∧ abc 3 f2 ∧ abc 3 a2 ∧ shortest f2 a2 = shortest f a := by
  show ∃ f2 a2 h', runD G_law_written 5 ir_law_written [.ref 1, tupC (f, a)] h = .ok (tupC (f2, a2), h') ∧ _
  rw [runD_eq]
  have key : ∃ f2 a2 h', evSs G_law_written ir_law_written [some (.ref 1), some (tupC (f, a)), none, none, none] h = .ok (.rt (tupC (f2, a2)) h') ∧ PotOk h' [] ∧ f2.length ≤ 1000 ∧ a2.length ≤ 1000 ∧ abc 3 f2 ∧ abc 3 a2 ∧ shortest f2 a2 = shortest f a := by
    unfold ir_law_written
    have c1 : evS G_law_written (.asg (.tup (.cons (.var 4) (.cons (.var 2) .nil))) (.var 1)) [some (.ref 1), some (tupC (f, a)), none, none, none] h = .ok (.nx [some (.ref 1), some (tupC (f, a)), some (.str a), none, some (.str f)] h) := by
      simp only [evS_asg, ev_var, getV_s, getV_z, Res.bind_ok, Res.bs_ok, tupC, setT_t, setTs_c, setT_v, List.set, setTs_n]
    rw [evSs_c, c1, Res.bind_ok, thenS_nx, evSs_c]
    by_cases ha : a = []
    · refine ⟨f, a, h, ?_, p, by omega, by omega, af, aa, rfl⟩
      simp [ha]
    · obtain ⟨x, t, rfl⟩ := List.exists_cons_of_ne_nil ha
      have c2 : evS G_law_written (.iff (.cmp .Eq (.var 2) (.con (.str []))) (.cons (.ret (.var 1)) .nil) .nil) [some (.ref 1), some (tupC (f, x :: t)), some (.str (x :: t)), none, some (.str f)] h = .ok (.nx [some (.ref 1), some (tupC (f, x :: t)), some (.str (x :: t)), none, some (.str f)] h) := by simp
      rw [c2, Res.bind_ok, thenS_nx, evSs_c]
      obtain ⟨k1, h1, d1, k10, k11, p1⟩ := g_draw p (m := 3) (by omega) (by omega)
      obtain ⟨k2, h2, d2, k20, k21, p2⟩ := g_draw p1 (m := 5) (by omega) (by omega)
      obtain ⟨k, rfl⟩ := Int.eq_ofNat_of_zero_le k10
      obtain ⟨n, rfl⟩ := Int.eq_ofNat_of_zero_le k20
      have hk : k < 3 := by omega
      have hn : n < 5 := by omega
      simp only [List.length_cons] at h10
      have hlen : (List.replicate (k + 1) (x :: t)).flatten.length ≤ 100 := by
        rw [flatLen]
        have : (k + 1) * (x :: t).length ≤ 3 * (x :: t).length := Nat.mul_le_mul_right _ (by omega)
        simp only [List.length_cons] at this ⊢
        omega
      have m1 : binD .Mult (.str (x :: t)) (.int ((k + 1 : Nat) : Int)) = .ok (.str (List.replicate (k + 1) (x :: t)).flatten) := mulStr (by omega) (by
        simp only [List.length_cons]
        have : (t.length + 1) * (k + 1) ≤ 20 * 3 := Nat.mul_le_mul (by omega) (by omega)
        omega)
      have ec : (1 : Int) + (k : Int) = ((k + 1 : Nat) : Int) := by omega
      have c3 : evS G_law_written (.set 2 (.bin .Mult (.var 2) (.bin .Add (.con (.int 1)) (.call 11 (.cons (.var 0) (.cons (.con (.int 3)) .nil)))))) [some (.ref 1), some (tupC (f, x :: t)), some (.str (x :: t)), none, some (.str f)] h = .ok (.nx [some (.ref 1), some (tupC (f, x :: t)), some (.str (List.replicate (k + 1) (x :: t)).flatten), none, some (.str f)] h1) := by
        have v : evE G_law_written (.call 11 (.cons (.var 0) (.cons (.con (.int 3)) .nil))) [some (.ref 1), some (tupC (f, x :: t)), some (.str (x :: t)), none, some (.str f)] h = .ok (.int (k : Int), h1) := by
          simp [d1]
        rw [evS_set, ev_bin, ev_var, getV_s, getV_s, getV_z, Res.bind_ok, Res.bind_ok, ev_bin, ev_con, Res.bind_ok, v, Res.bind_ok, bin_add, ec, Res.bind_ok, Res.bind_ok, m1, Res.bind_ok, Res.bs_ok]
        rfl
      rw [c3, Res.bind_ok, thenS_nx, evSs_c]
      have hw := fun i => wd_rep (f := f) (a := x :: t) k i
      have hab : abc 3 (List.replicate (k + 1) (x :: t)).flatten := fun c m => aa c (mem_rep m)
      obtain ⟨y, u, eyu⟩ : ∃ y u, (List.replicate (k + 1) (x :: t)).flatten = y :: u := by
        rw [List.replicate_succ, List.flatten_cons, List.cons_append]
        exact ⟨_, _, rfl⟩
      rw [eyu] at hw hab hlen ⊢
      have v2 : evE G_law_written (.call 11 (.cons (.var 0) (.cons (.con (.int 5)) .nil))) [some (.ref 1), some (tupC (f, x :: t)), some (.str (y :: u)), none, some (.str f)] h1 = .ok (.int (n : Int), h2) := by
        simp [d2]
      obtain ⟨r', h', e2, f2, z, w, y3, er, p3, l1, l2, b1, b2, w1⟩ := forD_cnt (f := fun x r1 h1 => (setT (.var 3) x r1).bs r1 fun r2 => evSs G_law_written wrBody r2 h1) (xs := (List.range n).map fun (i : Nat) => .int (i : Int)) (j := 0) (K := n)
        (I := fun j r h => ∃ f2 z w y3, r = [some (.ref 1), some (tupC (f, x :: t)), some (.str (z :: w)), y3, some (.str f2)] ∧ PotOk h [] ∧ f2.length = f.length + j ∧ w.length = u.length ∧ abc 3 f2 ∧ abc 3 (z :: w) ∧ ∀ i, wd f2 (z :: w) i = wd f (x :: t) i) (r := [some (.ref 1), some (tupC (f, x :: t)), some (.str (y :: u)), none, some (.str f)]) (h := h2) (by simp) (by
          rintro v m j r h hj ⟨f2, z, w, y3, rfl, p3, l1, l2, b1, b2, w1⟩
          obtain ⟨i, hi, rfl⟩ := List.mem_map.mp m
          have T := wr_turn (f := f2) (t := w) (x := z) (c := tupC (f, x :: t)) (y := some (.int i)) (h := h) (by omega) (by rw [l2]; simp only [List.length_cons] at hlen; omega)
          have az : abc 3 [z] := fun c mc => b2 c (by rw [List.mem_singleton.mp mc]; exact List.mem_cons_self)
          have aw : abc 3 w := fun c mc => b2 c (List.mem_cons_of_mem _ mc)
          obtain ⟨z2, w2, e3⟩ : ∃ z2 w2, w ++ [z] = z2 :: w2 := by
            cases w with
            | nil => exact ⟨_, _, rfl⟩
            | cons z2 w2 => exact ⟨_, _, rfl⟩
          have l3 : w2.length = w.length := by
            have := congrArg List.length e3
            simp at this
            omega
          refine ⟨_, _, by simp only [setT_v, Res.bs_ok, List.set]; exact T, f2 ++ [z], z2, w2, some (.int i), by rw [e3], p3, by rw [List.length_append, l1]; rfl, by omega, abc_app b1 az, by rw [← e3]; exact abc_app aw az, fun i => by rw [← e3, wd_fwd, w1]⟩) ⟨f, y, u, none, rfl, p2, rfl, rfl, af, hab, hw⟩
      have er2 : evI G_law_written (.range (.call 11 (.cons (.var 0) (.cons (.con (.int 5)) .nil)))) [some (.ref 1), some (tupC (f, x :: t)), some (.str (y :: u)), none, some (.str f)] h1 = .ok ((List.range n).map fun (i : Nat) => .int (i : Int), h2) := by
        rw [evI_rng, v2, Res.bind_ok, rangeD_n (by omega) (by omega), Int.toNat_natCast]
      refine ⟨f2, z :: w, h', ?_, p3, ?_, ?_, b1, b2, shortest_eq (by simp) (by simp) w1⟩
      · rw [evS_for, er2, Res.bs_ok]
        show (forD (fun x r1 h1 => (setT (.var 3) x r1).bs r1 fun r2 => evSs G_law_written wrBody r2 h1) _ _ _).bind _ = _
        rw [e2, er]
        simp only [Res.bind_ok, thenS_nx, evSs_c, evS_ret, ev_tup, evEs_c, ev_var, getV_z, getV_s, evEs_n, Res.bs_ok]
        rfl
      · simp only [List.length_map, List.length_range] at l1
        omega
      · simp only [List.length_cons] at hlen ⊢
        omega
  obtain ⟨f2, a2, h', e, k⟩ := key
  refine ⟨f2, a2, h', ?_, k⟩
  simp only [List.map_cons, List.map_nil, List.cons_append, List.nil_append, List.length_cons, List.length_nil, List.replicate]
  rw [e, endD_rt]
end Z9

set_option Elab.async false
set_option linter.all false
set_option maxRecDepth 100000
set_option maxHeartbeats 4000000
namespace Z9
open PySem PySem.Spec
theorem g_string2 {h : Hh} {m : Int} (p : PotOk h []) (m0 : 0 ≤ m) (m1 : m ≤ 1000) : ∃ s h', g_law_string [.ref 1, .int 2, .int m] h = .ok (.str s, h') ∧ (s.length : Int) ≤ m ∧ abc 2 s ∧ PotOk h' [] := by
  obtain ⟨k, h1, e1, k0, k1, p1⟩ := g_draw p (m := m + 1) (by omega) (by omega)
  generalize hf : (fun x h1 => (setT (.var 3) x (wipeE [some (D.ref 1), some (.int 2), some (.int m), none] [3])).bind fun r1 => (evTs G_law_string .nil r1 h1).bind fun b => if b.1 then (evE G_law_string (.ix (.con (.str [97, 98, 99])) (.call 11 (.cons (.var 0) (.cons (.var 1) .nil)))) r1 b.2).bind fun y => .ok (some y.1, y.2) else .ok (none, b.2) : D → Hh → Res (Option D × Hh)) = f
  obtain ⟨ys, h2, e2, p2, l2, q2⟩ := lcD_inv (f := f) (I := fun h => PotOk h []) (Q := fun y => ∃ c, y = (fun c => D.str [c]) c ∧ (97 ≤ c ∧ c < 97 + 2)) (xs := (List.range k.toNat).map fun (i : Nat) => .int (i : Int)) (acc := []) (fun x m h ph => by
    subst hf
    obtain ⟨j, h', e, j0, j1, p'⟩ := g_draw ph (m := 2) (by omega) (by omega)
    rcases (by omega : j = 0 ∨ j = 1) with rfl | rfl
    · exact ⟨.str [97], h', by simp [e, ixD, lookD, atD_in], p', 97, rfl, by omega⟩
    · exact ⟨.str [98], h', by simp [e, ixD, lookD, atD_in], p', 98, rfl, by omega⟩) p1 (by simp; omega) (fun _ m => by cases m)
  obtain ⟨cs, rfl, qc⟩ := all_ex q2
  simp at l2
  refine ⟨cs, h2, ?_, by omega, qc, p2⟩
  show runD G_law_string 4 ir_law_string _ _ = _
  rw [runD_eq]
  unfold ir_law_string
  have er : evE G_law_string (.call 11 (.cons (.var 0) (.cons (.bin .Add (.var 2) (.con (.int 1))) .nil))) [some (D.ref 1), some (.int 2), some (.int m), none] h = .ok (.int k, h1) := by simp [bin_add, e1]
  have ej := join_chars (cs := cs) (h := h2) (by omega)
  simp only [List.map_cons, List.map_nil, List.cons_append, List.nil_append, List.length_cons, List.length_nil, List.replicate, evSs_c, evS_ret, ev_bmeth, ev_con, Res.bind_ok, recvD, if_true, evEs_c, ev_lc, evI_rng, er, rangeD_n k0 (by omega : k < 1099511627776)]
  rw [hf, e2]
  simp only [Res.bind_ok, Bool.false_eq_true, if_false, evEs_n]
  rw [ej]
  rfl

theorem abc_up {s : List Nat} (a : abc 2 s) : abc 3 s := fun c m => by have := a c m; omega
theorem root_last {a : List Nat} (h : a ≠ []) : 0 < (root a).length ∧ (root a).getD ((root a).length - 1) 0 = a.getD (a.length - 1) 0 := by
  have ha : 0 < a.length := Nat.pos_of_ne_zero fun z => h (List.eq_nil_of_length_eq_zero z)
  have hr := rootLen_pos h
  have hl := root_len h
  refine ⟨by omega, ?_⟩
  obtain ⟨hd, hp⟩ := isRoot_per hr.1 hr.2.2.1 hr.2.1
  have e := hp (a.length - 1) (by omega)
  rw [e, hl]
  show (a.take (rootLen a)).getD _ 0 = _
  congr 1
  obtain ⟨q, hq⟩ := Nat.dvd_of_mod_eq_zero hd
  cases q with
  | zero => omega
  | succ q =>
    have : a.length - 1 = rootLen a - 1 + rootLen a * q := by rw [hq, Nat.mul_succ]; omega
    rw [this, Nat.add_mul_mod_self_left, Nat.mod_eq_of_lt (by omega)]
theorem shortest_far {g s : List Nat} : shortest (g ++ [99]) (s ++ [98]) = (g ++ [99], root (s ++ [98])) := by
  have hr := root_last (a := s ++ [98]) (by simp)
  unfold shortest
  have : (g ++ [99]).length = g.length + 1 := by simp
  rw [this]
  unfold back
  rw [if_neg]
  rintro ⟨_, _, e⟩
  rw [hr.2] at e
  simp at e
theorem shortest_none {a : List Nat} : shortest [] a = ([], root a) := rfl
theorem shortest_idem {f a : List Nat} : shortest (shortest f a).1 (shortest f a).2 = shortest f a := by
  by_cases h : a = []
  · rw [h, shortest_nil, shortest_nil]
  · obtain ⟨e, c, _, _⟩ := shortest_ok (f := f) h
    exact shortest_eq (fun z => by have := c.pos; rw [z] at this; simp at this) h e
theorem other_word {o0 o1 : List Nat} (ho1 : o1 ≠ []) (ao2 : abc 2 o1) : ¬ shortest o0 o1 = shortest (o0 ++ [99]) o1 := fun z => by
  have hl3 : 0 < o1.length := Nat.pos_of_ne_zero fun z => ho1 (List.eq_nil_of_length_eq_zero z)
  have := shortest_inj ho1 ho1 z o0.length
  unfold wd at this
  rw [if_neg (by omega), if_pos (by simp), Nat.sub_self, Nat.zero_mod] at this
  have e : (o0 ++ [99]).getD o0.length 0 = 99 := by simp
  rw [e] at this
  have ho3 : o1[0]'hl3 ∈ o1 := List.getElem_mem _
  have h2 := ao2 _ ho3
  rw [List.getD_eq_getElem?_getD, List.getElem?_eq_getElem hl3, Option.getD_some] at this
  omega
theorem ended_word {o0 o1 : List Nat} (ho1 : o1 ≠ []) : ¬ shortest o0 o1 = (o0, []) := fun z => by
  obtain ⟨_, c, _, _⟩ := shortest_ok (f := o0) ho1
  have := c.pos
  rw [z] at this
  exact absurd this (Nat.lt_irrefl 0)
theorem long_walk {h : Hh} (p : PotOk h []) : ∃ h', g_law_long_right [.ref 1] h = .ok (.bl true, h') ∧ PotOk h' [] := by
  show ∃ h', runD G_law_long_right 7 ir_law_long_right [.ref 1] h = _ ∧ _
  rw [runD_eq]
  show (fun R : Res (D × Hh) => ∃ h', R = .ok (.bl true, h') ∧ PotOk h' []) (endD _)
  let C : Res Out → Prop := fun R => ∃ h', endD R = .ok (.bl true, h') ∧ PotOk h' []
  show C _
  unfold ir_law_long_right
  simp only [List.map_cons, List.map_nil, List.cons_append, List.nil_append, List.length_cons, List.length_nil, List.replicate]
  obtain ⟨s, h1, e1, l1, a1, p1⟩ := g_string2 p (m := 9) (by omega) (by omega)
  obtain ⟨k, h2, e2, k0, k1, p2⟩ := g_draw p1 (m := 5) (by omega) (by omega)
  obtain ⟨k, rfl⟩ := Int.eq_ofNat_of_zero_le k0
  have hs1 : (s ++ [98]).length = s.length + 1 := by simp
  have hs0 : s ++ [98] ≠ [] := by simp
  have hab : abc 3 (s ++ [98]) := abc_app (abc_up a1) (fun c m => by rw [List.mem_singleton.mp m]; omega)
  have hab2 : abc 2 (s ++ [98]) := abc_app a1 (fun c m => by rw [List.mem_singleton.mp m]; omega)
  have b1 : binD .Add (.str s) (.str [98]) = .ok (.str (s ++ [98])) := addStr (by simp; omega)
  have hfar := fun g => shortest_far (g := g) (s := s)
  generalize s ++ [98] = inner at *
  refine step (r1 := [some (.ref 1), none, none, none, none, some (.str inner), some (.int (1 + (k : Int)))]) (h1 := h2) (spar (ds2 (dbin ((dcall rfl (ds3 (dvr rfl) (dcn _) (dcn _)) rfl).trans e1) (dcn _) b1) (dbin (dcn _) ((dcall rfl (ds2 (dvr rfl) (dcn _)) rfl).trans e2) (bin_add _ _)))) ?_
  -- due
  obtain ⟨m, h3, e3, m0, m1, p3⟩ := g_draw p2 (m := 30) (by omega) (by omega)
  obtain ⟨m, rfl⟩ := Int.eq_ofNat_of_zero_le m0
  have b2 : binD .Mult (.str [97]) (.int (m : Int)) = .ok (.str (List.replicate m [97]).flatten) := mulStr (by omega) (by simp; omega)
  have hg : (List.replicate m [97]).flatten.length = m := by rw [flatLen]; simp
  have hga : abc 3 (List.replicate m [97]).flatten := fun c x => by
    have := mem_rep x
    rw [List.mem_singleton.mp this]
    omega
  generalize (List.replicate m [97]).flatten = g at *
  have b3 : binD .Add (.str g) (.str [99]) = .ok (.str (g ++ [99])) := addStr (by simp; omega)
  have hf0 : (g ++ [99]).length = m + 1 := by simp [hg]
  have af0 : abc 3 (g ++ [99]) := abc_app hga (fun c m => by rw [List.mem_singleton.mp m]; omega)
  have hfar := hfar g
  generalize g ++ [99] = f0 at *
  refine step (r1 := [some (.ref 1), some (tupC (f0, inner)), none, none, none, some (.str inner), some (.int (1 + (k : Int)))]) (h1 := h3) (sset (dtup (ds2 (dbin (dbin (dcn _) ((dcall rfl (ds2 (dvr rfl) (dcn _)) rfl).trans e3) b2) (dcn _) b3) (dvr rfl)) (by simp))) ?_
  -- other
  obtain ⟨j, h4, e4, j0, j1, p4⟩ := g_draw p3 (m := inner.length) (by omega) (by omega)
  obtain ⟨j, rfl⟩ := Int.eq_ofNat_of_zero_le j0
  have s1 : ∀ h, slD h (.str inner) none (some (j : Int)) = .ok (.str (inner.take j)) := fun h => by
    show Res.ok (D.str (cutD inner none (some (j : Int)))) = _
    rw [cut_to (by omega), Int.toNat_natCast]
  have s2 : ∀ h, slD h (.str inner) (some (j : Int)) none = .ok (.str (inner.drop j)) := fun h => by
    show Res.ok (D.str (cutD inner (some (j : Int)) none)) = _
    rw [cut_from (by omega), Int.toNat_natCast]
  have b4 : binD .Add (.str f0) (.str (inner.take j)) = .ok (.str (f0 ++ inner.take j)) := addStr (by rw [List.length_take]; omega)
  have ho : ((f0 ++ inner.take j).length : Int) - (f0.length : Int) = j := by
    rw [List.length_append, List.length_take]
    omega
  have ho2 : (f0 ++ inner.take j).length ≤ 50 := by
    rw [List.length_append, List.length_take]
    omega
  have ao : abc 3 (f0 ++ inner.take j) := abc_app af0 (fun c m => hab c (List.mem_of_mem_take m))
  have b5 : binD .Add (.str (inner.drop j)) (.str (inner.take j)) = .ok (.str (inner.drop j ++ inner.take j)) := addStr (by rw [List.length_drop, List.length_take]; omega)
  have hr1 : (inner.drop j ++ inner.take j).length = inner.length := by rw [List.length_append, List.length_drop, List.length_take]; omega
  have b6 : binD .Mult (.str (inner.drop j ++ inner.take j)) (.int (1 + (k : Int))) = .ok (.str (List.replicate (k + 1) (inner.drop j ++ inner.take j)).flatten) := by
    have hm : inner.length * (k + 1) ≤ 10 * 5 := Nat.mul_le_mul (by omega) (by omega)
    rw [show 1 + (k : Int) = ((k + 1 : Nat) : Int) by omega]
    exact mulStr (by omega) (by rw [hr1]; omega)
  have hwd : ∀ i, wd (f0 ++ inner.take j) (List.replicate (k + 1) (inner.drop j ++ inner.take j)).flatten i = wd f0 inner i := fun i => by
    rw [wd_rep, wd_rot j (by omega)]
  have hl2 : (List.replicate (k + 1) (inner.drop j ++ inner.take j)).flatten.length ≤ 50 := by
    have hm : (k + 1) * inner.length ≤ 5 * 10 := Nat.mul_le_mul (by omega) (by omega)
    rw [flatLen, hr1]
    omega
  have hl3 : 0 < (List.replicate (k + 1) (inner.drop j ++ inner.take j)).flatten.length := by
    rw [flatLen, hr1]
    exact Nat.mul_pos (by omega) (by omega)
  have ao2 : abc 2 (List.replicate (k + 1) (inner.drop j ++ inner.take j)).flatten := fun c x => by
    have := mem_rep x
    rcases List.mem_append.mp this with z | z
    · exact hab2 c (List.mem_of_mem_drop z)
    · exact hab2 c (List.mem_of_mem_take z)
  refine step (r1 := [some (.ref 1), some (tupC (f0, inner)), some (tupC (f0 ++ inner.take j, [])), none, none, some (.str inner), some (.int (1 + (k : Int)))]) (h1 := h4) (sset (dtup (ds2 (dbin (dix (dvr rfl) (dcn _) tup0) (dsl (dvr rfl) don (dos ((dcall rfl (ds2 (dvr rfl) (dbc (ds1 (dvr rfl)) rfl)) rfl).trans e4)) (s1 _)) b4) (dcn _)) (by simp))) ?_
  generalize f0 ++ inner.take j = o0 at *
  refine step (r1 := [some (.ref 1), some (tupC (f0, inner)), some (tupC (o0, [])), some (.int (j : Int)), none, some (.str inner), some (.int (1 + (k : Int)))]) (h1 := h4) (sset (dbin (dbc (ds1 (dix (dvr rfl) (dcn _) tup0)) rfl) (dbc (ds1 (dix (dvr rfl) (dcn _) tup0)) rfl) (by rw [bin_sub, ho]))) ?_
  refine step (r1 := [some (.ref 1), some (tupC (f0, inner)), some (tupC (o0, (List.replicate (k + 1) (inner.drop j ++ inner.take j)).flatten)), some (.int (j : Int)), none, some (.str inner), some (.int (1 + (k : Int)))]) (h1 := h4) (sset (dtup (ds2 (dix (dvr rfl) (dcn _) tup0) (dbin (dbin (dsl (dvr rfl) (dos (dvr rfl)) don (s2 _)) (dsl (dvr rfl) don (dos (dvr rfl)) (s1 _)) b5) (dvr rfl) b6)) (by simp))) ?_
  generalize (List.replicate (k + 1) (inner.drop j ++ inner.take j)).flatten = o1 at *
  have ho1 : o1 ≠ [] := fun z => by rw [z] at hl3; simp at hl3
  have hsh : shortest o0 o1 = shortest f0 inner := shortest_eq ho1 hs0 hwd
  -- least
  have w1 : ∀ (h : Hh), f0.length ≤ 11 → g_law_least [tupC (f0, inner), .int 3] h = .ok (tupC (shortest f0 inner), h) := fun h hb => ll_walk rfl hb (by omega) h
  have w2 : ∀ (h : Hh), g_law_least [tupC ([], inner), .int 3] h = .ok (tupC ([], root inner), h) := fun h => ll_walk rfl (by simp) (by omega) h
  have c6 : evE G_law_long_right (.ife (.cmp .Lt (.bcall .len (.cons (.ix (.var 1) (.con (.int 0))) .nil)) (.con (.int 12))) (.call 15 (.cons (.var 1) (.cons (.con (.int 3)) .nil))) (.bin .Add (.sl (.var 1) .none (.some (.con (.int 1)))) (.tup (.cons (.ix (.call 15 (.cons (.tup (.cons (.con (.str [])) (.cons (.var 5) .nil))) (.cons (.con (.int 3)) .nil))) (.con (.int 1))) .nil))))
      [some (.ref 1), some (tupC (f0, inner)), some (tupC (o0, o1)), some (.int (j : Int)), none, some (.str inner), some (.int (1 + (k : Int)))] h4 = .ok (tupC (shortest f0 inner), h4) := by
    have t1 : evE G_law_long_right (.cmp .Lt (.bcall .len (.cons (.ix (.var 1) (.con (.int 0))) .nil)) (.con (.int 12))) [some (.ref 1), some (tupC (f0, inner)), some (tupC (o0, o1)), some (.int (j : Int)), none, some (.str inner), some (.int (1 + (k : Int)))] h4 = .ok (.bl (decide ((f0.length : Int) < 12)), h4) :=
      dcmp (dbc (ds1 (dix (dvr rfl) (dcn _) tup0)) rfl) (dcn _) (int_lt _ _)
    by_cases z : (f0.length : Int) < 12
    · rw [decide_eq_true z] at t1
      exact dif_t t1 ((dcall rfl (ds2 (dvr rfl) (dcn _)) rfl).trans (w1 h4 (by omega)))
    · rw [decide_eq_false z] at t1
      have t2 : evE G_law_long_right (.sl (.var 1) .none (.some (.con (.int 1)))) [some (.ref 1), some (tupC (f0, inner)), some (tupC (o0, o1)), some (.int (j : Int)), none, some (.str inner), some (.int (1 + (k : Int)))] h4 = .ok (.tup [.str f0], h4) :=
        dsl (dvr rfl) don (dos (dcn _)) rfl
      have t3 : evE G_law_long_right (.call 15 (.cons (.tup (.cons (.con (.str [])) (.cons (.var 5) .nil))) (.cons (.con (.int 3)) .nil))) [some (.ref 1), some (tupC (f0, inner)), some (tupC (o0, o1)), some (.int (j : Int)), none, some (.str inner), some (.int (1 + (k : Int)))] h4 = .ok (tupC ([], root inner), h4) :=
        (dcall rfl (ds2 (dtup (ds2 (dcn _) (dvr rfl)) (by simp)) (dcn _)) rfl).trans (w2 h4)
      have t5 : binD .Add (.tup [.str f0]) (.tup [.str (root inner)]) = .ok (tupC (shortest f0 inner)) := by
        rw [hfar]
        rfl
      exact dif_f t1 (dbin t2 (dtup (ds1 (dix t3 (dcn _) tup1)) (by simp)) t5)
  refine step (r1 := [some (.ref 1), some (tupC (f0, inner)), some (tupC (o0, o1)), some (.int (j : Int)), some (tupC (shortest f0 inner)), some (.str inner), some (.int (1 + (k : Int)))]) (h1 := h4) (by
    rw [evS_set, c6, Res.bs_ok]
    rfl) ?_
  have sub := shortest_sub (f := f0) (a := inner)
  have v1 := fun h => least_walk (f := o0) (a := o1) (by omega) (by omega) ao (abc_up ao2) h
  have v2 := fun h => same_walk (f := o0) (a := o1) (f2 := (shortest f0 inner).1) (a2 := (shortest f0 inner).2) (by omega) (by omega) ao (abc_up ao2) (by omega) (by omega) (fun c m => af0 c (sub.2.2.1 c m)) (fun c m => hab c (sub.2.2.2 c m)) h
  have v3 := fun h => same_walk (f := o0) (a := o1) (f2 := o0 ++ [99]) (a2 := o1) (by omega) (by omega) ao (abc_up ao2) (by simp; omega) (by omega) (abc_app ao (fun c m => by rw [List.mem_singleton.mp m]; omega)) (abc_up ao2) h
  have v4 := fun h => same_walk (f := o0) (a := o1) (f2 := o0) (a2 := []) (by omega) (by omega) ao (abc_up ao2) (by omega) (by simp) ao (fun c m => by cases m) h
  rw [hsh] at v1 v2 v3 v4
  rw [shortest_idem, decide_eq_true rfl] at v2
  rw [decide_eq_false (by rw [← hsh]; exact other_word ho1 ao2)] at v3
  rw [shortest_nil, decide_eq_false (by rw [← hsh]; exact ended_word ho1)] at v4
  have n1 := tupC_ne (shortest f0 inner) (shortest f0 inner)
  rw [decide_eq_true rfl] at n1
  have q1 : evE G_law_long_right (.call 8 (.cons (.var 2) .nil)) [some (.ref 1), some (tupC (f0, inner)), some (tupC (o0, o1)), some (.int (j : Int)), some (tupC (shortest f0 inner)), some (.str inner), some (.int (1 + (k : Int)))] h4 = .ok (tupC (shortest f0 inner), h4) := (dcall rfl (ds1 (dvr rfl)) rfl).trans (v1 h4)
  have q2 : evE G_law_long_right (.call 9 (.cons (.var 2) (.cons (.var 4) .nil))) [some (.ref 1), some (tupC (f0, inner)), some (tupC (o0, o1)), some (.int (j : Int)), some (tupC (shortest f0 inner)), some (.str inner), some (.int (1 + (k : Int)))] h4 = .ok (.bl true, h4) := (dcall rfl (ds2 (dvr rfl) (dvr rfl)) rfl).trans (v2 h4)
  have n2 : cmpD .IsNot (.bl true) (.bl true) = .ok (.bl false) := rfl
  have or1 : evE G_law_long_right (.or (.cons (.cmp .NotEq (.call 8 (.cons (.var 2) .nil)) (.var 4)) (.cons (.cmp .IsNot (.call 9 (.cons (.var 2) (.cons (.var 4) .nil))) (.con (.bl true))) .nil))) [some (.ref 1), some (tupC (f0, inner)), some (tupC (o0, o1)), some (.int (j : Int)), some (tupC (shortest f0 inner)), some (.str inner), some (.int (1 + (k : Int)))] h4 = .ok (.bl false, h4) :=
    dor (dat (dcmp q1 (dvr rfl) n1) (da1 (dcmp q2 (dcn _) n2)))
  refine step (r1 := [some (.ref 1), some (tupC (f0, inner)), some (tupC (o0, o1)), some (.int (j : Int)), some (tupC (shortest f0 inner)), some (.str inner), some (.int (1 + (k : Int)))]) (h1 := h4) (sif0 or1) ?_
  have hb : binD .Add (.str o0) (.str [99]) = .ok (.str (o0 ++ [99])) := addStr (by simp; omega)
  have q3 : evE G_law_long_right (.call 9 (.cons (.var 2) (.cons (.tup (.cons (.bin .Add (.ix (.var 2) (.con (.int 0))) (.con (.str [99]))) (.cons (.ix (.var 2) (.con (.int 1))) .nil))) .nil))) [some (.ref 1), some (tupC (f0, inner)), some (tupC (o0, o1)), some (.int (j : Int)), some (tupC (shortest f0 inner)), some (.str inner), some (.int (1 + (k : Int)))] h4 = .ok (.bl false, h4) :=
    (dcall rfl (ds2 (dvr rfl) (dtup (ds2 (dbin (dix (dvr rfl) (dcn _) tup0) (dcn _) hb) (dix (dvr rfl) (dcn _) tup1)) (by simp))) rfl).trans (v3 h4)
  have q4 : evE G_law_long_right (.call 9 (.cons (.var 2) (.cons (.tup (.cons (.ix (.var 2) (.con (.int 0))) (.cons (.con (.str [])) .nil))) .nil))) [some (.ref 1), some (tupC (f0, inner)), some (tupC (o0, o1)), some (.int (j : Int)), some (tupC (shortest f0 inner)), some (.str inner), some (.int (1 + (k : Int)))] h4 = .ok (.bl false, h4) :=
    (dcall rfl (ds2 (dvr rfl) (dtup (ds2 (dix (dvr rfl) (dcn _) tup0) (dcn _)) (by simp))) rfl).trans (v4 h4)
  refine ⟨h4, ?_, p4⟩
  have n3 : cmpD .Is (.bl false) (.bl false) = .ok (.bl true) := rfl
  have q5 : evSs G_law_long_right _ _ h4 = _ := qrt (ss := .nil) (sret (dand (dat (dcmp q3 (dcn (.bl false)) n3) (da1 (dcmp q4 (dcn (.bl false)) n3)))))
  rw [q5, endD_rt]
end Z9

set_option Elab.async false
set_option linter.all false
set_option maxRecDepth 100000
set_option maxHeartbeats 4000000
namespace Z9
open PySem PySem.Spec
theorem wdS_nil {f : List Nat} {i : Nat} (h : f.length ≤ i) : wdS f [] i = [101, 110, 100] := by
  unfold wdS
  rw [if_neg (by omega), if_pos rfl]
theorem wdS_one {f a : List Nat} {i : Nat} (h : i < f.length ∨ a ≠ []) : ∃ c, wdS f a i = [c] := by
  unfold wdS
  split
  · exact ⟨_, rfl⟩
  · rename_i z
    rw [if_neg (h.resolve_left z)]
    exact ⟨_, rfl⟩
/-- the same shortest pair, the same first signs -/
theorem same60 {f a f2 a2 : List Nat} (h1 : f.length ≤ 5) (h2 : a.length ≤ 4) (h3 : f2.length ≤ 5) (h4 : a2.length ≤ 4) : shortest f a = shortest f2 a2 ↔ ∀ i, i < 60 → wdS f a i = wdS f2 a2 i := by
  by_cases ha : a = []
  · by_cases ha2 : a2 = []
    · rw [ha, ha2, shortest_nil, shortest_nil]
      constructor
      · intro z i _
        rw [(Prod.mk.inj z).1]
      · intro z
        have key : ∀ {u v : List Nat}, (∀ i, i < 60 → wdS u [] i = wdS v [] i) → u.length ≤ 5 → v.length ≤ 5 → u.length ≤ v.length := by
          intro u v z hu hv
          refine Classical.byContradiction fun n => ?_
          have e := z v.length (by omega)
          rw [wdS_nil (Nat.le_refl _)] at e
          obtain ⟨c, ec⟩ := wdS_one (f := u) (a := []) (i := v.length) (.inl (by omega))
          rw [ec] at e
          simp at e
        have l1 := key z h1 h3
        have l2 := key (fun i hi => (z i hi).symm) h3 h1
        have : f = f2 := by
          refine List.ext_getElem? fun i => ?_
          by_cases y : i < f.length
          · have e := z i (by omega)
            unfold wdS at e
            rw [if_pos y, if_pos (by omega)] at e
            rw [getD_some y, getD_some (by omega), (List.cons.inj e).1]
          · rw [List.getElem?_eq_none (by omega), List.getElem?_eq_none (by omega)]
        rw [this]
    · constructor
      · intro z
        rw [ha, shortest_nil] at z
        obtain ⟨_, c, _, _⟩ := shortest_ok (f := f2) ha2
        have := c.pos
        rw [← z] at this
        simp at this
      · intro z
        have e := z 59 (by omega)
        rw [ha, wdS_nil (by omega)] at e
        obtain ⟨c, ec⟩ := wdS_one (f := f2) (a := a2) (i := 59) (.inr ha2)
        rw [ec] at e
        simp at e
  · by_cases ha2 : a2 = []
    · constructor
      · intro z
        rw [ha2, shortest_nil] at z
        obtain ⟨_, c, _, _⟩ := shortest_ok (f := f) ha
        have := c.pos
        rw [z] at this
        simp at this
      · intro z
        have e := z 59 (by omega)
        rw [ha2, wdS_nil (by omega)] at e
        obtain ⟨c, ec⟩ := wdS_one (f := f) (a := a) (i := 59) (.inr ha)
        rw [ec] at e
        simp at e
    · have hm : a.length * a2.length ≤ 4 * 4 := Nat.mul_le_mul h2 h4
      constructor
      · intro z i _
        rw [wdS_wd ha, wdS_wd ha2, shortest_inj ha ha2 z i]
      · intro z
        refine shortest_eq ha ha2 (wd_far ha ha2 (n := 60) (by omega) fun i hi => ?_)
        have e := z i hi
        rw [wdS_wd ha, wdS_wd ha2] at e
        exact (List.cons.inj e).1
/-- a drawn content -/
theorem drawn {h : Hh} {sc : D} {x2 x4 x5 x6 x7 x8 : Option D} {n q : Int} (p : PotOk h []) (n0 : 1 ≤ n) (n1 : n ≤ 3) (q0 : 1 ≤ q) (q1 : q ≤ 4) :
    ∃ f a h', evE G_law (.tup (.cons (.call 12 (.cons (.var 1) (.cons (.var 3) (.cons (.con (.int 5)) .nil)))) (.cons (.ife (.cmp .Gt (.call 11 (.cons (.var 1) (.cons (.con (.int q)) .nil))) (.con (.int 0))) (.call 12 (.cons (.var 1) (.cons (.var 3) (.cons (.con (.int 4)) .nil)))) (.con (.str []))) .nil))) [some sc, some (.ref 1), x2, some (.int n), x4, x5, x6, x7, x8] h = .ok (tupC (f, a), h') ∧ PotOk h' [] ∧ f.length ≤ 5 ∧ a.length ≤ 4 ∧ abc 3 f ∧ abc 3 a := by
  obtain ⟨f, h1, e1, l1, a1, p1⟩ := g_string p n0 n1 (m := 5) (by omega) (by omega)
  obtain ⟨k, h2, e2, k0, k1, p2⟩ := g_draw p1 (m := q) (by omega) (by omega)
  have v1 : evE G_law (.call 12 (.cons (.var 1) (.cons (.var 3) (.cons (.con (.int 5)) .nil)))) [some sc, some (.ref 1), x2, some (.int n), x4, x5, x6, x7, x8] h = .ok (.str f, h1) := by simp [e1]
  have v2 : evE G_law (.cmp .Gt (.call 11 (.cons (.var 1) (.cons (.con (.int q)) .nil))) (.con (.int 0))) [some sc, some (.ref 1), x2, some (.int n), x4, x5, x6, x7, x8] h1 = .ok (.bl (decide (0 < k)), h2) := by simp [e2]
  by_cases z : 0 < k
  · obtain ⟨a, h3, e3, l3, a3, p3⟩ := g_string p2 n0 n1 (m := 4) (by omega) (by omega)
    have v3 : evE G_law (.call 12 (.cons (.var 1) (.cons (.var 3) (.cons (.con (.int 4)) .nil)))) [some sc, some (.ref 1), x2, some (.int n), x4, x5, x6, x7, x8] h2 = .ok (.str a, h3) := by simp [e3]
    refine ⟨f, a, h3, ?_, p3, by omega, by omega, a1, a3⟩
    rw [ev_tup, evEs_c, v1, Res.bind_ok, evEs_c, ev_ife, v2, Res.bind_ok, boolD_bl, Res.bind_ok, decide_eq_true z, if_pos rfl, v3, Res.bind_ok, evEs_n]
    rfl
  · refine ⟨f, [], h2, ?_, p2, by omega, by simp, a1, fun c m => by cases m⟩
    rw [ev_tup, evEs_c, v1, Res.bind_ok, evEs_c, ev_ife, v2, Res.bind_ok, boolD_bl, Res.bind_ok, decide_eq_false z, if_neg Bool.false_ne_true, ev_con, Res.bind_ok, evEs_n]
    rfl
def shL (ns : List Int) (r : Z9.Env) : Prop := ∃ x2 x3 x4 x5 x6 x7 x8, r = [some (.scr ns), some (.ref 1), x2, x3, x4, x5, x6, x7, x8]
theorem law_turn (ns : List Int) {x2 x3 x4 x5 x6 x7 x8 : Option D} {h : Hh} (p : PotOk h []) (b : Sms) (hb : ∃ a c d t it, ir_law = .cons a (.cons d (.cons (.forr t it b) c))) :
    ∃ r' h', evSs G_law b [some (.scr ns), some (.ref 1), x2, x3, x4, x5, x6, x7, x8] h = .ok (.nx r' h') ∧ shL ns r' ∧ PotOk h' [] := by
  obtain ⟨a, c, d, t, it, hb⟩ := hb
  unfold ir_law at hb
  cases hb
  let C : Res Out → Prop := fun R => ∃ r' h', R = .ok (.nx r' h') ∧ shL ns r' ∧ PotOk h' []
  show C _
  obtain ⟨k1, h1, e1, k10, k11, p1⟩ := g_draw p (m := 3) (by omega) (by omega)
  refine step (r1 := [some (.scr ns), some (.ref 1), x2, some (.int (1 + k1)), x4, x5, x6, x7, x8]) (h1 := h1) (by simp [e1, bin_add]) ?_
  obtain ⟨f, a, h2, e2, p2, lf, la, af, aa⟩ := drawn (sc := .scr ns) (x2 := x2) (x4 := x4) (x5 := x5) (x6 := x6) (x7 := x7) (x8 := x8) (n := 1 + k1) (q := 4) p1 (by omega) (by omega) (by omega) (by omega)
  refine step (r1 := [some (.scr ns), some (.ref 1), x2, some (.int (1 + k1)), some (tupC (f, a)), x5, x6, x7, x8]) (h1 := h2) (by rw [evS_set, e2]; rfl) ?_
  have w1 := fun h => ll_walk (f := f) (a := a) (l := .int (1 + k1)) rfl (by omega) (by omega) h
  refine step (r1 := [some (.scr ns), some (.ref 1), x2, some (.int (1 + k1)), some (tupC (f, a)), some (tupC (shortest f a)), x6, x7, x8]) (h1 := h2) (by simp [w1]) ?_
  obtain ⟨f2, a2, h3, e3, p3, l1, l2, b1, b2, hs⟩ := wr_walk p2 (f := f) (a := a) (by omega) (by omega) af aa
  refine step (r1 := [some (.scr ns), some (.ref 1), x2, some (.int (1 + k1)), some (tupC (f, a)), some (tupC (shortest f a)), some (tupC (f2, a2)), x7, x8]) (h1 := h3) (by simp [e3]) ?_
  have v1 := fun h => least_walk (f := f) (a := a) (by omega) (by omega) af aa h
  have v2 := fun h => least_walk (f := f2) (a := a2) (by omega) (by omega) b1 b2 h
  have v3 := fun h => same_walk (f := f) (a := a) (f2 := f2) (a2 := a2) (by omega) (by omega) af aa (by omega) (by omega) b1 b2 h
  rw [hs] at v2 v3
  rw [decide_eq_true rfl] at v3
  have n1 := tupC_ne (shortest f a) (shortest f a)
  rw [decide_eq_true rfl] at n1
  have n1 : cmpD .NotEq (tupC (shortest f a)) (tupC (shortest f a)) = .ok (.bl false) := n1
  have n2 : cmpD .IsNot (.bl true) (.bl true) = .ok (.bl false) := rfl
  refine step (r1 := [some (.scr ns), some (.ref 1), x2, some (.int (1 + k1)), some (tupC (f, a)), some (tupC (shortest f a)), some (tupC (f2, a2)), x7, x8]) (h1 := h3) (by simp [v1, v2, v3, n1, n2]) ?_
  obtain ⟨f3, a3, h4, e4, p4, l3, l4, b3, b4⟩ := drawn (sc := .scr ns) (x2 := x2) (x4 := some (tupC (f, a))) (x5 := some (tupC (shortest f a))) (x6 := some (tupC (f2, a2))) (x7 := x7) (x8 := x8) (n := 1 + k1) (q := 2) p3 (by omega) (by omega) (by omega) (by omega)
  refine step (r1 := [some (.scr ns), some (.ref 1), x2, some (.int (1 + k1)), some (tupC (f, a)), some (tupC (shortest f a)), some (tupC (f2, a2)), some (tupC (f3, a3)), x8]) (h1 := h4) (by rw [evS_set, e4]; rfl) ?_
  have v4 := fun h => same_walk (f := f) (a := a) (f2 := f3) (a2 := a3) (by omega) (by omega) af aa (by omega) (by omega) b3 b4 h
  refine step (r1 := [some (.scr ns), some (.ref 1), x2, some (.int (1 + k1)), some (tupC (f, a)), some (tupC (shortest f a)), some (tupC (f2, a2)), some (tupC (f3, a3)), some (.bl (decide (shortest f a = shortest f3 a3)))]) (h1 := h4) (by simp [v4]) ?_
  have q1 := fun h => first60 (f := f) (a := a) h
  have q2 := fun h => first60 (f := f3) (a := a3) h
  have q3 := strs_eq ((List.range 60).map (wdS f a)) ((List.range 60).map (wdS f3 a3))
  have q4 : decide ((List.range 60).map (wdS f a) = (List.range 60).map (wdS f3 a3)) = decide (shortest f a = shortest f3 a3) := by
    rw [decide_eq_decide, first_eq, same60 lf la l3 l4]
  rw [q4] at q3
  generalize ((List.range 60).map (wdS f a)).map D.str = y1 at *
  generalize ((List.range 60).map (wdS f3 a3)).map D.str = y2 at *
  have q5 : cmpD .NotEq (.bl (decide (shortest f a = shortest f3 a3))) (.bl (decide (shortest f a = shortest f3 a3))) = .ok (.bl false) := by
    generalize decide (shortest f a = shortest f3 a3) = b
    rw [cmp_ne (by simp) (by simp)]
    cases b <;> rfl
  have q6 : ∀ h b, isiD h (.bl b) .bool = .ok (.bl true) := fun h b => rfl
  refine step (r1 := [some (.scr ns), some (.ref 1), x2, some (.int (1 + k1)), some (tupC (f, a)), some (tupC (shortest f a)), some (tupC (f2, a2)), some (tupC (f3, a3)), some (.bl (decide (shortest f a = shortest f3 a3)))]) (h1 := h4) (by
    generalize decide (shortest f a = shortest f3 a3) = b at *
    simp [q1, q2, q3, q5, q6]) ?_
  have sub := shortest_sub (f := f) (a := a)
  have v5 := fun h => least_walk (f := (shortest f a).1) (a := (shortest f a).2) (by omega) (by omega) (fun c m => af c (sub.2.2.1 c m)) (fun c m => aa c (sub.2.2.2 c m)) h
  have v5 : ∀ h, g_least_content [tupC (shortest f a)] h = .ok (tupC (shortest f a), h) := fun h => by
    have := v5 h
    rw [shortest_idem] at this
    exact this
  refine step (r1 := [some (.scr ns), some (.ref 1), x2, some (.int (1 + k1)), some (tupC (f, a)), some (tupC (shortest f a)), some (tupC (f2, a2)), some (tupC (f3, a3)), some (.bl (decide (shortest f a = shortest f3 a3)))]) (h1 := h4) (by simp [v5, n1]) ?_
  exact ⟨_, _, evSs_n _ _ _, ⟨_, _, _, _, _, _, _, rfl⟩, p4⟩
theorem law_plain (ns : List Int) (hl : ns.length ≤ 63) : ∃ h, g_law [.scr ns] [] = .ok (.bl true, h) := by
  obtain ⟨h0, e0, p0⟩ := pot_ok G_law_pot ns
  have e0' : g_law_pot [.scr ns] [] = .ok (.ref 1, h0) := e0
  show ∃ h, runD G_law 9 ir_law [.scr ns] [] = _
  rw [runD_eq]
  unfold ir_law
  refine step (C := fun R => ∃ h, endD R = .ok (.bl true, h)) (r1 := [some (.scr ns), some (.ref 1), none, none, none, none, none, none, none]) (h1 := h0) (by simp [e0']) ?_
  obtain ⟨k, h1, e1, k0, k1, p1⟩ := g_draw p0 (m := 8) (by omega) (by omega)
  have first : ∃ h2, evS G_law (.iff (.and (.cons (.cmp .Eq (.call 11 (.cons (.var 1) (.cons (.con (.int 8)) .nil))) (.con (.int 0))) (.cons (.not (.call 17 (.cons (.var 1) .nil))) .nil))) (.cons (.ret (.con (.bl false))) .nil) .nil) [some (.scr ns), some (.ref 1), none, none, none, none, none, none, none] h0 = .ok (.nx [some (.scr ns), some (.ref 1), none, none, none, none, none, none, none] h2) ∧ PotOk h2 [] := by
    by_cases z : k = 0
    · obtain ⟨h2, e2, p2⟩ := long_walk p1
      exact ⟨h2, by simp [e1, z, e2], p2⟩
    · exact ⟨h1, by simp [e1, z], p1⟩
  obtain ⟨h2, e2, p2⟩ := first
  refine step (C := fun R => ∃ h, endD R = .ok (.bl true, h)) (r1 := [some (.scr ns), some (.ref 1), none, none, none, none, none, none, none]) (h1 := h2) e2 ?_
  refine for_then (C := fun R => ∃ h, endD R = .ok (.bl true, h)) (fun r h => shL ns r ∧ PotOk h []) (xs := (List.range (Int.toNat 4)).map fun (i : Nat) => .int (i : Int)) (h1 := h2) ?_ ⟨⟨_, _, _, _, _, _, _, rfl⟩, p2⟩ ?_ ?_
  · rw [evI_rng, ev_con]
    exact rangeD_n (by omega) (by omega)
  · rintro x m r h ⟨⟨x2, x3, x4, x5, x6, x7, x8, rfl⟩, p⟩
    exact law_turn ns p _ ⟨_, _, _, _, _, rfl⟩
  · rintro r h ⟨_, p⟩
    simp
end Z9

namespace Z9
open PySem PySem.Spec PyProof.Rows L2
structure Txt (K : PySem.W.Frag) (mg : Str → Option Value) (ca : Nat → Value) : Prop where
  s_is_pair : Stands K mg "is_pair" (topS 5) ["thing"]
  s_is_string_of : Stands K mg "is_string_of" (topS 6) ["thing", "signs"]
  s_least_round : Stands K mg "least_round" (topS 12) ["again"]
  s_law_pot : Stands K mg "_law_pot" (topS 17) ["_law_script"]
  s_law_draw : Stands K mg "_law_draw" (topS 18) ["_law_pot_here", "_law_many"]
  s_law_sign : Stands K mg "_law_sign" (topS 20) ["_law_content", "_law_place"]
  s_is_letters : Stands K mg "is_letters" (topS 7) ["thing", "letters"]
  s_shortest : Stands K mg "shortest" (topS 13) ["first", "again"]
  s_law_string : Stands K mg "_law_string" (topS 19) ["_law_pot_here", "_law_letters", "_law_most"]
  s_law_first : Stands K mg "_law_first" (topS 21) ["_law_content", "_law_many"]
  s_law_written : Stands K mg "_law_written" (topS 23) ["_law_pot_here", "_law_content"]
  s_is_content_of : Stands K mg "is_content_of" (topS 9) ["thing", "letters"]
  s_law_least : Stands K mg "_law_least" (topS 22) ["_law_content", "_law_letters"]
  s_is_content : Stands K mg "is_content" (topS 10) ["thing"]
  s_check_content : Stands K mg "check_content" (topS 11) ["thing"]
  s_least_content : Stands K mg "least_content" (topS 14) ["content"]
  s_same_signs : Stands K mg "same_signs" (topS 15) ["content", "second"]
  s_law_long_right : Stands K mg "_law_long_right" (topS 24) ["_law_pot_here"]
  s_law : Stands K mg "law" (topS 25) ["_law_script"]
  con : ConOk nmL K mg consL
  blt : ∀ x ∈ bnames, mg x = none
  xo : XOk nmL ca (fun k => exL.contains k) (fun k => (tabL.map (·.1)).contains k) (subOf tabL) K mg
section
variable {P : Program} {w : World} {K : PySem.W.Frag} {mg : Str → Option Value} {base : Heap} {ca : Nat → Value}
theorem at_is_pair (T : Txt K mg ca) : DefAt P w K mg base ca 1 "is_pair" 1 g_is_pair := (def_at (G := G_is_pair) T.s_is_pair sc_is_pair m_is_pair (gok_of (hf_nil) T.con T.blt) T.xo).pure
theorem at_is_string_of (T : Txt K mg ca) : DefAt P w K mg base ca 1 "is_string_of" 2 g_is_string_of := (def_at (G := G_is_string_of) T.s_is_string_of sc_is_string_of m_is_string_of (gok_of (hf_nil) T.con T.blt) T.xo).pure
theorem at_least_round (T : Txt K mg ca) : DefAt P w K mg base ca 1 "least_round" 1 g_least_round := (def_at (G := G_least_round) T.s_least_round sc_least_round m_least_round (gok_of (hf_nil) T.con T.blt) T.xo).pure
theorem at_law_pot (T : Txt K mg ca) : DefAt P w K mg base ca 1 "_law_pot" 1 g_law_pot := (def_at (G := G_law_pot) T.s_law_pot sc_law_pot m_law_pot (gok_of (hf_nil) T.con T.blt) T.xo)
theorem at_law_draw (T : Txt K mg ca) : DefAt P w K mg base ca 1 "_law_draw" 2 g_law_draw := (def_at (G := G_law_draw) T.s_law_draw sc_law_draw m_law_draw (gok_of (hf_nil) T.con T.blt) T.xo)
theorem at_law_sign (T : Txt K mg ca) : DefAt P w K mg base ca 1 "_law_sign" 2 g_law_sign := (def_at (G := G_law_sign) T.s_law_sign sc_law_sign m_law_sign (gok_of (hf_nil) T.con T.blt) T.xo).pure
theorem at_is_letters (T : Txt K mg ca) : DefAt P w K mg base ca 2 "is_letters" 2 g_is_letters := (def_at (G := G_is_letters) T.s_is_letters sc_is_letters m_is_letters (gok_of (hf_cons (x := "is_string_of") rfl ((at_is_string_of T)) (hf_nil)) T.con T.blt) T.xo).pure
theorem at_shortest (T : Txt K mg ca) : DefAt P w K mg base ca 2 "shortest" 2 g_shortest := (def_at (G := G_shortest) T.s_shortest sc_shortest m_shortest (gok_of (hf_cons (x := "least_round") rfl ((at_least_round T)) (hf_nil)) T.con T.blt) T.xo).pure
theorem at_law_string (T : Txt K mg ca) : DefAt P w K mg base ca 2 "_law_string" 3 g_law_string := (def_at (G := G_law_string) T.s_law_string sc_law_string m_law_string (gok_of (hf_cons (x := "_law_draw") rfl ((at_law_draw T)) (hf_nil)) T.con T.blt) T.xo)
theorem at_law_first (T : Txt K mg ca) : DefAt P w K mg base ca 2 "_law_first" 2 g_law_first := (def_at (G := G_law_first) T.s_law_first sc_law_first m_law_first (gok_of (hf_cons (x := "_law_sign") rfl ((at_law_sign T)) (hf_nil)) T.con T.blt) T.xo).pure
theorem at_law_written (T : Txt K mg ca) : DefAt P w K mg base ca 2 "_law_written" 2 g_law_written := (def_at (G := G_law_written) T.s_law_written sc_law_written m_law_written (gok_of (hf_cons (x := "_law_draw") rfl ((at_law_draw T)) (hf_nil)) T.con T.blt) T.xo)
theorem at_is_content_of (T : Txt K mg ca) : DefAt P w K mg base ca 3 "is_content_of" 2 g_is_content_of := (def_at (G := G_is_content_of) T.s_is_content_of sc_is_content_of m_is_content_of (gok_of (hf_cons (x := "is_pair") rfl ((at_is_pair T).up (by decide)) (hf_cons (x := "is_letters") rfl ((at_is_letters T)) (hf_nil))) T.con T.blt) T.xo).pure
theorem at_law_least (T : Txt K mg ca) : DefAt P w K mg base ca 3 "_law_least" 2 g_law_least := (def_at (G := G_law_least) T.s_law_least sc_law_least m_law_least (gok_of (hf_cons (x := "_law_first") rfl ((at_law_first T)) (hf_nil)) T.con T.blt) T.xo).pure
theorem at_is_content (T : Txt K mg ca) : DefAt P w K mg base ca 4 "is_content" 1 g_is_content := (def_at (G := G_is_content) T.s_is_content sc_is_content m_is_content (gok_of (hf_cons (x := "is_content_of") rfl ((at_is_content_of T)) (hf_nil)) T.con T.blt) T.xo).pure
theorem at_check_content (T : Txt K mg ca) : DefAt P w K mg base ca 5 "check_content" 1 g_check_content := (def_at (G := G_check_content) T.s_check_content sc_check_content m_check_content (gok_of (hf_cons (x := "is_content") rfl ((at_is_content T)) (hf_nil)) T.con T.blt) T.xo).pure
theorem at_least_content (T : Txt K mg ca) : DefAt P w K mg base ca 6 "least_content" 1 g_least_content := (def_at (G := G_least_content) T.s_least_content sc_least_content m_least_content (gok_of (hf_cons (x := "check_content") rfl ((at_check_content T)) (hf_cons (x := "shortest") rfl ((at_shortest T).up (by decide)) (hf_nil))) T.con T.blt) T.xo).pure
theorem at_same_signs (T : Txt K mg ca) : DefAt P w K mg base ca 6 "same_signs" 2 g_same_signs := (def_at (G := G_same_signs) T.s_same_signs sc_same_signs m_same_signs (gok_of (hf_cons (x := "check_content") rfl ((at_check_content T)) (hf_cons (x := "shortest") rfl ((at_shortest T).up (by decide)) (hf_nil))) T.con T.blt) T.xo).pure
theorem at_law_long_right (T : Txt K mg ca) : DefAt P w K mg base ca 7 "_law_long_right" 1 g_law_long_right := (def_at (G := G_law_long_right) T.s_law_long_right sc_law_long_right m_law_long_right (gok_of (hf_cons (x := "_law_string") rfl ((at_law_string T).up (by decide)) (hf_cons (x := "_law_draw") rfl ((at_law_draw T).up (by decide)) (hf_cons (x := "_law_least") rfl ((at_law_least T).up (by decide)) (hf_cons (x := "least_content") rfl ((at_least_content T)) (hf_cons (x := "same_signs") rfl ((at_same_signs T)) (hf_nil)))))) T.con T.blt) T.xo)
theorem at_law (T : Txt K mg ca) : DefAt P w K mg base ca 8 "law" 1 g_law := (def_at (G := G_law) T.s_law sc_law m_law (gok_of (hf_cons (x := "_law_pot") rfl ((at_law_pot T).up (by decide)) (hf_cons (x := "_law_draw") rfl ((at_law_draw T).up (by decide)) (hf_cons (x := "_law_long_right") rfl ((at_law_long_right T)) (hf_cons (x := "_law_string") rfl ((at_law_string T).up (by decide)) (hf_cons (x := "_law_least") rfl ((at_law_least T).up (by decide)) (hf_cons (x := "_law_written") rfl ((at_law_written T).up (by decide)) (hf_cons (x := "least_content") rfl ((at_least_content T).up (by decide)) (hf_cons (x := "same_signs") rfl ((at_same_signs T).up (by decide)) (hf_cons (x := "_law_first") rfl ((at_law_first T).up (by decide)) (hf_nil)))))))))) T.con T.blt) T.xo)
end
theorem all_mk {l : PySem.W.OpenLaw} {w : World} {K : PySem.W.Frag} {h : Heap} {mg : Str → Option Value} {fa f0 f1 f2 f3 f4 f5 f6 f7 f8 f9 f10 f11 f12 f13 f14 f15 f16 f17 f18 C0 : Addr} (X : K.In h) (G : h.Ns mainGlobals mg) (hfa : mg "law" = some (.ref fa))
    {od0 an0 od1 an1 od2 an2 od3 an3 od4 an4 od5 an5 od6 an6 od7 an7 od8 an8 od9 an9 od10 an10 od11 an11 od12 an12 od13 an13 od14 an14 od15 an15 od16 an16 od17 an17 od18 an18 : Option Addr} {sl0 sl1 sl2 sl3 sl4 sl5 sl6 sl7 sl8 sl9 sl10 sl11 sl12 sl13 sl14 sl15 sl16 sl17 sl18 : Array (Option Value)} {oc0 kV0 dc0 pm0 cd0 ct0 oc1 kV1 dc1 pm1 cd1 ct1 oc2 kV2 dc2 pm2 cd2 ct2 oc3 kV3 dc3 pm3 cd3 ct3 oc4 kV4 dc4 pm4 cd4 ct4 oc5 kV5 dc5 pm5 cd5 ct5 oc6 kV6 dc6 pm6 cd6 ct6 oc7 kV7 dc7 pm7 cd7 ct7 oc8 kV8 dc8 pm8 cd8 ct8 oc9 kV9 dc9 pm9 cd9 ct9 oc10 kV10 dc10 pm10 cd10 ct10 oc11 kV11 dc11 pm11 cd11 ct11 oc12 kV12 dc12 pm12 cd12 ct12 oc13 kV13 dc13 pm13 cd13 ct13 oc14 kV14 dc14 pm14 cd14 ct14 oc15 kV15 dc15 pm15 cd15 ct15 oc16 kV16 dc16 pm16 cd16 ct16 oc17 kV17 dc17 pm17 cd17 ct17 oc18 kV18 dc18 pm18 cd18 ct18 : Value}
    (a0 : PySem.W.nsIn K mainGlobals "is_pair" = some (some (.ref f0)))
    (l0 : K.lookup f0 = some ⟨oc0, od0, .func (PySem.W.fnOf "is_pair" "is_pair" (defArgs (topS 5)) (defBody (topS 5)) (defScope (topS 5)) .none kV0 dc0 pm0 an0 cd0 ct0), sl0⟩)
    (c0 : PySem.W.codeIn K cd0 "is_pair" = true) (k0 : PySem.W.keepIn K (.ref f0) = true)
    (a1 : PySem.W.nsIn K mainGlobals "is_string_of" = some (some (.ref f1)))
    (l1 : K.lookup f1 = some ⟨oc1, od1, .func (PySem.W.fnOf "is_string_of" "is_string_of" (defArgs (topS 6)) (defBody (topS 6)) (defScope (topS 6)) .none kV1 dc1 pm1 an1 cd1 ct1), sl1⟩)
    (c1 : PySem.W.codeIn K cd1 "is_string_of" = true) (k1 : PySem.W.keepIn K (.ref f1) = true)
    (a2 : PySem.W.nsIn K mainGlobals "least_round" = some (some (.ref f2)))
    (l2 : K.lookup f2 = some ⟨oc2, od2, .func (PySem.W.fnOf "least_round" "least_round" (defArgs (topS 12)) (defBody (topS 12)) (defScope (topS 12)) .none kV2 dc2 pm2 an2 cd2 ct2), sl2⟩)
    (c2 : PySem.W.codeIn K cd2 "least_round" = true) (k2 : PySem.W.keepIn K (.ref f2) = true)
    (a3 : PySem.W.nsIn K mainGlobals "_law_pot" = some (some (.ref f3)))
    (l3 : K.lookup f3 = some ⟨oc3, od3, .func (PySem.W.fnOf "_law_pot" "_law_pot" (defArgs (topS 17)) (defBody (topS 17)) (defScope (topS 17)) .none kV3 dc3 pm3 an3 cd3 ct3), sl3⟩)
    (c3 : PySem.W.codeIn K cd3 "_law_pot" = true) (k3 : PySem.W.keepIn K (.ref f3) = true)
    (a4 : PySem.W.nsIn K mainGlobals "_law_draw" = some (some (.ref f4)))
    (l4 : K.lookup f4 = some ⟨oc4, od4, .func (PySem.W.fnOf "_law_draw" "_law_draw" (defArgs (topS 18)) (defBody (topS 18)) (defScope (topS 18)) .none kV4 dc4 pm4 an4 cd4 ct4), sl4⟩)
    (c4 : PySem.W.codeIn K cd4 "_law_draw" = true) (k4 : PySem.W.keepIn K (.ref f4) = true)
    (a5 : PySem.W.nsIn K mainGlobals "_law_sign" = some (some (.ref f5)))
    (l5 : K.lookup f5 = some ⟨oc5, od5, .func (PySem.W.fnOf "_law_sign" "_law_sign" (defArgs (topS 20)) (defBody (topS 20)) (defScope (topS 20)) .none kV5 dc5 pm5 an5 cd5 ct5), sl5⟩)
    (c5 : PySem.W.codeIn K cd5 "_law_sign" = true) (k5 : PySem.W.keepIn K (.ref f5) = true)
    (a6 : PySem.W.nsIn K mainGlobals "is_letters" = some (some (.ref f6)))
    (l6 : K.lookup f6 = some ⟨oc6, od6, .func (PySem.W.fnOf "is_letters" "is_letters" (defArgs (topS 7)) (defBody (topS 7)) (defScope (topS 7)) .none kV6 dc6 pm6 an6 cd6 ct6), sl6⟩)
    (c6 : PySem.W.codeIn K cd6 "is_letters" = true) (k6 : PySem.W.keepIn K (.ref f6) = true)
    (a7 : PySem.W.nsIn K mainGlobals "shortest" = some (some (.ref f7)))
    (l7 : K.lookup f7 = some ⟨oc7, od7, .func (PySem.W.fnOf "shortest" "shortest" (defArgs (topS 13)) (defBody (topS 13)) (defScope (topS 13)) .none kV7 dc7 pm7 an7 cd7 ct7), sl7⟩)
    (c7 : PySem.W.codeIn K cd7 "shortest" = true) (k7 : PySem.W.keepIn K (.ref f7) = true)
    (a8 : PySem.W.nsIn K mainGlobals "_law_string" = some (some (.ref f8)))
    (l8 : K.lookup f8 = some ⟨oc8, od8, .func (PySem.W.fnOf "_law_string" "_law_string" (defArgs (topS 19)) (defBody (topS 19)) (defScope (topS 19)) .none kV8 dc8 pm8 an8 cd8 ct8), sl8⟩)
    (c8 : PySem.W.codeIn K cd8 "_law_string" = true) (k8 : PySem.W.keepIn K (.ref f8) = true)
    (a9 : PySem.W.nsIn K mainGlobals "_law_first" = some (some (.ref f9)))
    (l9 : K.lookup f9 = some ⟨oc9, od9, .func (PySem.W.fnOf "_law_first" "_law_first" (defArgs (topS 21)) (defBody (topS 21)) (defScope (topS 21)) .none kV9 dc9 pm9 an9 cd9 ct9), sl9⟩)
    (c9 : PySem.W.codeIn K cd9 "_law_first" = true) (k9 : PySem.W.keepIn K (.ref f9) = true)
    (a10 : PySem.W.nsIn K mainGlobals "_law_written" = some (some (.ref f10)))
    (l10 : K.lookup f10 = some ⟨oc10, od10, .func (PySem.W.fnOf "_law_written" "_law_written" (defArgs (topS 23)) (defBody (topS 23)) (defScope (topS 23)) .none kV10 dc10 pm10 an10 cd10 ct10), sl10⟩)
    (c10 : PySem.W.codeIn K cd10 "_law_written" = true) (k10 : PySem.W.keepIn K (.ref f10) = true)
    (a11 : PySem.W.nsIn K mainGlobals "is_content_of" = some (some (.ref f11)))
    (l11 : K.lookup f11 = some ⟨oc11, od11, .func (PySem.W.fnOf "is_content_of" "is_content_of" (defArgs (topS 9)) (defBody (topS 9)) (defScope (topS 9)) .none kV11 dc11 pm11 an11 cd11 ct11), sl11⟩)
    (c11 : PySem.W.codeIn K cd11 "is_content_of" = true) (k11 : PySem.W.keepIn K (.ref f11) = true)
    (a12 : PySem.W.nsIn K mainGlobals "_law_least" = some (some (.ref f12)))
    (l12 : K.lookup f12 = some ⟨oc12, od12, .func (PySem.W.fnOf "_law_least" "_law_least" (defArgs (topS 22)) (defBody (topS 22)) (defScope (topS 22)) .none kV12 dc12 pm12 an12 cd12 ct12), sl12⟩)
    (c12 : PySem.W.codeIn K cd12 "_law_least" = true) (k12 : PySem.W.keepIn K (.ref f12) = true)
    (a13 : PySem.W.nsIn K mainGlobals "is_content" = some (some (.ref f13)))
    (l13 : K.lookup f13 = some ⟨oc13, od13, .func (PySem.W.fnOf "is_content" "is_content" (defArgs (topS 10)) (defBody (topS 10)) (defScope (topS 10)) .none kV13 dc13 pm13 an13 cd13 ct13), sl13⟩)
    (c13 : PySem.W.codeIn K cd13 "is_content" = true) (k13 : PySem.W.keepIn K (.ref f13) = true)
    (a14 : PySem.W.nsIn K mainGlobals "check_content" = some (some (.ref f14)))
    (l14 : K.lookup f14 = some ⟨oc14, od14, .func (PySem.W.fnOf "check_content" "check_content" (defArgs (topS 11)) (defBody (topS 11)) (defScope (topS 11)) .none kV14 dc14 pm14 an14 cd14 ct14), sl14⟩)
    (c14 : PySem.W.codeIn K cd14 "check_content" = true) (k14 : PySem.W.keepIn K (.ref f14) = true)
    (a15 : PySem.W.nsIn K mainGlobals "least_content" = some (some (.ref f15)))
    (l15 : K.lookup f15 = some ⟨oc15, od15, .func (PySem.W.fnOf "least_content" "least_content" (defArgs (topS 14)) (defBody (topS 14)) (defScope (topS 14)) .none kV15 dc15 pm15 an15 cd15 ct15), sl15⟩)
    (c15 : PySem.W.codeIn K cd15 "least_content" = true) (k15 : PySem.W.keepIn K (.ref f15) = true)
    (a16 : PySem.W.nsIn K mainGlobals "same_signs" = some (some (.ref f16)))
    (l16 : K.lookup f16 = some ⟨oc16, od16, .func (PySem.W.fnOf "same_signs" "same_signs" (defArgs (topS 15)) (defBody (topS 15)) (defScope (topS 15)) .none kV16 dc16 pm16 an16 cd16 ct16), sl16⟩)
    (c16 : PySem.W.codeIn K cd16 "same_signs" = true) (k16 : PySem.W.keepIn K (.ref f16) = true)
    (a17 : PySem.W.nsIn K mainGlobals "_law_long_right" = some (some (.ref f17)))
    (l17 : K.lookup f17 = some ⟨oc17, od17, .func (PySem.W.fnOf "_law_long_right" "_law_long_right" (defArgs (topS 24)) (defBody (topS 24)) (defScope (topS 24)) .none kV17 dc17 pm17 an17 cd17 ct17), sl17⟩)
    (c17 : PySem.W.codeIn K cd17 "_law_long_right" = true) (k17 : PySem.W.keepIn K (.ref f17) = true)
    (a18 : PySem.W.nsIn K mainGlobals "law" = some (some (.ref f18)))
    (l18 : K.lookup f18 = some ⟨oc18, od18, .func (PySem.W.fnOf "law" "law" (defArgs (topS 25)) (defBody (topS 25)) (defScope (topS 25)) .none kV18 dc18 pm18 an18 cd18 ct18), sl18⟩)
    (c18 : PySem.W.codeIn K cd18 "law" = true) (k18 : PySem.W.keepIn K (.ref f18) = true)
    (z0 : PySem.W.nsIn K mainGlobals "len" = some none)
    (z1 : PySem.W.nsIn K mainGlobals "abs" = some none)
    (z2 : PySem.W.nsIn K mainGlobals "int" = some none)
    (z3 : PySem.W.nsIn K mainGlobals "sum" = some none)
    (z4 : PySem.W.nsIn K mainGlobals "all" = some none)
    (z5 : PySem.W.nsIn K mainGlobals "any" = some none)
    (z6 : PySem.W.nsIn K mainGlobals "list" = some none)
    (z7 : PySem.W.nsIn K mainGlobals "tuple" = some none)
    (z8 : PySem.W.nsIn K mainGlobals "min" = some none)
    (z9 : PySem.W.nsIn K mainGlobals "max" = some none)
    (z10 : PySem.W.nsIn K mainGlobals "sorted" = some none)
    (z11 : PySem.W.nsIn K mainGlobals "str" = some none)
    (z12 : PySem.W.nsIn K mainGlobals "range" = some none)
    (z13 : PySem.W.nsIn K mainGlobals "enumerate" = some none)
    (z14 : PySem.W.nsIn K mainGlobals "zip" = some none)
    (z15 : PySem.W.nsIn K mainGlobals "isinstance" = some none)
    (z16 : PySem.W.nsIn K mainGlobals "bool" = some none)
    (z17 : PySem.W.nsIn K mainGlobals "dict" = some none)
    (z18 : PySem.W.nsIn K mainGlobals "set" = some none)
    {vt0 : _} (v0 : PySem.W.nsIn K mainGlobals "LETTERS" = some (some (.str ⟨([97, 98, 99] : List Nat).toArray⟩ vt0)))
    (aC0 : PySem.W.nsIn K mainGlobals "NoContent" = some (some (.ref C0)))
    (xC0 : PySem.W.excIn K C0 [.type "ValueError", .type "Exception", .type "BaseException", .type "object"] "ValueError.__new__" = true)
    (kC0 : PySem.W.keepIn K (.ref C0) = true) (bC0 : PySem.W.subIn K (.ref C0) (.type "BaseException") = some true) (tC0 : PySem.W.typeIn K (.ref C0) = some (.type "type")) (dC0 : PySem.W.hasDictIn K C0 = true)
    (q0x0 : PySem.W.subIn K (.ref C0) (.ref C0) = some true)
    : LawFd l w K mg fa 8 := by
  have e := hfa.symm.trans (PySem.W.mg_of X G a18)
  cases e
  have F0 := fun_mk (st := topS 5) l0 c0 k0
  have F1 := fun_mk (st := topS 6) l1 c1 k1
  have F2 := fun_mk (st := topS 12) l2 c2 k2
  have F3 := fun_mk (st := topS 17) l3 c3 k3
  have F4 := fun_mk (st := topS 18) l4 c4 k4
  have F5 := fun_mk (st := topS 20) l5 c5 k5
  have F6 := fun_mk (st := topS 7) l6 c6 k6
  have F7 := fun_mk (st := topS 13) l7 c7 k7
  have F8 := fun_mk (st := topS 19) l8 c8 k8
  have F9 := fun_mk (st := topS 21) l9 c9 k9
  have F10 := fun_mk (st := topS 23) l10 c10 k10
  have F11 := fun_mk (st := topS 9) l11 c11 k11
  have F12 := fun_mk (st := topS 22) l12 c12 k12
  have F13 := fun_mk (st := topS 10) l13 c13 k13
  have F14 := fun_mk (st := topS 11) l14 c14 k14
  have F15 := fun_mk (st := topS 14) l15 c15 k15
  have F16 := fun_mk (st := topS 15) l16 c16 k16
  have F17 := fun_mk (st := topS 24) l17 c17 k17
  have F18 := fun_mk (st := topS 25) l18 c18 k18
  have T : Txt K mg (caL [(20, C0)]) := {
    s_is_pair := stands_mk (PySem.W.mg_of X G a0) F0 (F0.binds (ps := ["thing"]) fun _ _ _ _ _ _ us hl => match us, hl with | [_], _ => rfl)
    s_is_string_of := stands_mk (PySem.W.mg_of X G a1) F1 (F1.binds (ps := ["thing", "signs"]) fun _ _ _ _ _ _ us hl => match us, hl with | [_, _], _ => rfl)
    s_least_round := stands_mk (PySem.W.mg_of X G a2) F2 (F2.binds (ps := ["again"]) fun _ _ _ _ _ _ us hl => match us, hl with | [_], _ => rfl)
    s_law_pot := stands_mk (PySem.W.mg_of X G a3) F3 (F3.binds (ps := ["_law_script"]) fun _ _ _ _ _ _ us hl => match us, hl with | [_], _ => rfl)
    s_law_draw := stands_mk (PySem.W.mg_of X G a4) F4 (F4.binds (ps := ["_law_pot_here", "_law_many"]) fun _ _ _ _ _ _ us hl => match us, hl with | [_, _], _ => rfl)
    s_law_sign := stands_mk (PySem.W.mg_of X G a5) F5 (F5.binds (ps := ["_law_content", "_law_place"]) fun _ _ _ _ _ _ us hl => match us, hl with | [_, _], _ => rfl)
    s_is_letters := stands_mk (PySem.W.mg_of X G a6) F6 (F6.binds (ps := ["thing", "letters"]) fun _ _ _ _ _ _ us hl => match us, hl with | [_, _], _ => rfl)
    s_shortest := stands_mk (PySem.W.mg_of X G a7) F7 (F7.binds (ps := ["first", "again"]) fun _ _ _ _ _ _ us hl => match us, hl with | [_, _], _ => rfl)
    s_law_string := stands_mk (PySem.W.mg_of X G a8) F8 (F8.binds (ps := ["_law_pot_here", "_law_letters", "_law_most"]) fun _ _ _ _ _ _ us hl => match us, hl with | [_, _, _], _ => rfl)
    s_law_first := stands_mk (PySem.W.mg_of X G a9) F9 (F9.binds (ps := ["_law_content", "_law_many"]) fun _ _ _ _ _ _ us hl => match us, hl with | [_, _], _ => rfl)
    s_law_written := stands_mk (PySem.W.mg_of X G a10) F10 (F10.binds (ps := ["_law_pot_here", "_law_content"]) fun _ _ _ _ _ _ us hl => match us, hl with | [_, _], _ => rfl)
    s_is_content_of := stands_mk (PySem.W.mg_of X G a11) F11 (F11.binds (ps := ["thing", "letters"]) fun _ _ _ _ _ _ us hl => match us, hl with | [_, _], _ => rfl)
    s_law_least := stands_mk (PySem.W.mg_of X G a12) F12 (F12.binds (ps := ["_law_content", "_law_letters"]) fun _ _ _ _ _ _ us hl => match us, hl with | [_, _], _ => rfl)
    s_is_content := stands_mk (PySem.W.mg_of X G a13) F13 (F13.binds (ps := ["thing"]) fun _ _ _ _ _ _ us hl => match us, hl with | [_], _ => rfl)
    s_check_content := stands_mk (PySem.W.mg_of X G a14) F14 (F14.binds (ps := ["thing"]) fun _ _ _ _ _ _ us hl => match us, hl with | [_], _ => rfl)
    s_least_content := stands_mk (PySem.W.mg_of X G a15) F15 (F15.binds (ps := ["content"]) fun _ _ _ _ _ _ us hl => match us, hl with | [_], _ => rfl)
    s_same_signs := stands_mk (PySem.W.mg_of X G a16) F16 (F16.binds (ps := ["content", "second"]) fun _ _ _ _ _ _ us hl => match us, hl with | [_, _], _ => rfl)
    s_law_long_right := stands_mk (PySem.W.mg_of X G a17) F17 (F17.binds (ps := ["_law_pot_here"]) fun _ _ _ _ _ _ us hl => match us, hl with | [_], _ => rfl)
    s_law := stands_mk (PySem.W.mg_of X G a18) F18 (F18.binds (ps := ["_law_script"]) fun _ _ _ _ _ _ us hl => match us, hl with | [_], _ => rfl)
    con := all_cons (con1 rfl (con_str (s := [97, 98, 99]) ⟨_, PySem.W.mg_of X G v0⟩ (by decide) (by decide))) (all_nil)
    blt := all_cons (PySem.W.mg_none_of X G z0) (all_cons (PySem.W.mg_none_of X G z1) (all_cons (PySem.W.mg_none_of X G z2) (all_cons (PySem.W.mg_none_of X G z3) (all_cons (PySem.W.mg_none_of X G z4) (all_cons (PySem.W.mg_none_of X G z5) (all_cons (PySem.W.mg_none_of X G z6) (all_cons (PySem.W.mg_none_of X G z7) (all_cons (PySem.W.mg_none_of X G z8) (all_cons (PySem.W.mg_none_of X G z9) (all_cons (PySem.W.mg_none_of X G z10) (all_cons (PySem.W.mg_none_of X G z11) (all_cons (PySem.W.mg_none_of X G z12) (all_cons (PySem.W.mg_none_of X G z13) (all_cons (PySem.W.mg_none_of X G z14) (all_cons (PySem.W.mg_none_of X G z15) (all_cons (PySem.W.mg_none_of X G z16) (all_cons (PySem.W.mg_none_of X G z17) (all_cons (PySem.W.mg_none_of X G z18) (all_nil)))))))))))))))))))
    xo := xok_of (all_cons (ex1 (x := "NoContent") rfl rfl ⟨_, _, _, _, PySem.F.excBase_ValueError, xC0, PySem.W.mg_of X G aC0, kC0, bC0, tC0⟩) (all_nil)) (all_cons (all_cons (PySem.W.exm_ref bC0 dC0 tC0 q0x0) (all_nil)) (all_nil)) (all_cons ⟨"NoContent", rfl, PySem.W.mg_of X G aC0⟩ (all_nil)) }
  exact ⟨_, fun s u => .of_eq rfl, fun base _ _ => law_end (x := "law") (def_fn (G := G_law) F18 sc_law m_law (gok_of (hf_cons (x := "_law_pot") rfl ((at_law_pot T).up (by decide)) (hf_cons (x := "_law_draw") rfl ((at_law_draw T).up (by decide)) (hf_cons (x := "_law_long_right") rfl ((at_law_long_right T)) (hf_cons (x := "_law_string") rfl ((at_law_string T).up (by decide)) (hf_cons (x := "_law_least") rfl ((at_law_least T).up (by decide)) (hf_cons (x := "_law_written") rfl ((at_law_written T).up (by decide)) (hf_cons (x := "least_content") rfl ((at_least_content T).up (by decide)) (hf_cons (x := "same_signs") rfl ((at_same_signs T).up (by decide)) (hf_cons (x := "_law_first") rfl ((at_law_first T).up (by decide)) (hf_nil)))))))))) T.con T.blt) T.xo) law_plain⟩
end Z9
open PySem PySem.W PyProof.Rows
set_option maxRecDepth 100000 in
set_option maxHeartbeats 0 in
theorem PySem.Challenge.cw_wholewalks_k02_whole_least_contents_holds : PySem.Challenge.rw_wholewalks_k02_whole_least_contents.Holds := by
  w_on; o_law; k_head; (case hw => w_witness2)
  k_fill
  refine Z9.walk_k (k := 8) (l := PySem.Challenge.rw_wholewalks_k02_whole_least_contents) ⟨rfl, by decide, by decide⟩ rfl rfl (fun w h Y => PySem.W.kIn_of Y) ?F
  case F =>
    intro w mg fa h KX G hmg
    refine' Z9.all_mk KX G hmg ?a0 ?l0 ?c0 ?k0 ?a1 ?l1 ?c1 ?k1 ?a2 ?l2 ?c2 ?k2 ?a3 ?l3 ?c3 ?k3 ?a4 ?l4 ?c4 ?k4 ?a5 ?l5 ?c5 ?k5 ?a6 ?l6 ?c6 ?k6 ?a7 ?l7 ?c7 ?k7 ?a8 ?l8 ?c8 ?k8 ?a9 ?l9 ?c9 ?k9 ?a10 ?l10 ?c10 ?k10 ?a11 ?l11 ?c11 ?k11 ?a12 ?l12 ?c12 ?k12 ?a13 ?l13 ?c13 ?k13 ?a14 ?l14 ?c14 ?k14 ?a15 ?l15 ?c15 ?k15 ?a16 ?l16 ?c16 ?k16 ?a17 ?l17 ?c17 ?k17 ?a18 ?l18 ?c18 ?k18 ?z0 ?z1 ?z2 ?z3 ?z4 ?z5 ?z6 ?z7 ?z8 ?z9 ?z10 ?z11 ?z12 ?z13 ?z14 ?z15 ?z16 ?z17 ?z18 ?v0 ?aC0 ?xC0 ?kC0 ?bC0 ?tC0 ?dC0 ?q0x0
    (case a0 => k_is)
    (case l0 => k_is)
    (case c0 => k_is)
    (case k0 => k_is)
    (case a1 => k_is)
    (case l1 => k_is)
    (case c1 => k_is)
    (case k1 => k_is)
    (case a2 => k_is)
    (case l2 => k_is)
    (case c2 => k_is)
    (case k2 => k_is)
    (case a3 => k_is)
    (case l3 => k_is)
    (case c3 => k_is)
    (case k3 => k_is)
    (case a4 => k_is)
    (case l4 => k_is)
    (case c4 => k_is)
    (case k4 => k_is)
    (case a5 => k_is)
    (case l5 => k_is)
    (case c5 => k_is)
    (case k5 => k_is)
    (case a6 => k_is)
    (case l6 => k_is)
    (case c6 => k_is)
    (case k6 => k_is)
    (case a7 => k_is)
    (case l7 => k_is)
    (case c7 => k_is)
    (case k7 => k_is)
    (case a8 => k_is)
    (case l8 => k_is)
    (case c8 => k_is)
    (case k8 => k_is)
    (case a9 => k_is)
    (case l9 => k_is)
    (case c9 => k_is)
    (case k9 => k_is)
    (case a10 => k_is)
    (case l10 => k_is)
    (case c10 => k_is)
    (case k10 => k_is)
    (case a11 => k_is)
    (case l11 => k_is)
    (case c11 => k_is)
    (case k11 => k_is)
    (case a12 => k_is)
    (case l12 => k_is)
    (case c12 => k_is)
    (case k12 => k_is)
    (case a13 => k_is)
    (case l13 => k_is)
    (case c13 => k_is)
    (case k13 => k_is)
    (case a14 => k_is)
    (case l14 => k_is)
    (case c14 => k_is)
    (case k14 => k_is)
    (case a15 => k_is)
    (case l15 => k_is)
    (case c15 => k_is)
    (case k15 => k_is)
    (case a16 => k_is)
    (case l16 => k_is)
    (case c16 => k_is)
    (case k16 => k_is)
    (case a17 => k_is)
    (case l17 => k_is)
    (case c17 => k_is)
    (case k17 => k_is)
    (case a18 => k_is)
    (case l18 => k_is)
    (case c18 => k_is)
    (case k18 => k_is)
    (case z0 => k_is)
    (case z1 => k_is)
    (case z2 => k_is)
    (case z3 => k_is)
    (case z4 => k_is)
    (case z5 => k_is)
    (case z6 => k_is)
    (case z7 => k_is)
    (case z8 => k_is)
    (case z9 => k_is)
    (case z10 => k_is)
    (case z11 => k_is)
    (case z12 => k_is)
    (case z13 => k_is)
    (case z14 => k_is)
    (case z15 => k_is)
    (case z16 => k_is)
    (case z17 => k_is)
    (case z18 => k_is)
    (case v0 => k_is)
    (case aC0 => k_is)
    (case xC0 => k_exc)
    (case kC0 => k_is)
    (case bC0 => k_is)
    (case tC0 => k_is)
    (case dC0 => k_is)
    (case q0x0 => first | rfl | k_is)
#print axioms PySem.Challenge.cw_wholewalks_k02_whole_least_contents_holds

