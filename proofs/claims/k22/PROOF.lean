import PyProof.Rows.All
import Wide.All
import OpenK.AllK
import Wide.FinOn
import HandS.Text
import HandS.ForExc
import HandS.Comp
import HandS.Dict
import HandS.Iter
import HandS.Flow
import HandS.Wide
import HandS.Deep
import HandS.IsInst
import HandS.ExcInit
import HandS.CallSlots
import HandS.More
import HandS.WordsDict
import KE.DataFind
import HandS.ExcIs
import HandS.TryMany
import HandS.Zip
import HandS.WordsExc
import HandS.New0
import HandS.CallRecv
import HandS.Codes
import KE.GoesMore
import PyProof.Draws
import HandS.Small
import HandS.TryOnly
import KE.KStateDown
import Lean
import HandS.Defaults
import HandS.Head0
import HandS.Head1
import HandS.Head2
import HandS.HeadEnd
import HandS.EndBits
import HandS.HeadHook1
import PyProof.Fits
import PyProof.FitsInt
import PySem.Challenge.RW_leansay_k22_line_of_rows
set_option linter.all false
set_option Elab.async false
set_option maxRecDepth 100000
set_option maxHeartbeats 0
/-! My own value domain, heap, compact program text and interpreter. -/
namespace Q
open PySem (Str)

/-- the classes of the program -/
inductive Cn where
  | SayError | NoText | NoRows | NoLine | NoCall | NoName | NoNumber | TooMany | NoPoint | NoLetter | NoCut
  | Saying | Never | Always | Letter | Not | Fold | More | Less | Greater | Lesser | Leads | Desk
  deriving DecidableEq, Repr

/-- values: immutable things by value, lists and dicts by a place of my heap; lv: a list by value (comparisons alone) -/
inductive D where
  | non | bl (b : Bool) | int (i : Int) | str (s : Str) | tup (ds : List D) | obj (c : Cn) (ds : List D) | ref (n : Nat) | lv (ds : List D)

inductive O where
  | lst (ds : List D) | frz (ds : List D) | dic (t : Bool) (kvs : List (D × D))

abbrev Hs := List O
abbrev Ev := List (Option D)

inductive R (α : Type) where
  | ok (a : α) (h : Hs) | exc (c : Cn) (fs : List D) (h : Hs) | bad

@[reducible] def R.bind {α β : Type} (r : R α) (f : α → Hs → R β) : R β := match r with
  | .ok a h => f a h
  | .exc c fs h => .exc c fs h
  | .bad => .bad
@[simp] theorem R.bind_ok {α β : Type} (a : α) (h : Hs) (f : α → Hs → R β) : R.bind (.ok a h) f = f a h := rfl
@[simp] theorem R.bind_exc {α β : Type} (c : Cn) (fs : List D) (h : Hs) (f : α → Hs → R β) : R.bind (.exc c fs h) f = .exc c fs h := rfl
@[simp] theorem R.bind_bad {α β : Type} (f : α → Hs → R β) : R.bind (.bad : R α) f = .bad := rfl

/-- a statement's end -/
inductive SR where
  | nx (s : Ev) (h : Hs) | rt (d : D) (h : Hs) | bk (s : Ev) (h : Hs) | ct (s : Ev) (h : Hs) | exc (c : Cn) (fs : List D) (s : Ev) (h : Hs) | bad

abbrev S (x : String) : Str := Str.ofString x
/-- the largest size of a list, a text -/
def SZ : Nat := 16777216
/-- factors, divisors, numbers that are written: how many bits at most -/
def mulB (i : Int) : Prop := i.natAbs.log2 < 60000000
def divB (i : Int) : Prop := i.natAbs.log2 < 9000
def strB (i : Int) : Prop := i.natAbs.log2 < 1900
instance (i : Int) : Decidable (mulB i) := inferInstanceAs (Decidable (_ < _))
instance (i : Int) : Decidable (divB i) := inferInstanceAs (Decidable (_ < _))
instance (i : Int) : Decidable (strB i) := inferInstanceAs (Decidable (_ < _))
/-! ### equality -/
def b2i (b : Bool) : Int := if b then 1 else 0
mutual
def deq : D → D → Bool
  | .non, .non => true
  | .bl a, .bl b => a == b
  | .bl a, .int j => b2i a == j
  | .int i, .int j => i == j
  | .int i, .bl b => i == b2i b
  | .str x, .str y => x == y
  | .tup xs, .tup ys => deqs xs ys
  | .lv xs, .lv ys => deqs xs ys
  | _, _ => false
def deqs : List D → List D → Bool
  | [], [] => true
  | x :: xs, y :: ys => deq x y && deqs xs ys
  | _, _ => false
end
mutual
/-- a value by value alone: no objects, no places -/
def pur : D → Bool
  | .tup xs => purs xs
  | .lv xs => purs xs
  | .obj _ _ => false
  | .ref _ => false
  | _ => true
def purs : List D → Bool
  | [] => true
  | x :: xs => pur x && purs xs
end
mutual
/-- the lists within a value read, by f -/
def rsF (f : Nat → Option D) : D → Option D
  | .tup xs => (rsFs f xs).map .tup
  | .ref n => f n
  | .obj _ _ => none
  | .lv _ => none
  | d => some d
def rsFs (f : Nat → Option D) : List D → Option (List D)
  | [] => some []
  | x :: xs => match rsF f x, rsFs f xs with
    | some y, some ys => some (y :: ys)
    | _, _ => none
end
/-- a place read, n lists deep -/
def rdN (h : Hs) : Nat → Nat → Option D
  | 0, _ => none
  | k + 1, n => match h[n]? with
    | some (.lst xs) => (rsFs (rdN h k) xs).map .lv
    | some (.frz xs) => (rsFs (rdN h k) xs).map .lv
    | _ => none
abbrev rsv (h : Hs) (d : D) : Option D := rsF (rdN h 6) d
mutual
/-- how deep a value is -/
def ddep : D → Nat
  | .tup xs => ddeps xs + 1
  | .lv xs => ddeps xs + 1
  | _ => 0
def ddeps : List D → Nat
  | [] => 0
  | x :: xs => max (ddep x) (ddeps xs)
end
def eqv (h : Hs) (a b : D) : Option Bool := match rsv h a, rsv h b with
  | some x, some y => if min (ddep x) (ddep y) ≤ 150 then some (deq x y) else none
  | _, _ => none

/-! ### dicts: pairs in the order of their first store; t: the keys are tuples -/
def sca : D → Bool
  | .int _ => true
  | .str _ => true
  | _ => false
def kOk (t : Bool) (x : D) : Bool := match t, x with
  | false, .int _ => true
  | false, .str _ => true
  | _, _ => false
def dlook (k : D) : List (D × D) → Option D
  | [] => none
  | (a, v) :: r => if deq a k then some v else dlook k r
def dput (k v : D) : List (D × D) → List (D × D)
  | [] => [(k, v)]
  | (a, w) :: r => if deq a k then (a, v) :: r else (a, w) :: dput k v r
def ddel (k : D) : List (D × D) → List (D × D)
  | [] => []
  | (a, w) :: r => if deq a k then r else (a, w) :: ddel k r

/-! ### the text -/
inductive Bop where | add | sub | mul | fdiv | mod | pow deriving DecidableEq
inductive Cop where | lt | le | gt | ge | eq | ne | isin | notin deriving DecidableEq
inductive Ty where | tint | tbool | tstr | ttuple | tlist | tval | own (c : Cn) deriving DecidableEq
/-- built-in functions -/
inductive Bi where | len | abs | min | max | int | str | tuple | list | sum | any | all | sortedset | sorted | lenset deriving DecidableEq
/-- built-in methods -/
inductive Bm where | append | extend | insert | pop | popAt | clear | count | index | split | join | get | dpop | indexFrom deriving DecidableEq

mutual
inductive Ex where
  | v (i : Nat)
  | k (d : D)
  | g (x : String)
  | tup (es : Exs)
  | lst (es : Exs)
  | dic (t : Bool) (es : Exs)
  | bin (o : Bop) (a b : Ex)
  | neg (a : Ex)
  | cmp (o : Cop) (a b : Ex)
  | chn (o p : Cop) (a b c : Ex)
  | isn (a : Ex) (neg : Bool)
  | ist (a : Ex) (b : Bool) (neg : Bool)
  | not (a : Ex)
  | and (es : Exs)
  | or (es : Exs)
  | orv (a : Ex) (b : Ex)
  | ite (c a b : Ex)
  | sub (a i : Ex)
  | slc (a : Ex) (lo hi : Eo)
  | fld (a : Ex) (f : String)
  | call (f : String) (es : Exs)
  | mk (c : Cn) (es : Exs)
  | mth (a : Ex) (m : String) (es : Exs)
  | b (f : Bi) (es : Exs)
  | bm (m : Bm) (a : Ex) (es : Exs)
  | isi (a : Ex) (ts : List Ty)
  | gget (x : String) (a : Ex)
  | gin (a : Ex) (x : String) (neg : Bool)
  | comp (e : Ex) (tg : Tg) (it : It) (c : Eo) (own : List Nat)
  | jst (es : Exs)
inductive Exs where
  | nil
  | cons (e : Ex) (es : Exs)
inductive Eo where
  | none
  | some (e : Ex)
inductive Tg where
  | one (i : Nat)
  | many (is : List Nat)
inductive It where
  | sq (e : Ex)
  | r1 (a : Ex)
  | r2 (a b : Ex)
  | r3 (a b c : Ex)
  | enum (e : Ex)
  | zip (a b : Ex)
  | items (a : Ex)
end
mutual
inductive Sm where
  | pass
  | set (i : Nat) (e : Ex)
  | setT (is : List Nat) (e : Ex)
  | par (i j : Nat) (a b : Ex)
  | setI (o i e : Ex)
  | ex (e : Ex)
  | ret (e : Ex)
  | retN
  | ite (c : Ex) (a b : Bl)
  | whl (c : Ex) (a : Bl)
  | for (tg : Tg) (it : It) (a : Bl)
  | brk
  | cnt
  | raise (c : Cn) (es : Exs)
  | try (a : Bl) (hs : Hds)
inductive Bl where
  | nil
  | cons (s : Sm) (r : Bl)
inductive Hds where
  | nil
  | cons (c : Cn) (i : Option Nat) (b : Bl) (r : Hds)
end

/-- a def: parameters, slots, body -/
structure Fn where
  np : Nat
  ns : Nat
  body : Bl
/-- a program: its defs by name (methods as Class.name), what a method's name means for a class, constants, constant dicts -/
structure Tab where
  fn : String → Option Fn
  meth : Cn → String → Option String
  con : String → Option D
  dic : String → Option (List (Str × D))

/-! ### operations -/
def Bop.run : Bop → D → D → Hs → R D
  | .add, .int i, .int j, h => .ok (.int (i + j)) h
  | .sub, .int i, .int j, h => .ok (.int (i - j)) h
  | .mul, .int i, .int j, h => if mulB i ∧ mulB j then .ok (.int (i * j)) h else .bad
  | .fdiv, .int i, .int j, h => if j ≠ 0 ∧ divB j then .ok (.int (i.fdiv j)) h else .bad
  | .mod, .int i, .int j, h => if j ≠ 0 then .ok (.int (i.fmod j)) h else .bad
  | .pow, .int i, .int j, h => if 0 ≤ j ∧ j ≤ 1000 ∧ i.natAbs < 1000 then .ok (.int (i ^ j.toNat)) h else .bad
  | .add, .str x, .str y, h => if x.length + y.length ≤ SZ then .ok (.str (x ++ y)) h else .bad
  | .add, .tup xs, .tup ys, h => if xs ≠ [] ∧ ys ≠ [] ∧ xs.length + ys.length ≤ SZ then .ok (.tup (xs ++ ys)) h else .bad
  | .add, .ref n, .ref m, h => match h[n]?, h[m]? with
    | some (.lst xs), some (.lst ys) => if xs.length + ys.length ≤ SZ then .ok (.ref h.length) (h ++ [.lst (xs ++ ys)]) else .bad
    | _, _ => .bad
  | .mul, .ref n, .int j, h => match h[n]? with
    | some (.lst xs) => if -(2 ^ 63) ≤ j ∧ j < 2 ^ 63 ∧ xs.length * j.toNat ≤ SZ then .ok (.ref h.length) (h ++ [.lst (List.replicate j.toNat xs).flatten]) else .bad
    | _ => .bad
  | _, _, _, _ => .bad

/-- one sign in a text -/
def signIn (x y : Str) : Option Bool := match x.cps.toList with
  | [c] => some (y.cps.toList.contains c)
  | _ => none
def inSeq (h : Hs) (x : D) : List D → Option Bool
  | [] => (rsv h x).map fun _ => false
  | y :: ys => match eqv h y x, inSeq h x ys with
    | some a, some b => some (a || b)
    | _, _ => none
/-- x in y -/
def isIn (h : Hs) (x y : D) : Option Bool := match y with
  | .tup ys => inSeq h x ys
  | .str y => match x with
    | .str x => signIn x y
    | _ => none
  | .ref n => match h[n]? with
    | some (.lst ys) => inSeq h x ys
    | some (.frz ys) => inSeq h x ys
    | some (.dic t kvs) => if kOk t x then some (dlook x kvs).isSome else none
    | _ => none
  | _ => none
def opt {α : Type} (r : Option α) (f : α → D) (h : Hs) : R D := match r with
  | some a => .ok (f a) h
  | none => .bad
def Cop.run : Cop → D → D → Hs → R D
  | .lt, .int i, .int j, h => .ok (.bl (decide (i < j))) h
  | .le, .int i, .int j, h => .ok (.bl (decide (i ≤ j))) h
  | .gt, .int i, .int j, h => .ok (.bl (decide (j < i))) h
  | .ge, .int i, .int j, h => .ok (.bl (decide (j ≤ i))) h
  | .eq, a, b, h => opt (eqv h a b) D.bl h
  | .ne, a, b, h => opt (eqv h a b) (fun c => D.bl (!c)) h
  | .isin, a, b, h => opt (isIn h a b) D.bl h
  | .notin, a, b, h => opt (isIn h a b) (fun c => D.bl (!c)) h
  | _, _, _, _ => .bad

/-- truth -/
def tru (h : Hs) : D → Option Bool
  | .non => some false
  | .bl b => some b
  | .int i => some (i != 0)
  | .str x => if x.length ≤ SZ then some (x.length != 0) else none
  | .tup xs => some (!xs.isEmpty)
  | .ref n => match h[n]? with
    | some (.lst xs) => some (!xs.isEmpty)
    | some (.dic false xs) => some (!xs.isEmpty)
    | _ => none
  | _ => none

/-- a place of a sequence of n things, from behind where below 0 -/
def ixN (n : Nat) (i : Int) : Option Nat := if 0 ≤ i then (if i < n then some i.toNat else none) else if -(n : Int) ≤ i then some (i + n).toNat else none
def atI {α : Type} (xs : List α) (i : Int) : Option α := (ixN xs.length i).bind fun j => xs[j]?
/-- o[i] -/
def getI (o i : D) (h : Hs) : R D := match o, i with
  | .tup xs, .int i => opt (atI xs i) id h
  | .str x, .int i => if x.length ≤ SZ then opt (atI x.cps.toList i) (fun c => .str ⟨#[c]⟩) h else .bad
  | .ref n, i => match h[n]?, i with
    | some (.lst xs), .int i => opt (atI xs i) id h
    | some (.frz xs), .int i => opt (atI xs i) id h
    | some (.dic t kvs), i => if kOk t i then opt (dlook i kvs) id h else .bad
    | _, _ => .bad
  | _, _ => .bad
/-- o[i] = v -/
def setI (o i v : D) (h : Hs) : Option Hs := match o, i with
  | .ref n, i => match h[n]?, i with
    | some (.lst xs), .int i => (ixN xs.length i).map fun j => h.set n (.lst (xs.set j v))
    | some (.dic t kvs), i => if kOk t i ∧ kvs.length < SZ then some (h.set n (.dic t (dput i v kvs))) else none
    | _, _ => none
  | _, _ => none

/-- a bound of a slice -/
def sIx (n d : Nat) : Option Int → Nat
  | none => d
  | some i => if i < 0 then (i + n).toNat else min i.toNat n
def cut {α : Type} (xs : List α) (lo hi : Option Int) : List α := (xs.drop (sIx xs.length 0 lo)).take (sIx xs.length xs.length hi - sIx xs.length 0 lo)
def slice (o : D) (lo hi : Option Int) (h : Hs) : R D := match o with
  | .tup xs => if sIx xs.length 0 lo = 0 ∧ sIx xs.length xs.length hi = xs.length then .bad else .ok (.tup (cut xs lo hi)) h
  | .str x => if x.length ≤ SZ then .ok (.str ⟨(cut x.cps.toList lo hi).toArray⟩) h else .bad
  | .ref n => match h[n]? with
    | some (.lst xs) => .ok (.ref h.length) (h ++ [.lst (cut xs lo hi)])
    | some (.frz xs) => .ok (.ref h.length) (h ++ [.lst (cut xs lo hi)])
    | _ => .bad
  | _ => .bad

/-- the things of a sequence -/
def itemsOf (h : Hs) : D → Option (List D)
  | .tup xs => some xs
  | .ref n => match h[n]? with
    | some (.lst xs) => some xs
    | some (.frz xs) => some xs
    | _ => none
  | _ => none
/-- the things of a list -/
def listOf (h : Hs) : D → Option (List D)
  | .ref n => match h[n]? with
    | some (.lst xs) => some xs
    | some (.frz xs) => some xs
    | _ => none
  | _ => none
def intsL : List D → Option (List Int)
  | [] => some []
  | .int i :: r => (intsL r).map (i :: ·)
  | _ :: _ => none
def boolsL : List D → Option (List Bool)
  | [] => some []
  | .bl b :: r => (boolsL r).map (b :: ·)
  | _ :: _ => none
def strsL : List D → Option (List Str)
  | [] => some []
  | .str b :: r => (strsL r).map (b :: ·)
  | _ :: _ => none
def leastI : List Int → Int → Int
  | [], m => m
  | x :: xs, m => leastI xs (if x < m then x else m)
def mostI : List Int → Int → Int
  | [], m => m
  | x :: xs, m => mostI xs (if m < x then x else m)
mutual
/-- what is less: intsL, tuples of such, one form alone -/
def dlt : D → D → Option Bool
  | .int i, .int j => some (decide (i < j))
  | .str x, .str y => some (decide (x.cps.toList < y.cps.toList))
  | .tup xs, .tup ys => dlts xs ys
  | _, _ => none
def dlts : List D → List D → Option Bool
  | [], [] => some false
  | x :: xs, y :: ys => match dlt x y with
    | some true => some true
    | some false => if deq x y then dlts xs ys else some false
    | none => none
  | _, _ => none
end
def leastD : List D → D → Option D
  | [], m => some m
  | x :: xs, m => match dlt x m with
    | some c => leastD xs (if c then x else m)
    | none => none
/-- put in order, like ones once -/
def insD (x : D) : List D → Option (List D)
  | [] => some [x]
  | y :: ys => match dlt x y with
    | some true => some (x :: y :: ys)
    | some false => if deq x y then some (y :: ys) else (insD x ys).map (y :: ·)
    | none => none
def sortD : List D → Option (List D)
  | [] => some []
  | x :: xs => (sortD xs).bind (insD x)
/-- each once, the first ones stay -/
def nubD : List D → List D → List D
  | [], acc => acc
  | x :: xs, acc => if acc.any (deq · x) then nubD xs acc else nubD xs (acc ++ [x])
def toStr (i : Int) : Str := S (toString i)
def Bi.run : Bi → List D → Hs → R D
  | .len, [.str x], h => if x.length ≤ SZ then .ok (.int x.length) h else .bad
  | .len, [.tup xs], h => .ok (.int xs.length) h
  | .len, [.ref n], h => match h[n]? with
    | some (.lst xs) => .ok (.int xs.length) h
    | some (.frz xs) => .ok (.int xs.length) h
    | some (.dic false xs) => .ok (.int xs.length) h
    | _ => .bad
  | .abs, [.int i], h => .ok (.int (if i < 0 then -i else i)) h
  | .min, [.int i, .int j], h => .ok (.int (if j < i then j else i)) h
  | .max, [.int i, .int j], h => .ok (.int (if j > i then j else i)) h
  | .min, [d], h => match listOf h d with
    | some (.int i :: xs) => opt (intsL xs) (fun l => .int (leastI l i)) h
    | _ => .bad
  | .max, [d], h => match listOf h d with
    | some (.int i :: xs) => opt (intsL xs) (fun l => .int (mostI l i)) h
    | _ => .bad
  | .int, [.int i], h => .ok (.int i) h
  | .int, [.bl b], h => .ok (.int (b2i b)) h
  | .int, [.str x], h => if x.length ≤ 640 then opt (PySem.intText? x) .int h else .bad
  | .str, [.int i], h => if strB i ∧ PySem.PyData.strOk (toStr i) = true then .ok (.str (toStr i)) h else .bad
  | .tuple, [d], h => opt (itemsOf h d) D.tup h
  | .list, [.tup xs], h => .ok (.ref h.length) (h ++ [.lst xs])
  | .list, [.ref n], h => match h[n]? with
    | some (.lst xs) => .ok (.ref h.length) (h ++ [.lst xs])
    | some (.frz xs) => .ok (.ref h.length) (h ++ [.lst xs])
    | some (.dic false kvs) => .ok (.ref h.length) (h ++ [.lst (kvs.map (·.1))])
    | _ => .bad
  | .sum, [d], h => opt ((listOf h d).bind intsL) (fun l => .int l.sum) h
  | .any, [d], h => opt ((listOf h d).bind boolsL) (fun l => .bl (l.any id)) h
  | .all, [d], h => opt ((listOf h d).bind boolsL) (fun l => .bl (l.all id)) h
  | _, _, _ => .bad

def lenAll : List Str → Nat
  | [] => 0
  | x :: xs => x.length + lenAll xs
/-- what has the method -/
inductive Rk where | l | d | s deriving DecidableEq
def Bm.rk : Bm → Rk
  | .split | .join => .s
  | .get | .dpop => .d
  | _ => .l
def bmK (f : Bm) (x : D) (h : Hs) : Bool := match x with
  | .str _ => f.rk == .s
  | .ref n => match h[n]? with
    | some (.lst _) => f.rk == .l
    | some (.frz _) => f.rk == .l
    | some (.dic _ _) => f.rk == .d
    | none => false
  | _ => false
def bmD {α : Type} (f : Bm) (x : D) (g : Hs → R α) (h : Hs) : R α := if bmK f x h then g h else .bad
def Bm.run : Bm → D → List D → Hs → R D
  | .append, .ref n, [d], h => match h[n]? with
    | some (.lst xs) => if xs.length < SZ then .ok .non (h.set n (.lst (xs ++ [d]))) else .bad
    | _ => .bad
  | .extend, .ref n, [.ref m], h => match h[n]?, h[m]? with
    | some (.lst xs), some (.lst ys) => if xs.length + ys.length ≤ SZ then .ok .non (h.set n (.lst (xs ++ ys))) else .bad
    | _, _ => .bad
  | .insert, .ref n, [.int i, d], h => match h[n]? with
    | some (.lst xs) => if 0 ≤ i ∧ i ≤ xs.length ∧ xs.length < SZ then .ok .non (h.set n (.lst (xs.take i.toNat ++ d :: xs.drop i.toNat))) else .bad
    | _ => .bad
  | .pop, .ref n, [], h => match h[n]? with
    | some (.lst xs) => match xs[xs.length - 1]? with
      | some d => .ok d (h.set n (.lst xs.dropLast))
      | none => .bad
    | _ => .bad
  | .popAt, .ref n, [.int i], h => match h[n]? with
    | some (.lst (x :: r)) => if i = 0 then .ok x (h.set n (.lst r)) else .bad
    | _ => .bad
  | .clear, .ref n, [], h => match h[n]? with
    | some (.lst _) => .ok .non (h.set n (.lst []))
    | _ => .bad
  | .count, .ref n, [d], h => match rdN h 7 n, rsv h d with
    | some (.lv ys), some x => if ddeps ys ≤ 62 ∧ ddep x ≤ 62 then .ok (.int (ys.countP (fun y => deq y x) : Nat)) h else .bad
    | _, _ => .bad
  | .index, .ref n, [d], h => match rdN h 7 n, rsv h d with
    | some (.lv ys), some x => if ddeps ys ≤ 62 ∧ ddep x ≤ 62 then opt (ys.findIdx? fun y => deq y x) (fun n => .int n) h else .bad
    | _, _ => .bad
  | .split, .str x, [.str y], h => if y.length ≠ 0 ∧ x.length + 2 ≤ SZ ∧ (PySem.Txt.split x y).all PySem.PyData.strOk = true then .ok (.ref h.length) (h ++ [.lst ((PySem.Txt.split x y).map .str)]) else .bad
  | .join, .str sep, [d], h => match (itemsOf h d).bind strsL with
    | some l => if (l.map (·.length)).sum + l.length * sep.length ≤ 16777216 ∧ PySem.PyData.strOk (PySem.Txt.join sep l) = true then .ok (.str (PySem.Txt.join sep l)) h else .bad
    | none => .bad
  | .get, .ref n, [k, d], h => match h[n]? with
    | some (.dic t kvs) => if kOk t k then .ok ((dlook k kvs).getD d) h else .bad
    | _ => .bad
  | .dpop, .ref n, [k], h => match h[n]? with
    | some (.dic false kvs) => if kOk false k then (match dlook k kvs with
      | some v => .ok v (h.set n (.dic false (ddel k kvs)))
      | none => .bad) else .bad
    | _ => .bad
  | _, _, _, _ => .bad

/-! ### classes -/
def Cn.up : Cn → Option Cn
  | .SayError | .Saying | .Desk => none
  | .NoText | .NoRows | .NoLine | .NoCall | .NoName | .NoNumber | .TooMany | .NoPoint | .NoLetter | .NoCut => some .SayError
  | .Never | .Always | .Letter | .Not | .Fold => some .Saying
  | .More | .Less | .Greater | .Lesser | .Leads => some .Fold
def Cn.isExc : Cn → Bool
  | .SayError | .NoText | .NoRows | .NoLine | .NoCall | .NoName | .NoNumber | .TooMany | .NoPoint | .NoLetter | .NoCut => true
  | _ => false
/-- c is d or below it -/
def Cn.under (c d : Cn) : Bool := c == d || match c.up with
  | some e => e == d || (match e.up with
    | some f => f == d
    | none => false)
  | none => false
/-- the fields, in the order in which they are given -/
def Cn.flds : Cn → List String
  | .NoText | .NoRows => ["at"]
  | .NoLine => ["word", "at"]
  | .NoCall => ["line"]
  | .NoName => ["name"]
  | .Letter => ["name"]
  | .Not => ["part"]
  | .More | .Less | .Greater | .Lesser | .Leads => ["one", "other"]
  | .Desk => ["kept"]
  | _ => []
def fldOf : List String → List D → String → Option D
  | f :: fs, d :: ds, g => if f = g then some d else fldOf fs ds g
  | _, _, _ => none
/-- exception classes that are made of one text (no own __init__) -/
def Cn.plainExc : Cn → Bool
  | .NoNumber | .TooMany | .NoPoint | .NoLetter | .NoCut | .SayError => true
  | _ => false
/-- is d of the type t -/
def isTy (h : Hs) (d : D) (t : Ty) : Option Bool := match d with
  | .non => some false
  | .bl _ => some (t == .tint || t == .tbool)
  | .int _ => some (t == .tint)
  | .str _ => some (t == .tstr)
  | .tup _ => some (t == .ttuple)
  | .obj c _ => some (match t with
    | .own e => c.under e
    | .tval => c.isExc
    | _ => false)
  | .ref n => match h[n]? with
    | some (.lst _) => some (t == .tlist)
    | some (.frz _) => some (t == .tlist)
    | some (.dic _ _) => some false
    | none => none
  | .lv _ => none
def isTys (h : Hs) (d : D) : List Ty → Option Bool
  | [] => some false
  | t :: ts => match isTy h d t, isTys h d ts with
    | some a, some b => some (a || b)
    | _, _ => none

/-! ### the interpreter -/
/-- a for's target -/
def asg : Tg → D → Ev → Option Ev
  | .one i, d, s => some (s.set i (some d))
  | .many is, .tup ds, s => if is.length = ds.length then some ((is.zip ds).foldl (fun s p => s.set p.1 (some p.2)) s) else none
  | _, _, _ => none
def wipe (s : Ev) : List Nat → Ev
  | [] => s
  | v :: vs => (wipe s vs).set v none
/-- what a for walks: its things, and what must stay true meanwhile -/
structure Walk where
  items : List D
  ok : Hs → Prop
def rangeL (lo : Int) : Nat → List D
  | 0 => []
  | n + 1 => .int lo :: rangeL (lo + 1) n
def rangeC (lo c : Int) : Nat → List D
  | 0 => []
  | n + 1 => .int lo :: rangeC (lo + c) c n
def walkSq (h : Hs) : D → Option Walk
  | .tup xs => some ⟨xs, fun _ => True⟩
  | .ref n => match h[n]? with
    | some (.lst xs) => some ⟨xs, fun h => h[n]? = some (.lst xs)⟩
    | some (.frz xs) => some ⟨xs, fun h => h[n]? = some (.frz xs)⟩
    | _ => none
  | _ => none
def enumL : Nat → List D → List D
  | _, [] => []
  | n, x :: xs => .tup [.int n, x] :: enumL (n + 1) xs
def zipL : List D → List D → List D
  | x :: xs, y :: ys => .tup [x, y] :: zipL xs ys
  | _, _ => []
open Classical in
/-- a for's turns -/
noncomputable def forL (ok : Hs → Prop) (g : D → Ev → Hs → SR) : List D → Ev → Hs → SR
  | [], s, h => if ok h then .nx s h else .bad
  | d :: ds, s, h => if ok h then (match g d s h with
    | .nx s h => forL ok g ds s h
    | .ct s h => forL ok g ds s h
    | .bk s h => .nx s h
    | r => r) else .bad
open Classical in
/-- a comprehension's turns: the element, or nothing -/
noncomputable def compL (ok : Hs → Prop) (g : D → Hs → R (Option D)) : List D → Hs → R (List D)
  | [], h => if ok h then .ok [] h else .bad
  | d :: ds, h => if ok h then (match g d h with
    | .ok r h => (match compL ok g ds h with
      | .ok l h => .ok (match r with
        | some x => x :: l
        | none => l) h
      | _ => .bad)
    | _ => .bad) else .bad
/-- a while, n turns at most -/
def whI (c : Ev → Hs → R Bool) (b : Ev → Hs → SR) : Nat → Ev → Hs → Option SR
  | 0, _, _ => none
  | n + 1, s, h => match c s h with
    | .ok true h => (match b s h with
      | .nx s h => whI c b n s h
      | .ct s h => whI c b n s h
      | .bk s h => some (.nx s h)
      | r => some r)
    | .ok false h => some (.nx s h)
    | .exc e fs h => some (.exc e fs s h)
    | .bad => some .bad
open Classical in
noncomputable def whU (c : Ev → Hs → R Bool) (b : Ev → Hs → SR) (s : Ev) (h : Hs) : SR :=
  if H : ∃ n r, whI c b n s h = some r then H.choose_spec.choose else .bad
theorem whI_mono {c : Ev → Hs → R Bool} {b : Ev → Hs → SR} : ∀ {n m : Nat} {s : Ev} {h : Hs} {r : SR}, whI c b n s h = some r → n ≤ m → whI c b m s h = some r
  | 0, _, _, _, _, e, _ => by cases e
  | n + 1, 0, _, _, _, _, l => by omega
  | n + 1, m + 1, s, h, r, e, l => by
    unfold whI at e ⊢
    cases hc : c s h with
    | ok t h1 =>
      rw [hc] at e
      cases t with
      | true =>
        simp only at e ⊢
        cases hb : b s h1 with
        | nx s2 h2 => rw [hb] at e; exact whI_mono (n := n) e (by omega)
        | ct s2 h2 => rw [hb] at e; exact whI_mono (n := n) e (by omega)
        | bk s2 h2 => rw [hb] at e; exact e
        | rt d h2 => rw [hb] at e; exact e
        | exc c2 fs s2 h2 => rw [hb] at e; exact e
        | bad => rw [hb] at e; exact e
      | false => exact e
    | exc c2 fs h2 => rw [hc] at e; exact e
    | bad => rw [hc] at e; exact e
theorem whI_same {c : Ev → Hs → R Bool} {b : Ev → Hs → SR} {n m : Nat} {s : Ev} {h : Hs} {r q : SR} (e : whI c b n s h = some r) (f : whI c b m s h = some q) : r = q := by
  have e' := whI_mono e (Nat.le_max_left n m)
  have f' := whI_mono f (Nat.le_max_right n m)
  rw [e'] at f'
  exact Option.some.inj f'
theorem whU_of {c : Ev → Hs → R Bool} {b : Ev → Hs → SR} {n : Nat} {s : Ev} {h : Hs} {r : SR} (e : whI c b n s h = some r) : whU c b s h = r := by
  unfold whU
  have H : ∃ n r, whI c b n s h = some r := ⟨n, r, e⟩
  rw [dif_pos H]
  exact whI_same H.choose_spec.choose_spec e
/-- a while, one turn told -/
theorem whU_eq (c : Ev → Hs → R Bool) (b : Ev → Hs → SR) (s : Ev) (h : Hs) : whU c b s h = match c s h with
    | .ok true h => (match b s h with
      | .nx s h => whU c b s h
      | .ct s h => whU c b s h
      | .bk s h => .nx s h
      | r => r)
    | .ok false h => .nx s h
    | .exc e fs h => .exc e fs s h
    | .bad => .bad := by
  have one : ∀ {r}, whI c b 1 s h = some r → whU c b s h = r := fun e => whU_of e
  have inner : ∀ {h1 s2 h2}, c s h = .ok true h1 → (b s h1 = .nx s2 h2 ∨ b s h1 = .ct s2 h2) → whU c b s h = whU c b s2 h2 := by
    intro h1 s2 h2 e1 e2
    by_cases H : ∃ n r, whI c b n s2 h2 = some r
    · obtain ⟨n, r, e⟩ := H
      rw [whU_of e]
      refine whU_of (n := n + 1) ?_
      unfold whI
      rw [e1]
      rcases e2 with e2 | e2 <;> simp only [e2] <;> exact e
    · have H2 : ¬ ∃ n r, whI c b n s h = some r := by
        rintro ⟨n, r, e⟩
        cases n with
        | zero => cases e
        | succ n =>
          unfold whI at e
          rw [e1] at e
          rcases e2 with e2 | e2 <;> simp only [e2] at e <;> exact H ⟨n, r, e⟩
      unfold whU
      rw [dif_neg H, dif_neg H2]
  cases hc : c s h with
  | ok t h1 =>
    cases t with
    | true =>
      simp only
      cases hb : b s h1 with
      | nx s2 h2 => exact inner hc (.inl hb)
      | ct s2 h2 => exact inner hc (.inr hb)
      | bk s2 h2 => exact one (by unfold whI; rw [hc]; simp only [hb])
      | rt d h2 => exact one (by unfold whI; rw [hc]; simp only [hb])
      | exc c2 fs s2 h2 => exact one (by unfold whI; rw [hc]; simp only [hb])
      | bad => exact one (by unfold whI; rw [hc]; simp only [hb])
    | false => exact one (by unfold whI; rw [hc])
  | exc c2 fs h2 => exact one (by unfold whI; rw [hc])
  | bad => exact one (by unfold whI; rw [hc])

/-- where a text is run: the program, what a call does -/
structure Cl where
  T : Tab
  call : String → List D → Hs → R D
def optI : D → Hs → R (Option Int)
  | .int i, h => .ok (some i) h
  | _, _ => .bad
def walkOf (r : Option Walk) (h : Hs) : R Walk := match r with
  | some w => .ok w h
  | none => .bad
def small (i : Int) : Prop := -(2 ^ 62) ≤ i ∧ i < 2 ^ 62
instance (i : Int) : Decidable (small i) := inferInstanceAs (Decidable (_ ∧ _))
def rng1 : D → Hs → R Walk
  | .int j, h => if small j then .ok ⟨rangeL 0 j.toNat, fun _ => True⟩ h else .bad
  | _, _ => .bad
def rng2 : D → D → Hs → R Walk
  | .int i, .int j, h => if small i ∧ small j then .ok ⟨rangeL i (j - i).toNat, fun _ => True⟩ h else .bad
  | _, _, _ => .bad
def rng3 : D → D → D → Hs → R Walk
  | .int i, .int j, .int c, h => if small i ∧ small j ∧ 0 < c ∧ c < 1000 then .ok ⟨rangeC i c ((j - i + c - 1) / c).toNat, fun _ => True⟩ h else .bad
  | _, _, _, _ => .bad
def enumOf (h : Hs) (d : D) : Option Walk := match d with
  | .ref n => (walkSq h (.ref n)).map fun w => ⟨enumL 0 w.items, w.ok⟩
  | .tup xs => some ⟨enumL 0 xs, fun _ => True⟩
  | _ => none
def zipOf (h : Hs) (a b : D) : Option Walk := match a, b with
  | .ref n, .ref m => (match walkSq h (.ref n), walkSq h (.ref m) with
    | some w, some u => some ⟨zipL w.items u.items, fun h => w.ok h ∧ u.ok h⟩
    | _, _ => none)
  | .tup xs, .tup ys => some ⟨zipL xs ys, fun _ => True⟩
  | _, _ => none
def itemsDic (h : Hs) : D → Option Walk
  | .ref n => match h[n]? with
    | some (.dic t kvs) => some ⟨kvs.map fun p => .tup [p.1, p.2], fun h => h[n]? = some (.dic t kvs)⟩
    | _ => none
  | _ => none
/-- a new thing of a class -/
def mkO (c : Cn) (ds : List D) (h : Hs) : R D := match c, ds with
  | .Desk, [] => .ok (.obj .Desk [.ref h.length]) (h ++ [.dic false []])
  | .Desk, _ => .bad
  | c, ds => if ds.length = c.flds.length ∧ c.isExc = false then .ok (.obj c ds) h else .bad
def fldD (f : String) (d : D) (h : Hs) : R D := match d with
  | .obj c ds => opt (fldOf c.flds ds f) id h
  | _ => .bad
def mthD {α : Type} (C : Cl) (m : String) (d : D) (g : String → Hs → R α) (h : Hs) : R α := match d with
  | .obj c _ => (match C.T.meth c m with
    | some f => g f h
    | none => .bad)
  | _ => .bad
def isN : D → Bool
  | .non => true
  | _ => false
def isBl (b : Bool) : D → Bool
  | .bl c => b == c
  | _ => false
def gget (C : Cl) (x : String) (d : D) (h : Hs) : R D := match C.T.dic x, d with
  | some kvs, .str z => opt (kvs.lookup z) id h
  | _, _ => .bad
def gin (C : Cl) (x : String) (neg : Bool) (d : D) (h : Hs) : R D := match C.T.dic x, d with
  | some kvs, .str z => .ok (.bl ((kvs.lookup z).isSome != neg)) h
  | _, _ => .bad
def newDic : List D → Option (List (D × D))
  | [] => some []
  | k :: v :: r => (newDic r).map fun l => (k, v) :: l
  | _ => none
/-- pairs put one behind another -/
def putAll : List (D × D) → List (D × D) → List (D × D)
  | [], acc => acc
  | (k, v) :: r, acc => putAll r (dput k v acc)
def mkDic (t : Bool) (ds : List D) (h : Hs) : R D := match newDic ds with
  | some kvs => if (kvs.map (·.1)).all (kOk t) then .ok (.ref h.length) (h ++ [.dic t (putAll kvs [])]) else .bad
  | none => .bad
def partS : D → Option Str
  | .str x => some x
  | .int i => if strB i then some (toStr i) else none
  | _ => none
def partsS : List D → Option (List Str)
  | [] => some []
  | d :: ds => match partS d, partsS ds with
    | some x, some xs => some (x :: xs)
    | _, _ => none
def catS : List Str → Str
  | [] => S ""
  | x :: xs => x ++ catS xs
/-- a value's truth -/
def truR (x : D) (h : Hs) : R Bool := match tru h x with
  | some c => .ok c h
  | none => .bad
/-- one turn of a comprehension -/
def compG (tg : Tg) (own : List Nat) (c : Ev → Hs → R Bool) (e : Ev → Hs → R D) (s : Ev) (d : D) (h : Hs) : R (Option D) := match asg tg d (wipe s own) with
  | some s2 => (match c s2 h with
    | .ok true h => (match e s2 h with
      | .ok x h => .ok (some x) h
      | _ => .bad)
    | .ok false h => .ok none h
    | _ => .bad)
  | none => .bad
noncomputable def compE (w : Walk) (g : D → Hs → R (Option D)) (h : Hs) : R D := match compL w.ok g w.items h with
  | .ok l h => if w.items.length ≤ SZ then .ok (.ref h.length) (h ++ [.lst l]) else .bad
  | _ => .bad
def negD (x : D) (h : Hs) : R D := match x with
  | .int i => .ok (.int (-i)) h
  | _ => .bad
/-- the second comparison of a chain -/
def chnD (t : D) (f : Hs → R D) (h : Hs) : R D := match t with
  | .bl true => f h
  | .bl false => .ok (.bl false) h
  | _ => .bad
def andD (x : D) (f : Hs → R D) (h : Hs) : R D := match x with
  | .bl true => f h
  | .bl false => .ok (.bl false) h
  | _ => .bad
def orD (x : D) (f : Hs → R D) (h : Hs) : R D := match x with
  | .bl true => .ok (.bl true) h
  | .bl false => f h
  | _ => .bad
def orvD (x : D) (f : Hs → R D) (h : Hs) : R D := match tru h x with
  | some true => .ok x h
  | some false => f h
  | none => .bad
def iteD (x : D) (f g : Hs → R D) (h : Hs) : R D := match tru h x with
  | some true => f h
  | some false => g h
  | none => .bad
def jstD (ds : List D) (h : Hs) : R D := match partsS ds with
  | some l => if lenAll l ≤ SZ then .ok (.str (catS l)) h else .bad
  | none => .bad
def getV (s : Ev) (i : Nat) (h : Hs) : R D := match s[i]? with
  | some (some d) => .ok d h
  | _ => .bad
mutual
noncomputable def evE (C : Cl) : Ex → Ev → Hs → R D
  | .v i, s, h => getV s i h
  | .k d, _, h => .ok d h
  | .g x, _, h => opt (C.T.con x) id h
  | .tup es, s, h => (evs C es s h).bind fun ds h => .ok (.tup ds) h
  | .lst es, s, h => (evs C es s h).bind fun ds h => .ok (.ref h.length) (h ++ [.lst ds])
  | .dic t es, s, h => (evs C es s h).bind fun ds h => mkDic t ds h
  | .bin o a b, s, h => (evE C a s h).bind fun x h => (evE C b s h).bind fun y h => o.run x y h
  | .neg a, s, h => (evE C a s h).bind fun x h => negD x h
  | .cmp o a b, s, h => (evE C a s h).bind fun x h => (evE C b s h).bind fun y h => o.run x y h
  | .chn o p a b c, s, h => (evE C a s h).bind fun x h => (evE C b s h).bind fun y h => (o.run x y h).bind fun t h => chnD t (fun h => (evE C c s h).bind fun z h => p.run y z h) h
  | .isn a n, s, h => (evE C a s h).bind fun x h => .ok (.bl (isN x != n)) h
  | .ist a b n, s, h => (evE C a s h).bind fun x h => .ok (.bl (isBl b x != n)) h
  | .not a, s, h => (evE C a s h).bind fun x h => opt (tru h x) (fun c => .bl (!c)) h
  | .and es, s, h => evAnd C es s h
  | .or es, s, h => evOr C es s h
  | .orv a b, s, h => (evE C a s h).bind fun x h => orvD x (fun h => evE C b s h) h
  | .ite c a b, s, h => (evE C c s h).bind fun x h => iteD x (fun h => evE C a s h) (fun h => evE C b s h) h
  | .sub a i, s, h => (evE C a s h).bind fun x h => (evE C i s h).bind fun y h => getI x y h
  | .slc a lo hi, s, h => (evE C a s h).bind fun x h => (evO C lo s h).bind fun l h => (evO C hi s h).bind fun u h => slice x l u h
  | .fld a f, s, h => (evE C a s h).bind fun x h => fldD f x h
  | .call f es, s, h => (evs C es s h).bind fun ds h => C.call f ds h
  | .mk c es, s, h => (evs C es s h).bind fun ds h => mkO c ds h
  | .mth a m es, s, h => (evE C a s h).bind fun x h => mthD C m x (fun f h => (evs C es s h).bind fun ds h => C.call f (x :: ds) h) h
  | .b f es, s, h => (evs C es s h).bind fun ds h => f.run ds h
  | .bm m a es, s, h => (evE C a s h).bind fun x h => bmD m x (fun h => (evs C es s h).bind fun ds h => m.run x ds h) h
  | .isi a ts, s, h => (evE C a s h).bind fun x h => opt (isTys h x ts) D.bl h
  | .gget x a, s, h => (evE C a s h).bind fun d h => gget C x d h
  | .gin a x n, s, h => (evE C a s h).bind fun d h => gin C x n d h
  | .comp e tg it c own, s, h => (walk C it s h).bind fun w h => compE w (compG tg own (fun s h => evC C c s h) (fun s h => evE C e s h) s) h
  | .jst es, s, h => (evs C es s h).bind fun ds h => jstD ds h
noncomputable def evs (C : Cl) : Exs → Ev → Hs → R (List D)
  | .nil, _, h => .ok [] h
  | .cons e es, s, h => (evE C e s h).bind fun d h => (evs C es s h).bind fun ds h => .ok (d :: ds) h
noncomputable def evAnd (C : Cl) : Exs → Ev → Hs → R D
  | .nil, _, _ => .bad
  | .cons e .nil, s, h => evE C e s h
  | .cons e es, s, h => (evE C e s h).bind fun x h => andD x (fun h => evAnd C es s h) h
noncomputable def evOr (C : Cl) : Exs → Ev → Hs → R D
  | .nil, _, _ => .bad
  | .cons e .nil, s, h => evE C e s h
  | .cons e es, s, h => (evE C e s h).bind fun x h => orD x (fun h => evOr C es s h) h
noncomputable def evC (C : Cl) : Eo → Ev → Hs → R Bool
  | .none, _, h => .ok true h
  | .some e, s, h => (evE C e s h).bind fun x h => truR x h
noncomputable def evO (C : Cl) : Eo → Ev → Hs → R (Option Int)
  | .none, _, h => .ok none h
  | .some e, s, h => (evE C e s h).bind fun d h => optI d h
noncomputable def walk (C : Cl) : It → Ev → Hs → R Walk
  | .sq e, s, h => (evE C e s h).bind fun d h => walkOf (walkSq h d) h
  | .r1 a, s, h => (evE C a s h).bind fun x h => rng1 x h
  | .r2 a b, s, h => (evE C a s h).bind fun x h => (evE C b s h).bind fun y h => rng2 x y h
  | .r3 a b c, s, h => (evE C a s h).bind fun x h => (evE C b s h).bind fun y h => (evE C c s h).bind fun z h => rng3 x y z h
  | .enum e, s, h => (evE C e s h).bind fun d h => walkOf (enumOf h d) h
  | .zip a b, s, h => (evE C a s h).bind fun x h => (evE C b s h).bind fun y h => walkOf (zipOf h x y) h
  | .items e, s, h => (evE C e s h).bind fun d h => walkOf (itemsDic h d) h
end
/-- an expression within a statement -/
@[reducible] def R.st {α : Type} (r : R α) (s : Ev) (f : α → Hs → SR) : SR := match r with
  | .ok a h => f a h
  | .exc c fs h => .exc c fs s h
  | .bad => .bad
@[simp] theorem R.st_ok {α : Type} (a : α) (h : Hs) (s : Ev) (f : α → Hs → SR) : R.st (.ok a h) s f = f a h := rfl
@[simp] theorem R.st_exc {α : Type} (c : Cn) (fs : List D) (h : Hs) (s : Ev) (f : α → Hs → SR) : R.st (.exc c fs h) s f = .exc c fs s h := rfl
@[simp] theorem R.st_bad {α : Type} (s : Ev) (f : α → Hs → SR) : R.st (.bad : R α) s f = .bad := rfl
/-- a test -/
noncomputable def evT (C : Cl) (e : Ex) (s : Ev) (h : Hs) : R Bool := (evE C e s h).bind fun x h => truR x h
/-- what is unpacked -/
def unp (n : Nat) (d : D) (h : Hs) : Option (List D) := match itemsOf h d with
  | some ds => if ds.length = n then some ds else none
  | none => none
def setAll (s : Ev) : List Nat → List D → Ev
  | i :: is, d :: ds => setAll (s.set i (some d)) is ds
  | _, _ => s
/-- what is raised -/
def excO (c : Cn) (ds : List D) : Option (List D) := if c.plainExc then (match ds with
  | [.str _] => some []
  | _ => none) else if c.isExc ∧ ds.length = c.flds.length then some ds else none
def setTR (is : List Nat) (d : D) (s : Ev) (h : Hs) : SR := match unp is.length d h with
  | some ds => .nx (setAll s is ds) h
  | none => .bad
def setIR (x y d : D) (s : Ev) (h : Hs) : SR := match setI x y d h with
  | some h => .nx s h
  | none => .bad
def forG (tg : Tg) (b : Ev → Hs → SR) (d : D) (s : Ev) (h : Hs) : SR := match asg tg d s with
  | some s => b s h
  | none => .bad
def raiseR (c : Cn) (ds : List D) (s : Ev) (h : Hs) : SR := match excO c ds with
  | some fs => .exc c fs s h
  | none => .bad
@[reducible] def SR.then (r : SR) (f : Ev → Hs → SR) : SR := match r with
  | .nx s h => f s h
  | .rt d h => .rt d h
  | .bk s h => .bk s h
  | .ct s h => .ct s h
  | .exc c fs s h => .exc c fs s h
  | .bad => .bad
@[reducible] def SR.caught (r : SR) (f : Cn → List D → Ev → Hs → SR) : SR := match r with
  | .exc c fs s h => f c fs s h
  | .nx s h => .nx s h
  | .rt d h => .rt d h
  | .bk s h => .bk s h
  | .ct s h => .ct s h
  | .bad => .bad
/-- an except's suite; i: the name's place -/
def suite (i : Option Nat) (c : Cn) (fs : List D) (s : Ev) (b : Ev → Hs → SR) (h : Hs) : SR := match i with
  | some i => (match b (s.set i (some (.obj c fs))) h with
    | .nx s h => .nx (s.set i none) h
    | .rt d h => .rt d h
    | _ => .bad)
  | none => (match b s h with
    | .nx s h => .nx s h
    | .rt d h => .rt d h
    | _ => .bad)
mutual
noncomputable def exS (C : Cl) : Sm → Ev → Hs → SR
  | .pass, s, h => .nx s h
  | .set i e, s, h => (evE C e s h).st s fun d h => .nx (s.set i (some d)) h
  | .setT is e, s, h => (evE C e s h).st s fun d h => setTR is d s h
  | .par i j a b, s, h => (evE C a s h).st s fun x h => (evE C b s h).st s fun y h => .nx ((s.set i (some x)).set j (some y)) h
  | .setI o i e, s, h => (evE C e s h).st s fun d h => (evE C o s h).st s fun x h => (evE C i s h).st s fun y h => setIR x y d s h
  | .ex e, s, h => (evE C e s h).st s fun _ h => .nx s h
  | .ret e, s, h => (evE C e s h).st s fun d h => .rt d h
  | .retN, _, h => .rt .non h
  | .ite c a b, s, h => (evT C c s h).st s fun t h => if t then exB C a s h else exB C b s h
  | .whl c a, s, h => whU (fun s h => evT C c s h) (fun s h => exB C a s h) s h
  | .for tg it a, s, h => (walk C it s h).st s fun w h => forL w.ok (forG tg (fun s h => exB C a s h)) w.items s h
  | .brk, s, h => .bk s h
  | .cnt, s, h => .ct s h
  | .raise c es, s, h => (evs C es s h).st s fun ds h => raiseR c ds s h
  | .try a hs, s, h => (exB C a s h).caught fun c fs s h => exH C hs c fs s h
noncomputable def exB (C : Cl) : Bl → Ev → Hs → SR
  | .nil, s, h => .nx s h
  | .cons x r, s, h => (exS C x s h).then fun s h => exB C r s h
noncomputable def exH (C : Cl) : Hds → Cn → List D → Ev → Hs → SR
  | .nil, c, fs, s, h => .exc c fs s h
  | .cons d i b r, c, fs, s, h => if c.under d then suite i c fs s (fun s h => exB C b s h) h else exH C r c fs s h
end
/-- a def's end -/
def SR.fin : SR → R D
  | .nx _ h => .ok .non h
  | .rt d h => .ok d h
  | .exc c fs _ h => .exc c fs h
  | _ => .bad
def start (n : Nat) (ds : List D) : Ev := ds.map some ++ List.replicate (n - ds.length) none
/-- a call, k calls deep at most -/
noncomputable def call (T : Tab) : Nat → String → List D → Hs → R D
  | 0, _, _, _ => .bad
  | k + 1, f, ds, h => match T.fn f with
    | some g => if ds.length = g.np then (exB ⟨T, call T k⟩ g.body (start g.ns ds) h).fin else .bad
    | none => .bad
end Q

/-! how my values and my heap stand for those of the layer -/
namespace Q
open PySem PySem.Spec PyProof.Rows L2

/-- the static world: the written part, the classes -/
structure Wd where
  K : PySem.W.Frag
  C : Cn → Addr
  has : Cn → Bool

/-- an exception that was caught: kept by the layer's heap -/
def exT (a C : Addr) (d : Option Addr) : HO := .ext fun h => ∃ oe vs, h.get? a = some oe ∧ oe.cls = .ref C ∧ oe.dict = d ∧ oe.data = .fields vs

def TupAt (W : Wd) (r : List Addr) (H : Hp) (a : Addr) (vs : List V) : Prop :=
  (H a = some (.tup vs) ∧ a ∉ r) ∨ (∃ (o : Obj) (its : Array Value) (n : Nat), W.K.lookup a = some o ∧ o.cls = .type "tuple" ∧ o.data = .seq its n ∧ its.size ≤ sizeLine ∧ Vals vs its.toList)
theorem TupAt.sq {W : Wd} {r : List Addr} {H : Hp} {a : Addr} {vs : List V} (h : TupAt W r H a vs) : SqT W.K H a vs := by
  rcases h with h | h
  · exact .inl (.inl h.1)
  · exact .inr h
/-- a field's name -/
def fN (f : String) : Str := Str.ofString f
/-- the attributes of a thing, as they were put -/
def zipF : List String → List V → List (Str × V)
  | f :: fs, v :: vs => (fN f, v) :: zipF fs vs
  | _, _ => []
def LkAll : List String → List V → List (Str × V) → Prop
  | f :: fs, v :: vs, l => l.lookup (fN f) = some v ∧ LkAll fs vs l
  | _, _, _ => True

mutual
inductive Rv (W : Wd) (r : List Addr) (H : Hp) : D → V → Prop where
  | non : Rv W r H .non .non
  | bl (b : Bool) : Rv W r H (.bl b) (.bl b)
  | int (i : Int) : Rv W r H (.int i) (.int i)
  | str (x : Str) (k : PyData.strOk x = true) : Rv W r H (.str x) (.str x)
  | tup {ds : List D} {vs : List V} {a : Addr} (h : TupAt W r H a vs) (e : Rvs W r H ds vs) : Rv W r H (.tup ds) (.ref a)
  | obj {c : Cn} {ds : List D} {vs : List V} {a dx : Addr} (pr : W.has c = true) (x : c.isExc = false) (h : H a = some (.ins (W.C c) dx (zipF c.flds vs))) (n : a ∉ r) (l : ds.length = c.flds.length) (e : Rvs W r H ds vs) : Rv W r H (.obj c ds) (.ref a)
  | exc0 {c : Cn} {a : Addr} (pr : W.has c = true) (x : c.isExc = true) (f : c.flds = []) (h : H a = some (exT a (W.C c) none)) (n : a ∉ r) : Rv W r H (.obj c []) (.ref a)
  | exc1 {c : Cn} {ds : List D} {vs : List V} {a dx : Addr} {l : List (Str × V)} (pr : W.has c = true) (x : c.isExc = true) (h : H a = some (exT a (W.C c) (some dx))) (n : a ∉ r) (hd : H dx = some (.xd l)) (nd : dx ∉ r) (e : Rvs W r H ds vs) (k : LkAll c.flds vs l)
      (ll : ds.length = c.flds.length) : Rv W r H (.obj c ds) (.ref a)
  | ref {n : Nat} {a : Addr} (h : r[n]? = some a) : Rv W r H (.ref n) (.ref a)
inductive Rvs (W : Wd) (r : List Addr) (H : Hp) : List D → List V → Prop where
  | nil : Rvs W r H [] []
  | cons {d : D} {ds : List D} {v : V} {vs : List V} (h : Rv W r H d v) (t : Rvs W r H ds vs) : Rvs W r H (d :: ds) (v :: vs)
end

/-- what goes on: further places, all else that is known stays -/
structure Ext (r : List Addr) (H : Hp) (r' : List Addr) (H' : Hp) : Prop where
  pre : ∃ e, r' = r ++ e
  keep : ∀ a o, H a = some o → a ∉ r → H' a = some o ∧ a ∉ r'
theorem Ext.refl (r : List Addr) (H : Hp) : Ext r H r H := ⟨⟨[], by simp⟩, fun a o h n => ⟨h, n⟩⟩
theorem Ext.trans {r r1 r2 : List Addr} {H H1 H2 : Hp} (a : Ext r H r1 H1) (b : Ext r1 H1 r2 H2) : Ext r H r2 H2 := by
  obtain ⟨⟨e, rfl⟩, k⟩ := a
  obtain ⟨⟨f, rfl⟩, k2⟩ := b
  exact ⟨⟨e ++ f, by simp⟩, fun c o h n => let ⟨h1, n1⟩ := k c o h n; k2 c o h1 n1⟩
theorem Ext.at {r r' : List Addr} {H H' : Hp} (x : Ext r H r' H') {n : Nat} {a : Addr} (h : r[n]? = some a) : r'[n]? = some a := by
  obtain ⟨⟨e, rfl⟩, _⟩ := x
  rw [List.getElem?_append_left (by have := List.getElem?_eq_some_iff.mp h; exact this.1)]
  exact h
theorem TupAt.mono {W : Wd} {r r' : List Addr} {H H' : Hp} {a : Addr} {vs : List V} (h : TupAt W r H a vs) (x : Ext r H r' H') : TupAt W r' H' a vs := by
  rcases h with ⟨h, n⟩ | h
  · exact .inl (x.keep a _ h n)
  · exact .inr h
mutual
theorem Rv.mono {W : Wd} {r r' : List Addr} {H H' : Hp} {d : D} {v : V} (h : Rv W r H d v) (x : Ext r H r' H') : Rv W r' H' d v := by
  cases h with
  | non => exact .non
  | bl b => exact .bl b
  | int i => exact .int i
  | str y k => exact .str y k
  | tup h e => exact .tup (h.mono x) (Rvs.mono e x)
  | obj pr xx h n l e => exact .obj pr xx (x.keep _ _ h n).1 (x.keep _ _ h n).2 l (Rvs.mono e x)
  | exc0 pr xx f h n => exact .exc0 pr xx f (x.keep _ _ h n).1 (x.keep _ _ h n).2
  | exc1 pr xx h n hd nd e k ll => exact .exc1 pr xx (x.keep _ _ h n).1 (x.keep _ _ h n).2 (x.keep _ _ hd nd).1 (x.keep _ _ hd nd).2 (Rvs.mono e x) k ll
  | ref h => exact .ref (x.at h)
theorem Rvs.mono {W : Wd} {r r' : List Addr} {H H' : Hp} {d : List D} {v : List V} (h : Rvs W r H d v) (x : Ext r H r' H') : Rvs W r' H' d v := by
  cases h with
  | nil => exact .nil
  | cons h t => exact .cons (Rv.mono h x) (Rvs.mono t x)
end
theorem Rvs.length {W : Wd} {r : List Addr} {H : Hp} : ∀ {d : List D} {v : List V}, Rvs W r H d v → v.length = d.length
  | _, _, .nil => rfl
  | _, _, .cons h t => by rw [List.length_cons, List.length_cons, Rvs.length t]
theorem Rvs.get {W : Wd} {r : List Addr} {H : Hp} : ∀ {ds : List D} {vs : List V} {i : Nat} {d : D}, Rvs W r H ds vs → ds[i]? = some d → ∃ v, vs[i]? = some v ∧ Rv W r H d v
  | _, _, _, _, .nil, e => by simp at e
  | _, _, 0, _, .cons h t, e => by
    simp at e
    subst e
    exact ⟨_, rfl, h⟩
  | _, _, i + 1, d, .cons h t, e => by
    obtain ⟨v, e1, e2⟩ := Rvs.get (i := i) (d := d) t (by simpa using e)
    exact ⟨v, by simpa using e1, e2⟩
theorem Rvs.append {W : Wd} {r : List Addr} {H : Hp} : ∀ {ds es : List D} {vs us : List V}, Rvs W r H ds vs → Rvs W r H es us → Rvs W r H (ds ++ es) (vs ++ us)
  | _, _, _, _, .nil, s => s
  | _, _, _, _, .cons h t, s => .cons h (Rvs.append t s)
theorem Rvs.set {W : Wd} {r : List Addr} {H : Hp} {d : D} {v : V} (x : Rv W r H d v) : ∀ {ds : List D} {vs : List V} (i : Nat), Rvs W r H ds vs → Rvs W r H (ds.set i d) (vs.set i v)
  | _, _, _, .nil => .nil
  | _, _, 0, .cons h t => .cons x t
  | _, _, i + 1, .cons h t => .cons h (Rvs.set x i t)
theorem Rvs.drop {W : Wd} {r : List Addr} {H : Hp} : ∀ {ds : List D} {vs : List V} (i : Nat), Rvs W r H ds vs → Rvs W r H (ds.drop i) (vs.drop i)
  | _, _, 0, h => h
  | _, _, _ + 1, .nil => .nil
  | _, _, i + 1, .cons h t => Rvs.drop i t
theorem Rvs.take {W : Wd} {r : List Addr} {H : Hp} : ∀ {ds : List D} {vs : List V} (i : Nat), Rvs W r H ds vs → Rvs W r H (ds.take i) (vs.take i)
  | _, _, 0, _ => .nil
  | _, _, _ + 1, .nil => .nil
  | _, _, i + 1, .cons h t => .cons h (Rvs.take i t)
theorem Rvs.rep {W : Wd} {r : List Addr} {H : Hp} {ds : List D} {vs : List V} (h : Rvs W r H ds vs) : ∀ n : Nat, Rvs W r H (List.replicate n ds).flatten (List.replicate n vs).flatten
  | 0 => .nil
  | n + 1 => by
    rw [List.replicate_succ, List.replicate_succ, List.flatten_cons, List.flatten_cons]
    exact h.append (Rvs.rep h n)
theorem Rvs.dropLast {W : Wd} {r : List Addr} {H : Hp} {ds : List D} {vs : List V} (h : Rvs W r H ds vs) : Rvs W r H ds.dropLast vs.dropLast := by
  rw [List.dropLast_eq_take, List.dropLast_eq_take, h.length]
  exact h.take _

/-! ### the heap -/
def keyD : Key → D
  | .inl i => .int i
  | .inr x => .str x
def OAt (W : Wd) (r : List Addr) (H : Hp) (a : Addr) : O → Prop
  | .lst ds => ∃ vs, H a = some (.lst vs) ∧ Rvs W r H ds vs
  | .frz ds => ∃ ob vs, H a = some (.frz ob (.lst vs)) ∧ Rvs W r H ds vs
  | .dic false kvs => ∃ (ks : List Key) (ds : List D) (vs : List V), H a = some (.dK (ks.zip vs)) ∧ kvs = (ks.map keyD).zip ds ∧ ks.length = ds.length ∧ (ks.Nodup ∧ ∀ x : Str, Sum.inr x ∈ ks → PyData.strOk x = true) ∧ Rvs W r H ds vs
  | .dic true kvs => ∃ (ks : List (List Key)) (ds : List D) (vs : List V), H a = some (.dT (ks.zip vs)) ∧ kvs = (ks.map fun k => D.tup (k.map keyD)).zip ds ∧ ks.length = ds.length ∧ ks.Nodup ∧ Rvs W r H ds vs
theorem OAt.there {W : Wd} {r : List Addr} {H : Hp} {a : Addr} {o : O} (h : OAt W r H a o) : ∃ u, H a = some u := by
  cases o with
  | lst ds => obtain ⟨vs, e, _⟩ := h; exact ⟨_, e⟩
  | frz ds => obtain ⟨ob, vs, e, _⟩ := h; exact ⟨_, e⟩
  | dic t kvs =>
    cases t with
    | false => obtain ⟨ks, ds, vs, e, _⟩ := h; exact ⟨_, e⟩
    | true => obtain ⟨ks, ds, vs, e, _⟩ := h; exact ⟨_, e⟩
/-- the places stand for my heap -/
structure Mt (W : Wd) (r : List Addr) (H : Hp) (hs : Hs) : Prop where
  len : r.length = hs.length
  nd : r.Nodup
  at_ : ∀ (n : Nat) (a : Addr) (o : O), r[n]? = some a → hs[n]? = some o → OAt W r H a o
theorem OAt.mono {W : Wd} {r r' : List Addr} {H H' : Hp} {a : Addr} {o : O} (h : OAt W r H a o) (x : Ext r H r' H') (e : H' a = H a) : OAt W r' H' a o := by
  cases o with
  | lst ds => obtain ⟨vs, q, k⟩ := h; exact ⟨vs, e.trans q, k.mono x⟩
  | frz ds => obtain ⟨ob, vs, q, k⟩ := h; exact ⟨ob, vs, e.trans q, k.mono x⟩
  | dic t kvs =>
    cases t with
    | false => obtain ⟨ks, ds, vs, q, k1, k2, k4, k3⟩ := h; exact ⟨ks, ds, vs, e.trans q, k1, k2, k4, k3.mono x⟩
    | true => obtain ⟨ks, ds, vs, q, k1, k2, k4, k3⟩ := h; exact ⟨ks, ds, vs, e.trans q, k1, k2, k4, k3.mono x⟩
section
variable {W : Wd} {r : List Addr} {H : Hp} {hs : Hs}
theorem Mt.get (m : Mt W r H hs) {n : Nat} {o : O} (h : hs[n]? = some o) : ∃ a, r[n]? = some a ∧ OAt W r H a o := by
  have hn := (List.getElem?_eq_some_iff.mp h).1
  rw [← m.len] at hn
  exact ⟨r[n], List.getElem?_eq_getElem hn, m.at_ n _ o (List.getElem?_eq_getElem hn) h⟩
theorem Mt.atR (m : Mt W r H hs) {n : Nat} {a : Addr} (h : r[n]? = some a) : ∃ o, hs[n]? = some o ∧ OAt W r H a o := by
  have hn := (List.getElem?_eq_some_iff.mp h).1
  rw [m.len] at hn
  exact ⟨hs[n], List.getElem?_eq_getElem hn, m.at_ n a _ h (List.getElem?_eq_getElem hn)⟩
theorem Mt.notNew (m : Mt W r H hs) {p : Addr} (h : H p = none) : p ∉ r := fun q => by
  obtain ⟨n, hn, e⟩ := List.mem_iff_getElem.mp q
  obtain ⟨o, _, t⟩ := m.atR (n := n) (a := p) (by rw [List.getElem?_eq_getElem hn, e])
  obtain ⟨u, e2⟩ := t.there
  rw [h] at e2
  cases e2
/-- a new thing that is no place of mine -/
theorem ext_new {p : Addr} (h : H p = none) (o : HO) : Ext r H r (upd H p o) := ⟨⟨[], by simp⟩, fun a u e n => ⟨by rw [upd_ne (ne_of_none e h)]; exact e, n⟩⟩
theorem Mt.new (m : Mt W r H hs) {p : Addr} (h : H p = none) (o : HO) : Mt W r (upd H p o) hs := ⟨m.len, m.nd, fun n a u h1 h2 => by
  obtain t := m.at_ n a u h1 h2
  obtain ⟨v, e⟩ := t.there
  exact t.mono (ext_new h o) (by rw [upd_ne (ne_of_none e h)])⟩
/-- a new place -/
theorem ext_push (m : Mt W r H hs) {p : Addr} (h : H p = none) (o : HO) : Ext r H (r ++ [p]) (upd H p o) := ⟨⟨[p], rfl⟩, fun a u e n => by
  have ne := ne_of_none e h
  refine ⟨by rw [upd_ne ne]; exact e, fun q => ?_⟩
  rcases List.mem_append.mp q with q | q
  · exact n q
  · exact ne (List.mem_singleton.mp q)⟩
theorem Mt.push (m : Mt W r H hs) {p : Addr} {o : HO} {u : O} (h : H p = none) (t : OAt W (r ++ [p]) (upd H p o) p u) : Mt W (r ++ [p]) (upd H p o) (hs ++ [u]) := by
  have hp := m.notNew h
  refine ⟨by simp [m.len], ?_, fun n a v h1 h2 => ?_⟩
  · rw [List.nodup_append]
    refine ⟨m.nd, by simp, fun a ha b hb e => ?_⟩
    rw [List.mem_singleton] at hb
    subst e
    rw [hb] at ha
    exact hp ha
  · by_cases hn : n < r.length
    · rw [List.getElem?_append_left hn] at h1
      rw [List.getElem?_append_left (by rw [← m.len]; exact hn)] at h2
      obtain t := m.at_ n a v h1 h2
      obtain ⟨w, e⟩ := t.there
      exact t.mono (ext_push m h o) (by rw [upd_ne (ne_of_none e h)])
    · rw [List.getElem?_append_right (by omega)] at h1
      rw [List.getElem?_append_right (by rw [← m.len]; omega)] at h2
      rw [m.len] at h1
      cases e : n - hs.length with
      | zero =>
        rw [e] at h1 h2
        simp at h1 h2
        subst h1 h2
        exact t
      | succ k =>
        rw [e] at h1
        simp at h1
/-- a place is written -/
theorem ext_set (m : Mt W r H hs) {n : Nat} {p : Addr} (h : r[n]? = some p) (o : HO) : Ext r H r (upd H p o) := ⟨⟨[], by simp⟩, fun a u e q => by
  have ne : a ≠ p := fun z => q (by rw [z]; exact List.mem_of_getElem? h)
  exact ⟨by rw [upd_ne ne]; exact e, q⟩⟩
theorem Mt.set (m : Mt W r H hs) {n : Nat} {p : Addr} {o : HO} {u : O} (h : r[n]? = some p) (t : OAt W r (upd H p o) p u) : Mt W r (upd H p o) (hs.set n u) := by
  refine ⟨by simp [m.len], m.nd, fun k a v h1 h2 => ?_⟩
  have hn := (List.getElem?_eq_some_iff.mp h).1
  by_cases hk : k = n
  · subst hk
    rw [h] at h1
    cases h1
    rw [List.getElem?_set_self (by rw [← m.len]; exact hn)] at h2
    cases h2
    exact t
  · rw [List.getElem?_set_ne (Ne.symm hk)] at h2
    have ne : a ≠ p := fun z => hk (by
      have h1' := List.getElem?_eq_some_iff.mp h1
      have h' := List.getElem?_eq_some_iff.mp h
      exact (List.getElem_inj m.nd).mp (by rw [h1'.2, h'.2, z]))
    obtain t := m.at_ k a v h1 h2
    exact t.mono (ext_set m h o) (by rw [upd_ne ne])
end

/-- the frame's values -/
def EnvR (W : Wd) (r : List Addr) (H : Hp) (s : Ev) (σ : L2.St) : Prop := s.length = σ.length ∧ ∀ (i : Nat) (d : D), s[i]? = some (some d) → ∃ v, σ[i]? = some (some v) ∧ Rv W r H d v
theorem EnvR.mono {W : Wd} {r r' : List Addr} {H H' : Hp} {s : Ev} {σ : L2.St} (h : EnvR W r H s σ) (x : Ext r H r' H') : EnvR W r' H' s σ := ⟨h.1, fun i d e => by
  obtain ⟨v, e1, e2⟩ := h.2 i d e
  exact ⟨v, e1, e2.mono x⟩⟩
theorem EnvR.set {W : Wd} {r : List Addr} {H : Hp} {s : Ev} {σ : L2.St} (h : EnvR W r H s σ) {d : D} {v : V} (x : Rv W r H d v) (i : Nat) : EnvR W r H (s.set i (some d)) (σ.set i (some v)) := by
  refine ⟨by simp [h.1], fun j e hj => ?_⟩
  by_cases hi : j = i
  · subst hi
    have hl : j < s.length := by
      by_cases hl : j < s.length
      · exact hl
      · rw [List.getElem?_eq_none (by simpa using hl)] at hj
        cases hj
    rw [List.getElem?_set_self hl] at hj
    cases hj
    exact ⟨v, by rw [List.getElem?_set_self (by rw [← h.1]; exact hl)], x⟩
  · rw [List.getElem?_set_ne (Ne.symm hi)] at hj ⊢
    exact h.2 j e hj
theorem EnvR.gone {W : Wd} {r : List Addr} {H : Hp} {s : Ev} {σ : L2.St} (h : EnvR W r H s σ) (i : Nat) : EnvR W r H (s.set i none) (σ.set i none) := by
  refine ⟨by simp [h.1], fun j e hj => ?_⟩
  by_cases hi : j = i
  · subst hi
    by_cases hl : j < s.length
    · rw [List.getElem?_set_self hl] at hj
      cases hj
    · rw [List.getElem?_eq_none (by simpa using hl)] at hj
      cases hj
  · rw [List.getElem?_set_ne (Ne.symm hi)] at hj ⊢
    exact h.2 j e hj

/-- an exception as it leaves -/
def ExR (W : Wd) (r : List Addr) (H : Hp) (c : Cn) (fs : List D) (cls : Value) (dx : Option Addr) : Prop :=
  (c.isExc = true ∧ W.has c = true) ∧ cls = .ref (W.C c) ∧ ((c.flds = [] ∧ fs = [] ∧ dx = none) ∨
    ∃ (d : Addr) (l : List (Str × V)) (vs : List V), dx = some d ∧ H d = some (.xd l) ∧ d ∉ r ∧ Rvs W r H fs vs ∧ LkAll c.flds vs l ∧ fs.length = c.flds.length)
theorem ExR.mono {W : Wd} {r r' : List Addr} {H H' : Hp} {c : Cn} {fs : List D} {cls : Value} {dx : Option Addr} (h : ExR W r H c fs cls dx) (x : Ext r H r' H') : ExR W r' H' c fs cls dx := by
  obtain ⟨h1, h2, h3⟩ := h
  refine ⟨h1, h2, ?_⟩
  rcases h3 with h3 | ⟨d, l, vs, e1, e2, e3, e4, e5, e6⟩
  · exact .inl h3
  · exact .inr ⟨d, l, vs, e1, (x.keep _ _ e2 e3).1, (x.keep _ _ e2 e3).2, e4.mono x, e5, e6⟩

/-- what is wanted behind my result -/
def Post {α β : Type} (rel : List Addr → Hp → α → β → Prop) (W : Wd) (X : WX) (σ : L2.St) (r : List Addr) (H : Hp) (res : R α) (Q : β → Hp → Prop) : Prop := match res with
  | .ok d hs' => ∀ r' H' v, Ext r H r' H' → Mt W r' H' hs' → rel r' H' d v → Q v H'
  | .exc c fs hs' => ∀ r' H' cls dx, Ext r H r' H' → Mt W r' H' hs' → ExR W r' H' c fs cls dx → X cls dx σ H'
  | .bad => False
theorem Post.mono {α β : Type} {rel : List Addr → Hp → α → β → Prop} {W : Wd} {X : WX} {σ : L2.St} {r r' : List Addr} {H H' : Hp} {res : R α} {Q Q' : β → Hp → Prop} (p : Post rel W X σ r H res Q) (x : Ext r H r' H') (hQ : ∀ v H, Q v H → Q' v H) :
    Post rel W X σ r' H' res Q' := by
  cases res with
  | ok d hs' => exact fun r2 H2 v x2 m rv => hQ _ _ (p r2 H2 v (x.trans x2) m rv)
  | exc c fs hs' => exact fun r2 H2 cls dx x2 m e => p r2 H2 cls dx (x.trans x2) m e
  | bad => exact p
/-- a reading of the layer's, from a function of mine -/
def rd {α β : Type} (rel : List Addr → Hp → α → β → Prop) (W : Wd) (X : WX) (f : Ev → Hs → R α) : L2.St → Hp → (β → Hp → Prop) → Prop :=
  fun σ H Q => ∃ r hs s, Mt W r H hs ∧ EnvR W r H s σ ∧ Post rel W X σ r H (f s hs) Q
abbrev rdE (W : Wd) (X : WX) (f : Ev → Hs → R D) : TE := rd (Rv W) W X f
abbrev rdA (W : Wd) (X : WX) (f : Ev → Hs → R (List D)) : TA := rd (Rvs W) W X f
abbrev rdT (W : Wd) (X : WX) (f : Ev → Hs → R Bool) : TT := rd (fun _ _ (a b : Bool) => a = b) W X f
/-- one thing behind another -/
theorem rd_bind {α β γ δ : Type} {rel : List Addr → Hp → α → β → Prop} {rel2 : List Addr → Hp → γ → δ → Prop} {W : Wd} {X : WX} {f : Ev → Hs → R α} {g : α → Hs → R γ} {σ : L2.St} {H : Hp} {r : List Addr} {hs : Hs} {s : Ev} {Q : δ → Hp → Prop} {K : β → Hp → Prop}
    (m : Mt W r H hs) (e : EnvR W r H s σ) (p : Post rel2 W X σ r H ((f s hs).bind g) Q)
    (k : ∀ d r1 H1 hs1 v, Ext r H r1 H1 → Mt W r1 H1 hs1 → EnvR W r1 H1 s σ → rel r1 H1 d v → f s hs = .ok d hs1 → Post rel2 W X σ r1 H1 (g d hs1) Q → K v H1) : rd rel W X f σ H K := by
  refine ⟨r, hs, s, m, e, ?_⟩
  cases q : f s hs with
  | ok d hs1 =>
    rw [q] at p
    exact fun r' H' v x m' rv => k d r' H' hs1 v x m' (e.mono x) rv q (p.mono x fun _ _ z => z)
  | exc c fs hs1 =>
    rw [q] at p
    exact p
  | bad =>
    rw [q] at p
    exact p
theorem pe_weak {X : Cx} {e : Expr} {t t' : TE} (h : PE X e t) (w : ∀ σ H Q, t' σ H Q → t σ H Q) : PE X e t' := ⟨fun pins s σ H Q I q => h.run pins s σ H Q I (w σ H Q q)⟩
theorem pt_weak {X : Cx} {e : Expr} {t t' : TT} (h : PT X e t) (w : ∀ σ H Q, t' σ H Q → t σ H Q) : PT X e t' := ⟨fun pins s σ H Q I q => h.run pins s σ H Q I (w σ H Q q)⟩
theorem pa_weak {X : Cx} {e : List Expr} {t t' : TA} (h : PA X e t) (w : ∀ σ H Q, t' σ H Q → t σ H Q) : PA X e t' := ⟨fun pos pins s σ H Q I q => h.run pos pins s σ H Q I (w σ H Q q)⟩
end Q

/-! the operations by values: mine against the layer's -/
namespace Q
open PySem PySem.Spec PyProof.Rows L2

theorem sz_eq : SZ = sizeLine := by rw [sizeLine_eq]; rfl
theorem sl_eq : sizeLine = SZ := sz_eq.symm
abbrev PD (W : Wd) (X : WX) (σ : L2.St) (r : List Addr) (H : Hp) (res : R D) (Q : VK) : Prop := Post (Rv W) W X σ r H res Q

/-! ### ends that make something -/
section
variable {W : Wd} {X : WX} {σ : L2.St} {r : List Addr} {H : Hp} {hs : Hs} {Q : VK} {d : D} {v : V}
theorem pd_ok (p : PD W X σ r H (.ok d hs) Q) (m : Mt W r H hs) (x : Rv W r H d v) : Q v H := p r H v (Ext.refl _ _) m x
/-- a tuple made -/
theorem pd_tup {ds : List D} {vs : List V} (p : PD W X σ r H (.ok (.tup ds) hs) Q) (m : Mt W r H hs) (e : Rvs W r H ds vs) : ∀ a, H a = none → Q (.ref a) (upd H a (.tup vs)) := fun a n =>
  p r _ _ (ext_new n _) (m.new n _) (.tup (.inl ⟨upd_same, m.notNew n⟩) (e.mono (ext_new n _)))
/-- a list made -/
theorem pd_lst {ds : List D} {vs : List V} (p : PD W X σ r H (.ok (.ref hs.length) (hs ++ [.lst ds])) Q) (m : Mt W r H hs) (e : Rvs W r H ds vs) : ∀ a, H a = none → Q (.ref a) (upd H a (.lst vs)) := fun a n =>
  p (r ++ [a]) _ _ (ext_push m n _) (m.push n ⟨vs, upd_same, e.mono (ext_push m n _)⟩) (.ref (by rw [← m.len]; simp))
/-- a place written -/
theorem pd_set {d' : D} {v' : V} {n : Nat} {a : Addr} {o : HO} {u : O} (p : PD W X σ r H (.ok d' (hs.set n u)) Q) (m : Mt W r H hs) (h : r[n]? = some a) (t : OAt W r (upd H a o) a u) (x : Rv W r (upd H a o) d' v') : Q v' (upd H a o) :=
  p r _ _ (ext_set m h o) (m.set h t) x
theorem set_lst {n : Nat} {a : Addr} {ds : List D} {vs : List V} (m : Mt W r H hs) (h : r[n]? = some a) (e : Rvs W r H ds vs) : OAt W r (upd H a (.lst vs)) a (.lst ds) := ⟨vs, upd_same, e.mono (ext_set m h _)⟩
/-- the list at a place -/
theorem Mt.lst (m : Mt W r H hs) {n : Nat} {a : Addr} {ds : List D} (h : r[n]? = some a) (e : hs[n]? = some (.lst ds)) : ∃ vs, H a = some (.lst vs) ∧ Rvs W r H ds vs := m.at_ n a _ h e
theorem Mt.frz (m : Mt W r H hs) {n : Nat} {a : Addr} {ds : List D} (h : r[n]? = some a) (e : hs[n]? = some (.frz ds)) : ∃ ob vs, H a = some (.frz ob (.lst vs)) ∧ Rvs W r H ds vs := m.at_ n a _ h e
end


/-! ### arithmetic -/
section
variable {X : Cx} {W : Wd} {Y : WX} {σ : L2.St} {r : List Addr} {H : Hp} {hs : Hs} {Q : VK} {d e : D} {v u : V}
abbrev RAdd (K : PySem.W.Frag) : R2 := fun x y H Q => ((rI0 (fun i j => .int (i + j)) x y H Q) ∨ (∃ i j, x = .str i ∧ y = .str j ∧ i.length + j.length ≤ sizeLine ∧ Q (.str (i ++ j)) H) ∨ rCat x y H Q) ∨ rCatT K x y H Q
theorem op_addU : OpR X (binaryOp .Add) (RAdd X.K) := (op_add.or (op_add_str.or op_cat)).or op_catT
abbrev RMul : R2 := fun x y H Q => rI (fun i j => mulB i ∧ mulB j) (fun i j => .int (i * j)) x y H Q ∨ rRep x y H Q
theorem mul_ok {i j : Int} (h1 : mulB i) (h2 : mulB j) : IntMulOk i j := by
  unfold mulB at h1 h2
  unfold IntMulOk
  intro h
  rw [Bool.and_eq_true, Bool.and_eq_true] at h
  have h3 := h.2
  unfold Builtin.Int.intTooBig at h3
  have h4 := of_decide_eq_true h3
  have h5 : bitsLine = 134217728 := rfl
  rw [h5] at h4
  unfold Builtin.Int.intBits at h4
  split at h4 <;> split at h4 <;> omega
theorem op_mulU : OpR X (binaryOp .Mult) RMul := (opI fun _ _ _ _ _ _ _ hc q => mul_int q (mul_ok hc.1 hc.2)).or op_rep
abbrev RDiv : R2 := rI (fun i j => j ≠ 0 ∧ divB j) (fun i j => .int (i.fdiv j))
theorem op_divU : OpR X (binaryOp .FloorDiv) RDiv := opI fun _ _ _ _ _ _ _ hc q => floordiv_int hc.1 q (.inl (PyProof.noPylong_of_log2 hc.2))
abbrev RMod : R2 := rI (fun _ j => j ≠ 0) (fun i j => .int (i.fmod j))
abbrev RPow : R2 := rI CPow fun i j => .int (i ^ j.toNat)
def Bop.op : Bop → Operator
  | .add => .Add
  | .sub => .Sub
  | .mul => .Mult
  | .fdiv => .FloorDiv
  | .mod => .Mod
  | .pow => .Pow
def RB (K : PySem.W.Frag) : Bop → R2
  | .add => RAdd K
  | .sub => rI0 fun i j => .int (i - j)
  | .mul => RMul
  | .fdiv => RDiv
  | .mod => RMod
  | .pow => RPow
theorem op_bin : ∀ o : Bop, OpR X (binaryOp o.op) (RB X.K o)
  | .add => op_addU
  | .sub => op_sub
  | .mul => op_mulU
  | .fdiv => op_divU
  | .mod => op_modN
  | .pow => op_pow
theorem strOk_app {x y : Str} (a : PyData.strOk x = true) (b : PyData.strOk y = true) : PyData.strOk (x ++ y) = true := by
  unfold PyData.strOk at *
  show (x.cps ++ y.cps).all _ = true
  rw [Array.all_append, a, b] <;> rfl
theorem q_add (m : Mt W r H hs) (x : Rv W r H d v) (y : Rv W r H e u) (p : PD W Y σ r H (Bop.add.run d e hs) Q) : RAdd W.K v u H Q := by
  cases d <;> cases e <;> first | exact False.elim p | skip
  case int.int i j =>
    cases x; cases y
    exact .inl (.inl ⟨_, _, rfl, rfl, pd_ok p m (.int _)⟩)
  case str.str i j =>
    cases x with | str _ k => cases y with | str _ k2 =>
    simp only [Bop.run] at p
    split at p
    · rename_i h
      exact .inl (.inr (.inl ⟨_, _, rfl, rfl, by rw [sl_eq]; exact h, pd_ok p m (.str _ (strOk_app k k2))⟩))
    · exact False.elim p
  case tup.tup i j =>
    cases x with | tup t1 e1 => cases y with | tup t2 e2 =>
    simp only [Bop.run] at p
    split at p
    · rename_i h
      obtain ⟨h1, h2, h3⟩ := h
      rename_i vs1 a1 vs2 a2
      refine .inr ⟨_, _, vs1, vs2, rfl, rfl, t1.sq, t2.sq, fun z => ?_, by rw [sl_eq, e1.length, e2.length]; exact h3, fun z => ?_, fun z => ?_⟩
      · subst z
        cases e1
        exact h1 rfl
      · first
          | (subst z; cases e2; exact absurd rfl h2)
          | exact pd_tup p m (e1.append e2)
      · exact pd_tup p m (e1.append e2)
    · exact False.elim p
  case ref.ref i j =>
    cases x with | ref a1 => cases y with | ref a2 =>
    simp only [Bop.run] at p
    split at p
    · rename_i xs ys h1 h2
      split at p
      · rename_i h
        obtain ⟨vs, g1, e1⟩ := m.lst a1 h1
        obtain ⟨us, g2, e2⟩ := m.lst a2 h2
        exact .inl (.inr (.inr ⟨_, _, vs, us, rfl, rfl, g1, g2, by rw [sl_eq, e1.length, e2.length]; exact h, pd_lst p m (e1.append e2)⟩))
      · exact False.elim p
    · exact False.elim p
theorem q_bin (m : Mt W r H hs) (x : Rv W r H d v) (y : Rv W r H e u) : ∀ o : Bop, PD W Y σ r H (o.run d e hs) Q → RB W.K o v u H Q
  | .add, p => q_add m x y p
  | .sub, p => by
    cases d <;> cases e <;> first | exact False.elim p | skip
    cases x; cases y
    exact ⟨_, _, rfl, rfl, pd_ok p m (.int _)⟩
  | .mul, p => by
    cases d <;> cases e <;> first | exact False.elim p | skip
    case int.int i j =>
      cases x; cases y
      simp only [Bop.run] at p
      split at p
      · rename_i h
        exact .inl ⟨_, _, rfl, rfl, h, pd_ok p m (.int _)⟩
      · exact False.elim p
    case ref.int n j =>
      cases x with | ref a1 =>
      cases y
      simp only [Bop.run] at p
      split at p
      · rename_i xs h1
        split at p
        · rename_i h
          obtain ⟨vs, g1, e1⟩ := m.lst a1 h1
          exact .inr ⟨_, _, vs, rfl, rfl, g1, h.1, h.2.1, by rw [sl_eq, e1.length]; exact h.2.2, pd_lst p m (e1.rep _)⟩
        · exact False.elim p
      · exact False.elim p
  | .fdiv, p => by
    cases d <;> cases e <;> first | exact False.elim p | skip
    cases x; cases y
    simp only [Bop.run] at p
    split at p
    · rename_i h
      exact ⟨_, _, rfl, rfl, h, pd_ok p m (.int _)⟩
    · exact False.elim p
  | .mod, p => by
    cases d <;> cases e <;> first | exact False.elim p | skip
    cases x; cases y
    simp only [Bop.run] at p
    split at p
    · rename_i h
      exact ⟨_, _, rfl, rfl, h, pd_ok p m (.int _)⟩
    · exact False.elim p
  | .pow, p => by
    cases d <;> cases e <;> first | exact False.elim p | skip
    cases x; cases y
    simp only [Bop.run] at p
    split at p
    · rename_i h
      exact ⟨_, _, rfl, rfl, ⟨h.1, by omega, by omega⟩, pd_ok p m (.int _)⟩
    · exact False.elim p
end

/-! ### equality -/
mutual
def toP : D → PyData
  | .non => .none
  | .bl b => .bool b
  | .int i => .int i
  | .str x => .str x
  | .tup xs => .tuple (toPs xs)
  | .lv xs => .list (toPs xs)
  | .obj _ _ => .none
  | .ref _ => .none
def toPs : List D → List PyData
  | [] => []
  | x :: xs => toP x :: toPs xs
end
mutual
theorem deq_toP : ∀ x y : D, pur x = true → pur y = true → deq x y = PyData.eqv (toP x) (toP y)
  | .tup xs, y, h, k => by
    cases y <;> first | (simp [pur] at k; done) | simp only [toP, deq, PyData.eqv]
    exact deqs_toP xs _ h k
  | .lv xs, y, h, k => by
    cases y <;> first | (simp [pur] at k; done) | simp only [toP, deq, PyData.eqv]
    exact deqs_toP xs _ h k
  | .non, y, h, k => by cases y <;> first | (simp [pur] at k; done) | simp only [toP, deq, PyData.eqv]
  | .bl b, y, h, k => by cases y <;> first | (simp [pur] at k; done) | simp only [toP, deq, PyData.eqv, b2i]
  | .int b, y, h, k => by cases y <;> first | (simp [pur] at k; done) | simp only [toP, deq, PyData.eqv, b2i]
  | .str b, y, h, k => by cases y <;> first | (simp [pur] at k; done) | simp only [toP, deq, PyData.eqv]
  | .obj _ _, _, h, _ => by simp [pur] at h
  | .ref _, _, h, _ => by simp [pur] at h
theorem deqs_toP : ∀ xs ys : List D, purs xs = true → purs ys = true → deqs xs ys = PyData.eqvAll (toPs xs) (toPs ys)
  | [], [], _, _ => by simp only [toPs, deqs, PyData.eqvAll]
  | [], _ :: _, _, _ => by simp only [toPs, deqs, PyData.eqvAll]
  | _ :: _, [], _, _ => by simp only [toPs, deqs, PyData.eqvAll]
  | x :: xs, y :: ys, h, k => by
    simp only [purs, Bool.and_eq_true] at h k
    simp only [toPs, deqs, PyData.eqvAll]
    rw [deq_toP x y h.1 k.1, deqs_toP xs ys h.2 k.2]
end
mutual
theorem ddep_toP : ∀ x : D, (toP x).depth = ddep x
  | .tup xs => by simp only [toP, ddep, PyData.depth, ddeps_toP xs]
  | .lv xs => by simp only [toP, ddep, PyData.depth, ddeps_toP xs]
  | .non | .bl _ | .int _ | .str _ | .obj _ _ | .ref _ => by simp only [toP, ddep, PyData.depth]
theorem ddeps_toP : ∀ xs : List D, PyData.depthAll (toPs xs) = ddeps xs
  | [] => by simp only [toPs, ddeps, PyData.depthAll]
  | x :: xs => by simp only [toPs, ddeps, PyData.depthAll, ddep_toP x, ddeps_toP xs]
end
/-- a value that is read as data -/
structure Gd (K : PySem.W.Frag) (H : Hp) (v : V) (x : D) : Prop where
  dp : Dp K H v (toP x)
  can : (toP x).canLay0 = true
  pu : pur x = true
structure Gds (K : PySem.W.Frag) (H : Hp) (v : List V) (x : List D) : Prop where
  dp : DpAll K H v (toPs x)
  can : PyData.canLayAll0 (toPs x) = true
  pu : purs x = true
section
variable {W : Wd} {r : List Addr} {H : Hp} {hs : Hs}
mutual
theorem rs_gd {f : Nat → Option D} (hf : ∀ n y a, f n = some y → r[n]? = some a → Gd W.K H (.ref a) y) {d : D} {v : V} {x : D} (h : Rv W r H d v) (e : rsF f d = some x) : Gd W.K H v x := by
  cases h with
  | non => cases e; exact ⟨.non, rfl, rfl⟩
  | bl b => cases e; exact ⟨.bl b, rfl, rfl⟩
  | int i => cases e; exact ⟨.int i, rfl, rfl⟩
  | str y k => cases e; exact ⟨.str y, by simpa [toP, PyData.canLay0] using k, rfl⟩
  | @tup ds vs a h es =>
    simp only [rsF] at e
    cases q : rsFs f ds with
    | none => rw [q] at e; cases e
    | some ys =>
      rw [q] at e
      cases e
      have g := rs_gds hf es q
      exact ⟨.tup h.sq g.dp, by simpa [toP, PyData.canLay0] using g.can, g.pu⟩
  | obj => cases e
  | exc0 => cases e
  | exc1 => cases e
  | ref h => exact hf _ _ _ e h
theorem rs_gds {f : Nat → Option D} (hf : ∀ n y a, f n = some y → r[n]? = some a → Gd W.K H (.ref a) y) {d : List D} {v : List V} {x : List D} (h : Rvs W r H d v) (e : rsFs f d = some x) : Gds W.K H v x := by
  cases h with
  | nil => cases e; exact ⟨.nil, rfl, rfl⟩
  | @cons d ds v vs h t =>
    simp only [rsFs] at e
    cases q : rsF f d with
    | none => rw [q] at e; cases e
    | some y =>
      cases q2 : rsFs f ds with
      | none => rw [q, q2] at e; cases e
      | some ys =>
        rw [q, q2] at e
        cases e
        have g := rs_gd hf h q
        have g2 := rs_gds hf t q2
        exact ⟨.cons g.dp g2.dp, by simp only [toPs, PyData.canLayAll0, g.can, g2.can, Bool.and_self], by simp only [purs, g.pu, g2.pu, Bool.and_self]⟩
end
theorem rdN_gd (m : Mt W r H hs) : ∀ (k n : Nat) (y : D) (a : Addr), rdN hs k n = some y → r[n]? = some a → Gd W.K H (.ref a) y
  | 0, _, _, _, e, _ => by cases e
  | k + 1, n, y, a, e, ha => by
    unfold rdN at e
    split at e
    · rename_i xs hx
      obtain ⟨vs, h1, h2⟩ := m.lst ha hx
      cases q : rsFs (rdN hs k) xs with
      | none => rw [q] at e; cases e
      | some ys =>
        rw [q] at e
        cases e
        have g := rs_gds (rdN_gd m k) h2 q
        exact ⟨.lst (SqL.of h1) g.dp, by simpa [toP, PyData.canLay0] using g.can, g.pu⟩
    · rename_i xs hx
      obtain ⟨ob, vs, h1, h2⟩ := m.frz ha hx
      cases q : rsFs (rdN hs k) xs with
      | none => rw [q] at e; cases e
      | some ys =>
        rw [q] at e
        cases e
        have g := rs_gds (rdN_gd m k) h2 q
        exact ⟨.lst (.inl (.inr ⟨ob, h1⟩)) g.dp, by simpa [toP, PyData.canLay0] using g.can, g.pu⟩
    · cases e
theorem rsv_gd (m : Mt W r H hs) {d : D} {v : V} {x : D} (h : Rv W r H d v) (e : rsv hs d = some x) : Gd W.K H v x := rs_gd (rdN_gd m 6) h e
end
/-- == of data; neg: != -/
def REq (K : PySem.W.Frag) (neg : Bool) : R2 := fun v u H Q => ∃ x y : PyData, Dp K H v x ∧ Dp K H u y ∧ x.canLay0 = true ∧ y.canLay0 = true ∧ min x.depth y.depth ≤ 150 ∧ Q (.bl (PyData.eqv x y != neg)) H
theorem op_eqU {X : Cx} (hu : X.A.units + 151 < cLine) : OpR X (compareOp .Eq) (REq X.K false) := by
  intro pins s σ H v u a b Q I rx ry h
  obtain ⟨x, y, h1, h2, c1, c2, dd, q⟩ := h
  obtain ⟨as, r1⟩ := Dp.reads I _ _ _ h1 rx
  obtain ⟨bs, r2⟩ := Dp.reads I _ _ _ h2 ry
  exact SeqAt.compareEq_reads r1 r2 c1 c2 (by omega) ⟨.bl _, H, I, by simp [L2.RelV], q⟩
theorem op_neU {X : Cx} (hu : X.A.units + 151 < cLine) : OpR X (compareOp .NotEq) (REq X.K true) := by
  intro pins s σ H v u a b Q I rx ry h
  obtain ⟨x, y, h1, h2, c1, c2, dd, q⟩ := h
  obtain ⟨as, r1⟩ := Dp.reads I _ _ _ h1 rx
  obtain ⟨bs, r2⟩ := Dp.reads I _ _ _ h2 ry
  exact SeqAt.compareNe_reads r1 r2 c1 c2 (by omega) ⟨.bl _, H, I, by simp [L2.RelV], q⟩
theorem eqv_some {hs : Hs} {d e : D} {b : Bool} (h : eqv hs d e = some b) : ∃ x y, rsv hs d = some x ∧ rsv hs e = some y ∧ min (ddep x) (ddep y) ≤ 150 ∧ b = deq x y := by
  unfold eqv at h
  split at h
  · rename_i x y h1 h2
    split at h
    · rename_i h3
      cases h
      exact ⟨x, y, h1, h2, h3, rfl⟩
    · cases h
  · cases h
section
variable {X : Cx} {W : Wd} {Y : WX} {σ : L2.St} {r : List Addr} {H : Hp} {hs : Hs} {Q : VK} {d e : D} {v u : V}
theorem q_eq (m : Mt W r H hs) (x : Rv W r H d v) (y : Rv W r H e u) {b neg : Bool} (h : eqv hs d e = some b) (q : Q (.bl (b != neg)) H) : REq W.K neg v u H Q := by
  obtain ⟨x', y', h1, h2, h3, h4⟩ := eqv_some h
  have g1 := rsv_gd m x h1
  have g2 := rsv_gd m y h2
  refine ⟨_, _, g1.dp, g2.dp, g1.can, g2.can, by rw [ddep_toP, ddep_toP]; exact h3, ?_⟩
  rw [← deq_toP _ _ g1.pu g2.pu, ← h4]
  exact q
end

/-! ### in -/
def RInS (K : PySem.W.Frag) (neg : Bool) : R2 := fun v u H Q => ∃ (x : PyData) (ys : List PyData), Dp K H v x ∧ (Dp K H u (.list ys) ∨ Dp K H u (.tuple ys)) ∧ x.canLay0 = true ∧ PyData.canLayAll0 ys = true ∧
  min (PyData.depthAll ys) x.depth ≤ 150 ∧ Q (.bl ((ys.any fun y => PyData.eqv y x) != neg)) H
def RInT (neg : Bool) : R2 := fun x y H Q => ∃ (c : Nat) (z : Str), x = .str ⟨#[c]⟩ ∧ y = .str z ∧ Q (.bl (decide (c ∈ z.cps.toList) != neg)) H
def RInD (neg : Bool) : R2 := fun x y H Q => ∃ a o, y = .ref a ∧ DGet H a x o ∧ Q (.bl (o.isSome != neg)) H
theorem op_inS {X : Cx} (hu : X.A.units + 152 < cLine) : OpR X (compareOp .In) (RInS X.K false) := by
  intro pins s σ H v u a b Q I rx ry h
  obtain ⟨x, ys, h1, h2, c1, c2, dd, q⟩ := h
  obtain ⟨as, r1⟩ := Dp.reads I _ _ _ h1 rx
  rcases h2 with h2 | h2
  · obtain ⟨bs, r2⟩ := Dp.reads I _ _ _ h2 ry
    exact SeqAt.in_list_reads r2 r1 c2 c1 (by omega) ⟨.bl _, H, I, by simp [L2.RelV], q⟩
  · obtain ⟨bs, r2⟩ := Dp.reads I _ _ _ h2 ry
    exact SeqAt.in_tuple_reads r2 r1 c2 c1 (by omega) ⟨.bl _, H, I, by simp [L2.RelV], q⟩
theorem op_notInS {X : Cx} (hu : X.A.units + 152 < cLine) : OpR X (compareOp .NotIn) (RInS X.K true) := by
  intro pins s σ H v u a b Q I rx ry h
  obtain ⟨x, ys, h1, h2, c1, c2, dd, q⟩ := h
  obtain ⟨as, r1⟩ := Dp.reads I _ _ _ h1 rx
  rcases h2 with h2 | h2
  · obtain ⟨bs, r2⟩ := Dp.reads I _ _ _ h2 ry
    exact SeqAt.notIn_list_reads r2 r1 c2 c1 (by omega) ⟨.bl _, H, I, by simp [L2.RelV], q⟩
  · obtain ⟨bs, r2⟩ := Dp.reads I _ _ _ h2 ry
    exact SeqAt.notIn_tuple_reads r2 r1 c2 c1 (by omega) ⟨.bl _, H, I, by simp [L2.RelV], q⟩
theorem op_inT {X : Cx} : OpR X (compareOp .In) (RInT false) := by
  intro pins s σ H v u a b Q I rx ry h
  obtain ⟨c, z, h1, h2, q⟩ := h
  exact op_in_sign pins s σ H v u a b Q I rx ry ⟨c, z, h1, h2, by simpa using q⟩
theorem op_notInT {X : Cx} : OpR X (compareOp .NotIn) (RInT true) := by
  intro pins s σ H v u a b Q I rx ry h
  obtain ⟨c, z, h1, h2, q⟩ := h
  exact op_notIn_sign pins s σ H v u a b Q I rx ry ⟨c, z, h1, h2, by simpa using q⟩
theorem op_inD' {X : Cx} (hu : X.A.units + 1 < cLine) : OpR X (compareOp .In) (RInD false) := by
  intro pins s σ H v u a b Q I rx ry h
  obtain ⟨c, o, h1, h2, q⟩ := h
  subst h1
  cases ry
  exact d_in hu I h2 rx fun s' I' => ⟨.bl _, H, I', by simp [L2.RelV], q⟩
theorem op_notInD' {X : Cx} (hu : X.A.units + 1 < cLine) : OpR X (compareOp .NotIn) (RInD true) := by
  intro pins s σ H v u a b Q I rx ry h
  obtain ⟨c, o, h1, h2, q⟩ := h
  subst h1
  cases ry
  exact d_notIn hu I h2 rx fun s' I' => ⟨.bl _, H, I', by simp [L2.RelV], q⟩
abbrev RIn (K : PySem.W.Frag) (neg : Bool) : R2 := fun x y H Q => RInS K neg x y H Q ∨ RInT neg x y H Q ∨ RInD neg x y H Q
def Cop.op : Cop → CmpOp
  | .lt => .Lt
  | .le => .LtE
  | .gt => .Gt
  | .ge => .GtE
  | .eq => .Eq
  | .ne => .NotEq
  | .isin => .In
  | .notin => .NotIn
def RC (K : PySem.W.Frag) : Cop → R2
  | .lt => rI0 fun i j => .bl (decide (i < j))
  | .le => rI0 fun i j => .bl (decide (i ≤ j))
  | .gt => rI0 fun i j => .bl (decide (j < i))
  | .ge => rI0 fun i j => .bl (decide (j ≤ i))
  | .eq => REq K false
  | .ne => REq K true
  | .isin => RIn K false
  | .notin => RIn K true
theorem op_cmp {X : Cx} (hu : X.A.units + 152 < cLine) : ∀ o : Cop, OpR X (compareOp o.op) (RC X.K o)
  | .lt => op_lt
  | .le => op_le
  | .gt => op_gt
  | .ge => op_ge
  | .eq => op_eqU (by omega)
  | .ne => op_neU (by omega)
  | .isin => (op_inS hu).or (op_inT.or (op_inD' (by omega)))
  | .notin => (op_notInS hu).or (op_notInT.or (op_notInD' (by omega)))
section
variable {X : Cx} {W : Wd} {Y : WX} {σ : L2.St} {r : List Addr} {H : Hp} {hs : Hs} {Q : VK} {d e : D} {v u : V}
theorem inSeq_gd (m : Mt W r H hs) (x : Rv W r H d v) : ∀ {ys : List D} {us : List V} {b : Bool}, Rvs W r H ys us → inSeq hs d ys = some b →
    ∃ (x' : D) (zs : List D), rsv hs d = some x' ∧ Gds W.K H us zs ∧ min (ddeps zs) (ddep x') ≤ 150 ∧ b = (toPs zs).any fun y => PyData.eqv y (toP x')
  | [], _, b, .nil, h => by
    simp only [inSeq] at h
    cases q : rsv hs d with
    | none => rw [q] at h; cases h
    | some x' =>
      rw [q] at h
      cases h
      exact ⟨x', [], rfl, ⟨.nil, rfl, rfl⟩, by simp [ddeps], rfl⟩
  | y :: ys, _, b, .cons h1 h2, h => by
    simp only [inSeq] at h
    split at h
    · rename_i a c ha hc
      cases h
      obtain ⟨x', zs, g1, g2, g3, g4⟩ := inSeq_gd m x h2 hc
      obtain ⟨z, x'', k1, k2, k3, k4⟩ := eqv_some ha
      rw [g1] at k2
      cases k2
      have gz := rsv_gd m h1 k1
      have gx := rsv_gd m x g1
      refine ⟨x', z :: zs, g1, ⟨.cons gz.dp g2.dp, by simp only [toPs, PyData.canLayAll0, gz.can, g2.can, Bool.and_self], by simp only [purs, gz.pu, g2.pu, Bool.and_self]⟩, by simp only [ddeps]; omega, ?_⟩
      simp only [toPs, List.any_cons]
      rw [← g4, k4, deq_toP _ _ gz.pu gx.pu]
    · cases h
theorem key_deq (a b : Key) : deq (keyD a) (keyD b) = decide (a = b) := by
  cases a <;> cases b <;> simp only [keyD, deq, key_ll, key_rr, key_lr, key_rl]
  · rename_i x y
    by_cases h : x = y
    · subst h; simp
    · simp [h]
/-- a scalar key -/
theorem key_at (k : kOk false d = true) (x : Rv W r H d v) : ∃ q : Key, d = keyD q ∧ v = kV q := by
  cases d <;> first | (simp [kOk] at k; done) | skip
  · cases x; exact ⟨.inl _, rfl, rfl⟩
  · cases x; exact ⟨.inr _, rfl, rfl⟩
theorem dlook_val (q : Key) : ∀ (ks : List Key) (ds : List D) (vs : List V), ks.length = ds.length → Rvs W r H ds vs →
    match dlook (keyD q) ((ks.map keyD).zip ds) with
    | some e => ∃ w, valV (ks.zip vs) q = some w ∧ Rv W r H e w
    | none => valV (ks.zip vs) q = none
  | [], ds, vs, h, x => by simp [dlook, valV]
  | k :: ks, [], _, h, _ => by simp at h
  | k :: ks, d :: ds, _, h, .cons (v := v) (vs := vs) x t => by
    simp only [List.map_cons, List.zip_cons_cons, dlook, key_deq]
    by_cases e : k = q
    · subst e
      simp only [decide_true, if_true]
      exact ⟨v, valV_pos rfl, x⟩
    · rw [decide_eq_false e, valV_neg (p := (k, v)) e]
      simp only [Bool.false_eq_true, if_false]
      exact dlook_val q ks ds vs (by simpa using h) t
theorem dic_get (m : Mt W r H hs) {n : Nat} {a : Addr} {t : Bool} {kvs : List (D × D)} (ha : r[n]? = some a) (h : hs[n]? = some (.dic t kvs)) (x : Rv W r H d v) (k : kOk t d = true) :
    match dlook d kvs with
    | some e => ∃ w, DGet H a v (some w) ∧ Rv W r H e w
    | none => DGet H a v none := by
  cases t with
  | true => cases d <;> simp [kOk] at k
  | false =>
    obtain ⟨ks, ds, vs, h1, h2, h3, h4, h5⟩ := m.at_ n a _ ha h
    obtain ⟨q, rfl, rfl⟩ := key_at k x
    have hd := dlook_val q ks ds vs h3 h5
    subst h2
    split at hd
    · rename_i e he
      obtain ⟨w, hw, rw'⟩ := hd
      exact ⟨w, hw ▸ DGet.k h1, rw'⟩
    · rename_i he
      exact hd ▸ DGet.k h1
theorem q_in (m : Mt W r H hs) (x : Rv W r H d v) (y : Rv W r H e u) {b neg : Bool} (h : isIn hs d e = some b) (q : Q (.bl (b != neg)) H) : RIn W.K neg v u H Q := by
  cases e <;> first | (cases h; done) | skip
  case str z =>
    cases d <;> first | (cases h; done) | skip
    rename_i c
    cases x; cases y
    simp only [isIn, signIn] at h
    split at h
    · rename_i g hc
      cases h
      refine .inr (.inl ⟨g, z, ?_, rfl, ?_⟩)
      · congr 1
        cases c with | mk cps => cases cps; simp only at hc; subst hc; rfl
      · rw [show decide (g ∈ z.cps.toList) = z.cps.toList.contains g from by simp]
        exact q
    · cases h
  case tup ys =>
    cases y with | tup t es =>
    obtain ⟨x', zs, g1, g2, g3, g4⟩ := inSeq_gd m x es h
    have gx := rsv_gd m x g1
    exact .inl ⟨_, _, gx.dp, .inr (.tup t.sq g2.dp), gx.can, g2.can, by rw [ddep_toP, ddeps_toP]; exact g3, by rw [← g4]; exact q⟩
  case ref n =>
    cases y with | ref ha =>
    simp only [isIn] at h
    split at h
    · rename_i ys hy
      obtain ⟨vs, k1, k2⟩ := m.lst ha hy
      obtain ⟨x', zs, g1, g2, g3, g4⟩ := inSeq_gd m x k2 h
      have gx := rsv_gd m x g1
      exact .inl ⟨_, _, gx.dp, .inl (.lst (SqL.of k1) g2.dp), gx.can, g2.can, by rw [ddep_toP, ddeps_toP]; exact g3, by rw [← g4]; exact q⟩
    · rename_i ys hy
      obtain ⟨ob, vs, k1, k2⟩ := m.frz ha hy
      obtain ⟨x', zs, g1, g2, g3, g4⟩ := inSeq_gd m x k2 h
      have gx := rsv_gd m x g1
      exact .inl ⟨_, _, gx.dp, .inl (.lst (.inl (.inr ⟨ob, k1⟩)) g2.dp), gx.can, g2.can, by rw [ddep_toP, ddeps_toP]; exact g3, by rw [← g4]; exact q⟩
    · rename_i t kvs hy
      split at h
      · rename_i hk
        cases h
        have hd := dic_get m ha hy x hk
        split at hd
        · rename_i e he
          obtain ⟨w, hw, _⟩ := hd
          exact .inr (.inr ⟨_, _, rfl, hw, by rw [he] at q; exact q⟩)
        · rename_i he
          exact .inr (.inr ⟨_, _, rfl, hd, by rw [he] at q; exact q⟩)
      · cases h
    · cases h
theorem pd_opt {α : Type} {ρ : Option α} {f : α → D} (p : PD W Y σ r H (opt ρ f hs) Q) : ∃ a, ρ = some a ∧ PD W Y σ r H (.ok (f a) hs) Q := by
  cases ρ with
  | none => exact False.elim p
  | some a => exact ⟨a, rfl, p⟩
theorem q_cmp (m : Mt W r H hs) (x : Rv W r H d v) (y : Rv W r H e u) : ∀ o : Cop, PD W Y σ r H (o.run d e hs) Q → RC W.K o v u H Q
  | .eq, p => by
    obtain ⟨b, hb, p⟩ := pd_opt p
    exact q_eq m x y hb (by simpa using pd_ok p m (.bl b))
  | .ne, p => by
    obtain ⟨b, hb, p⟩ := pd_opt p
    exact q_eq m x y hb (by simpa using pd_ok p m (.bl (!b)))
  | .isin, p => by
    obtain ⟨b, hb, p⟩ := pd_opt p
    exact q_in m x y hb (by simpa using pd_ok p m (.bl b))
  | .notin, p => by
    obtain ⟨b, hb, p⟩ := pd_opt p
    exact q_in m x y hb (by simpa using pd_ok p m (.bl (!b)))
  | .lt, p => by
    cases d <;> cases e <;> first | exact False.elim p | skip
    cases x; cases y
    exact ⟨_, _, rfl, rfl, pd_ok p m (.bl _)⟩
  | .le, p => by
    cases d <;> cases e <;> first | exact False.elim p | skip
    cases x; cases y
    exact ⟨_, _, rfl, rfl, pd_ok p m (.bl _)⟩
  | .gt, p => by
    cases d <;> cases e <;> first | exact False.elim p | skip
    cases x; cases y
    exact ⟨_, _, rfl, rfl, pd_ok p m (.bl _)⟩
  | .ge, p => by
    cases d <;> cases e <;> first | exact False.elim p | skip
    cases x; cases y
    exact ⟨_, _, rfl, rfl, pd_ok p m (.bl _)⟩
end
end Q

/-! subscripts, slices, truth, built-in functions and methods: mine against the layer's -/
namespace Q
open PySem PySem.Spec PyProof.Rows L2

section
variable {X : Cx} {W : Wd} {Y : WX} {σ : L2.St} {r : List Addr} {H : Hp} {hs : Hs} {Q : VK} {d e : D} {v u : V}

/-! ### a[i] -/
theorem Rvs.none {W : Wd} {r : List Addr} {H : Hp} {ds : List D} {vs : List V} (h : Rvs W r H ds vs) {i : Nat} (e : ds[i]? = none) : vs[i]? = none := by
  rw [List.getElem?_eq_none_iff] at e ⊢
  rw [h.length]
  exact e
theorem atI_rv {ds : List D} {vs : List V} {i : Int} (h : Rvs W r H ds vs) (e : atI ds i = some d) : ∃ v, L2.atI vs i = some v ∧ Rv W r H d v := by
  unfold atI at e
  unfold L2.atI
  rw [h.length]
  cases q : ixN ds.length i with
  | none => rw [q] at e; cases e
  | some j =>
    rw [q] at e
    have q2 : L2.ixN ds.length i = some j := q
    rw [q2]
    exact h.get e
def RIxD : R2 := fun x y H Q => ∃ a v, x = .ref a ∧ DGet H a y (some v) ∧ Q v H
theorem ix_dic (hu : X.A.units + 1 < cLine) : IxR X RIxD := by
  intro value slice pins s σ H x y v u Q I rx ry h hs
  obtain ⟨a, z, rfl, g, q⟩ := h
  cases rx
  exact tail_any (dict_typeIs I g) PySem.F.slot_dict_getitem.lookup (d_getItem hu I g ry fun w' s3 I3 rw' => ⟨z, H, I3, rw', q⟩) hs
abbrev RIx (K : PySem.W.Frag) : R2 := fun x y H Q => rIx K x y H Q ∨ RIxD x y H Q
theorem ix_U (hu : X.A.units + 1 < cLine) : IxR X (RIx X.K) := ix_seq.or (ix_dic hu)
theorem strOk_sign {x : Str} {c : Nat} (h : PyData.strOk x = true) (m : c ∈ x.cps.toList) : PyData.strOk ⟨#[c]⟩ = true := by
  unfold PyData.strOk at *
  rw [Array.all_eq_true'] at h ⊢
  intro y hy
  simp at hy
  subst hy
  exact h y (by simpa using m)
theorem atI_mem {α : Type} {xs : List α} {i : Int} {c : α} (h : atI xs i = some c) : c ∈ xs := by
  unfold atI at h
  cases q : ixN xs.length i with
  | none => rw [q] at h; cases h
  | some j => rw [q] at h; exact List.mem_of_getElem? h
theorem q_ix (m : Mt W r H hs) (x : Rv W r H d v) (y : Rv W r H e u) (p : PD W Y σ r H (getI d e hs) Q) : RIx W.K v u H Q := by
  cases d <;> first | exact False.elim p | skip
  case str z =>
    cases e <;> first | exact False.elim p | skip
    rename_i i
    cases x with | str _ k =>
    cases y
    simp only [getI] at p
    split at p
    · rename_i hz
      obtain ⟨c, hc, p⟩ := pd_opt p
      exact .inl (.inr (.inr ⟨z, i, c, rfl, rfl, by rw [sl_eq]; exact hz, hc, pd_ok p m (.str _ (strOk_sign k (atI_mem hc)))⟩))
    · exact False.elim p
  case tup ds =>
    cases e <;> first | exact False.elim p | skip
    rename_i i
    cases x with | tup t es =>
    cases y
    simp only [getI] at p
    obtain ⟨c, hc, p⟩ := pd_opt p
    obtain ⟨w, hw, rw'⟩ := atI_rv es hc
    exact .inl (.inr (.inl ⟨_, _, i, w, rfl, rfl, t.sq, hw, pd_ok p m rw'⟩))
  case ref n =>
    cases x with | ref ha =>
    simp only [getI] at p
    split at p
    · rename_i _ _ xs i hx
      cases y
      obtain ⟨vs, h1, es⟩ := m.lst ha hx
      obtain ⟨c, hc, p⟩ := pd_opt p
      obtain ⟨w, hw, rw'⟩ := atI_rv es hc
      exact .inl (.inl ⟨_, _, i, w, rfl, rfl, SqL.of h1, hw, pd_ok p m rw'⟩)
    · rename_i _ _ xs i hx
      cases y
      obtain ⟨ob, vs, h1, es⟩ := m.frz ha hx
      obtain ⟨c, hc, p⟩ := pd_opt p
      obtain ⟨w, hw, rw'⟩ := atI_rv es hc
      exact .inl (.inl ⟨_, _, i, w, rfl, rfl, .inl (.inr ⟨ob, h1⟩), hw, pd_ok p m rw'⟩)
    · rename_i t kvs hx
      split at p
      · rename_i hk
        obtain ⟨c, hc, p⟩ := pd_opt p
        have hd := dic_get m ha hx y hk
        rw [hc] at hd
        obtain ⟨w, hw, rw'⟩ := hd
        exact .inr ⟨_, w, rfl, hw, pd_ok p m rw'⟩
      · exact False.elim p
    · exact False.elim p

/-! ### slices -/
theorem sIx_eq (n d : Nat) (o : Option Int) : sIx n d o = HT.sIx n d o := by cases o <;> rfl
abbrev RSl (K : PySem.W.Frag) : V → Option Int → Option Int → Hp → VK → Prop := fun x lo hi H Q => rSlL K x lo hi H Q ∨ rSlT K x lo hi H Q ∨ rSlS x lo hi H Q
theorem sl_U : SlR X (RSl X.K) := sl_list.or (sl_tup.or sl_str)
theorem cut_rvs {ds : List D} {vs : List V} (h : Rvs W r H ds vs) (lo hi : Option Int) : Rvs W r H (cut ds lo hi) (cutV vs lo hi) := by
  unfold cut cutV
  rw [h.length, ← sIx_eq, ← sIx_eq]
  exact (h.drop _).take _
theorem strOk_cut {x : Str} {lo hi : Option Int} (h : PyData.strOk x = true) : PyData.strOk ⟨(cut x.cps.toList lo hi).toArray⟩ = true := by
  unfold PyData.strOk at *
  rw [Array.all_eq_true'] at h ⊢
  intro y hy
  have hy' : y ∈ cut x.cps.toList lo hi := by simpa using hy
  unfold cut at hy'
  exact h y (by simpa using List.mem_of_mem_drop (List.mem_of_mem_take hy'))
theorem q_slice (m : Mt W r H hs) (x : Rv W r H d v) {lo hi : Option Int} (p : PD W Y σ r H (slice d lo hi hs) Q) : RSl W.K v lo hi H Q := by
  cases d <;> first | exact False.elim p | skip
  case str z =>
    cases x with | str _ k =>
    simp only [slice] at p
    split at p
    · rename_i hz
      refine .inr (.inr ⟨z, rfl, by rw [sl_eq]; exact hz, ?_⟩)
      have e : cutS z lo hi = ⟨(cut z.cps.toList lo hi).toArray⟩ := by
        unfold cutS cut
        rw [← sIx_eq, ← sIx_eq] <;> simp [Str.length]
      rw [e]
      exact pd_ok p m (.str _ (strOk_cut k))
    · exact False.elim p
  case tup ds =>
    cases x with | tup t es =>
    simp only [slice] at p
    split at p
    · exact False.elim p
    · rename_i hn
      refine .inr (.inl ⟨_, _, rfl, t.sq, ?_, pd_tup p m (cut_rvs es lo hi)⟩)
      rw [es.length, ← sIx_eq, ← sIx_eq]
      exact hn
  case ref n =>
    cases x with | ref ha =>
    simp only [slice] at p
    split at p
    · rename_i xs hx
      obtain ⟨vs, h1, es⟩ := m.lst ha hx
      exact .inl ⟨_, _, rfl, SqL.of h1, pd_lst p m (cut_rvs es lo hi)⟩
    · rename_i xs hx
      obtain ⟨ob, vs, h1, es⟩ := m.frz ha hx
      exact .inl ⟨_, _, rfl, .inl (.inr ⟨ob, h1⟩), pd_lst p m (cut_rvs es lo hi)⟩
    · exact False.elim p

/-! ### truth -/
theorem Rvs.empty {W : Wd} {r : List Addr} {H : Hp} {ds : List D} {vs : List V} (h : Rvs W r H ds vs) : vs.isEmpty = ds.isEmpty := by cases h <;> rfl
theorem q_tru (m : Mt W r H hs) (x : Rv W r H d v) {b : Bool} (h : tru hs d = some b) : TruV W.K v H b := by
  cases d <;> first | (cases h; done) | skip
  case non => cases x; cases h; exact rfl
  case bl => cases x; cases h; exact rfl
  case int => cases x; cases h; exact rfl
  case str z =>
    cases x
    simp only [tru] at h
    split at h
    · rename_i hz
      cases h
      exact ⟨by rw [sl_eq]; exact hz, by
        show _ = ((z.length : Int) != 0)
        cases z.length <;> rfl⟩
    · cases h
  case tup ds =>
    cases x with | tup t es =>
    cases h
    exact .inr (.inl ⟨_, t.sq, by rw [es.empty]⟩)
  case ref n =>
    cases x with | ref ha =>
    simp only [tru] at h
    split at h
    · rename_i xs hx
      obtain ⟨vs, h1, es⟩ := m.lst ha hx
      cases h
      exact .inl ⟨_, SqL.of h1, by rw [es.empty]⟩
    · rename_i xs hx
      obtain ⟨ks, ds, vs, h1, h2, h3, h4, h5⟩ := m.at_ n _ _ ha hx
      cases h
      refine .inr (.inr ⟨_, h1, ?_⟩)
      subst h2
      have := h5.length
      cases ks <;> cases ds <;> cases vs <;> simp at * 
    · cases h
end
end Q

/-! built-in functions and methods: mine against the layer's -/
namespace Q
open PySem PySem.Spec PyProof.Rows L2

section
variable {X : Cx} {W : Wd} {Y : WX} {σ : L2.St} {r : List Addr} {H : Hp} {hs : Hs} {Q : VK} {d e : D} {v u : V} {ds : List D} {vs : List V}

/-! ### parts -/
theorem items_at (m : Mt W r H hs) (x : Rv W r H d v) {l : List D} (h : itemsOf hs d = some l) : ∃ p us, v = .ref p ∧ (SqL W.K H p us ∨ SqT W.K H p us) ∧ Rvs W r H l us := by
  cases d <;> first | (cases h; done) | skip
  case tup ds =>
    cases x with | tup t es =>
    cases h
    exact ⟨_, _, rfl, .inr t.sq, es⟩
  case ref n =>
    cases x with | ref ha =>
    simp only [itemsOf] at h
    split at h
    · rename_i xs hx
      obtain ⟨vs, h1, es⟩ := m.lst ha hx
      cases h
      exact ⟨_, _, rfl, .inl (SqL.of h1), es⟩
    · rename_i xs hx
      obtain ⟨ob, vs, h1, es⟩ := m.frz ha hx
      cases h
      exact ⟨_, _, rfl, .inl (.inl (.inr ⟨ob, h1⟩)), es⟩
    · cases h
theorem list_at (m : Mt W r H hs) (x : Rv W r H d v) {l : List D} (h : listOf hs d = some l) : ∃ p us, v = .ref p ∧ SqL W.K H p us ∧ Rvs W r H l us := by
  cases d <;> first | (cases h; done) | skip
  case ref n =>
    cases x with | ref ha =>
    simp only [listOf] at h
    split at h
    · rename_i xs hx
      obtain ⟨vs, h1, es⟩ := m.lst ha hx
      cases h
      exact ⟨_, _, rfl, SqL.of h1, es⟩
    · rename_i xs hx
      obtain ⟨ob, vs, h1, es⟩ := m.frz ha hx
      cases h
      exact ⟨_, _, rfl, .inl (.inr ⟨ob, h1⟩), es⟩
    · cases h
theorem ints_at : ∀ {l : List D} {us : List V} {ns : List Int}, Rvs W r H l us → intsL l = some ns → us = ns.map V.int
  | [], _, _, .nil, h => by cases h; rfl
  | d :: l, _, ns, .cons x t, h => by
    cases d <;> first | (cases h; done) | skip
    rename_i i
    cases x
    simp only [intsL] at h
    cases q : intsL l with
    | none => rw [q] at h; cases h
    | some ms =>
      rw [q] at h
      cases h
      rw [List.map_cons, ints_at t q]
theorem bools_at : ∀ {l : List D} {us : List V} {ns : List Bool}, Rvs W r H l us → boolsL l = some ns → us = ns.map V.bl
  | [], _, _, .nil, h => by cases h; rfl
  | d :: l, _, ns, .cons x t, h => by
    cases d <;> first | (cases h; done) | skip
    rename_i i
    cases x
    simp only [boolsL] at h
    cases q : boolsL l with
    | none => rw [q] at h; cases h
    | some ms =>
      rw [q] at h
      cases h
      rw [List.map_cons, bools_at t q]
theorem strs_at : ∀ {l : List D} {us : List V} {ns : List Str}, Rvs W r H l us → strsL l = some ns → us = ns.map V.str
  | [], _, _, .nil, h => by cases h; rfl
  | d :: l, _, ns, .cons x t, h => by
    cases d <;> first | (cases h; done) | skip
    rename_i i
    cases x
    simp only [strsL] at h
    cases q : strsL l with
    | none => rw [q] at h; cases h
    | some ms =>
      rw [q] at h
      cases h
      rw [List.map_cons, strs_at t q]
theorem leastI_le : ∀ (xs : List Int) (m : Int), leastI xs m ≤ m ∧ ∀ y ∈ xs, leastI xs m ≤ y
  | [], m => ⟨Int.le_refl _, fun _ h => nomatch h⟩
  | x :: xs, m => by
    obtain ⟨h1, h2⟩ := leastI_le xs (if x < m then x else m)
    simp only [leastI]
    have h3 : (if x < m then x else m) ≤ m ∧ (if x < m then x else m) ≤ x := by split <;> omega
    refine ⟨by omega, fun y hy => ?_⟩
    rcases List.mem_cons.mp hy with e | hy
    · subst e; omega
    · exact h2 y hy
theorem leastI_mem : ∀ (xs : List Int) (m : Int), leastI xs m ∈ m :: xs
  | [], m => List.mem_cons_self
  | x :: xs, m => by
    have h := leastI_mem xs (if x < m then x else m)
    simp only [leastI]
    rcases List.mem_cons.mp h with e | h
    · rw [e]; split
      · exact List.mem_cons_of_mem _ List.mem_cons_self
      · exact List.mem_cons_self
    · exact List.mem_cons_of_mem _ (List.mem_cons_of_mem _ h)
theorem mostI_le : ∀ (xs : List Int) (m : Int), m ≤ mostI xs m ∧ ∀ y ∈ xs, y ≤ mostI xs m
  | [], m => ⟨Int.le_refl _, fun _ h => nomatch h⟩
  | x :: xs, m => by
    obtain ⟨h1, h2⟩ := mostI_le xs (if m < x then x else m)
    simp only [mostI]
    have h3 : m ≤ (if m < x then x else m) ∧ x ≤ (if m < x then x else m) := by split <;> omega
    refine ⟨by omega, fun y hy => ?_⟩
    rcases List.mem_cons.mp hy with e | hy
    · subst e; omega
    · exact h2 y hy
theorem mostI_mem : ∀ (xs : List Int) (m : Int), mostI xs m ∈ m :: xs
  | [], m => List.mem_cons_self
  | x :: xs, m => by
    have h := mostI_mem xs (if m < x then x else m)
    simp only [mostI]
    rcases List.mem_cons.mp h with e | h
    · rw [e]; split
      · exact List.mem_cons_of_mem _ List.mem_cons_self
      · exact List.mem_cons_self
    · exact List.mem_cons_of_mem _ (List.mem_cons_of_mem _ h)

/-! ### built-in functions -/
abbrev RF := List V → Hp → VK → Prop
theorem crU {f : Value} {a b : RF} (h : CallR X f a) (k : CallR X f b) : CallR X f (fun xs H Q => a xs H Q ∨ b xs H Q) := by
  intro pins s σ H xs us Q I rx q
  rcases q with q | q
  · exact h pins s σ H xs us Q I rx q
  · exact k pins s σ H xs us Q I rx q
abbrev RLenA (K : PySem.W.Frag) : RF := fun xs H Q => ∃ x n, xs = [x] ∧ LenV K x H n ∧ Q (.int n) H
abbrev RLenD : RF := fun xs H Q => ∃ a kvs, xs = [V.ref a] ∧ H a = some (.dK kvs) ∧ Q (.int kvs.length) H
abbrev RAbs : RF := fun xs H Q => ∃ i, xs = [.int i] ∧ Q (.int (if i < 0 then -i else i)) H
abbrev RMin2 : RF := fun xs H Q => ∃ i j, xs = [.int i, .int j] ∧ Q (.int (if j < i then j else i)) H
abbrev RMax2 : RF := fun xs H Q => ∃ i j, xs = [.int i, .int j] ∧ Q (.int (if j > i then j else i)) H
abbrev RInt1 : RF := fun xs H Q => (∃ i, xs = [.int i] ∧ Q (.int i) H) ∨ ∃ k, xs = [.bl k] ∧ Q (.int (if k then 1 else 0)) H
abbrev RIntS : RF := fun xs H Q => ∃ a n, xs = [.str a] ∧ PySem.intText? a = some n ∧ a.length ≤ 640 ∧ Q (.int n) H
abbrev RStrI : RF := fun xs H Q => ∃ i, xs = [.int i] ∧ i.natAbs.log2 < 1920 ∧ Q (.str (toString i)) H
abbrev RTupO (K : PySem.W.Frag) : RF := fun xs H Q => ∃ p ys, xs = [.ref p] ∧ ((SqL K H p ys ∧ ∀ l, H l = none → Q (.ref l) (upd H l (.tup ys))) ∨ (SqT K H p ys ∧ Q (.ref p) H))
abbrev RLstO (K : PySem.W.Frag) : RF := fun xs H Q => ∃ p ys, xs = [.ref p] ∧ (SqL K H p ys ∨ SqT K H p ys) ∧ ∀ l, H l = none → Q (.ref l) (upd H l (.lst ys))
abbrev RLstD : RF := fun xs H Q => ∃ (a : Addr) (kvs : List (Key × V)), xs = [.ref a] ∧ Rd H a (.dK kvs) ∧ ∀ p, H p = none → Q (.ref p) (upd H p (.lst (kvs.map fun kv => kV kv.1)))
def RBi (K : PySem.W.Frag) : Bi → RF
  | .len => fun xs H Q => RLenA K xs H Q ∨ RLenD xs H Q
  | .abs => RAbs
  | .min => fun xs H Q => RMin2 xs H Q ∨ rMin K xs H Q
  | .max => fun xs H Q => RMax2 xs H Q ∨ rMax K xs H Q
  | .int => fun xs H Q => RInt1 xs H Q ∨ RIntS xs H Q
  | .str => RStrI
  | .tuple => RTupO K
  | .list => fun xs H Q => RLstO K xs H Q ∨ RLstD xs H Q
  | .sum => rSum K
  | .any => rAny K
  | .all => rAll K
  | _ => fun _ _ _ => False
def Bi.val : Bi → String × Value
  | .len => ("len", .builtin "len")
  | .abs => ("abs", .builtin "abs")
  | .min => ("min", .builtin "min")
  | .max => ("max", .builtin "max")
  | .int => ("int", .type "int")
  | .str => ("str", .type "str")
  | .tuple => ("tuple", .type "tuple")
  | .list => ("list", .type "list")
  | .sum => ("sum", .builtin "sum")
  | .any => ("any", .builtin "any")
  | .all => ("all", .builtin "all")
  | _ => ("", .none)
theorem cr_none {f : Value} : CallR X f (fun _ _ _ => False) := fun _ _ _ _ _ _ _ _ _ h => h.elim
theorem call_bi (hc : X.calm = true) : ∀ f : Bi, CallR X f.val.2 (RBi X.K f)
  | .len => crU call_len call_lenD
  | .abs => call_abs
  | .min => crU (call_min2 hc) (cr_min hc)
  | .max => crU (call_max2 hc) (cr_max hc)
  | .int => crU call_int1 call_int_str
  | .str => call_str_int
  | .tuple => call_tuple_of
  | .list => crU call_list_of (call_listD hc)
  | .sum => cr_sum hc
  | .any => cr_any hc
  | .all => cr_all hc
  | .sortedset => cr_none
  | .sorted => cr_none
  | .lenset => cr_none
theorem toStr_eq (i : Int) : toStr i = (toString i : Str) := rfl
theorem log_of {i : Int} (h : strB i) : i.natAbs.log2 < 1920 := by
  unfold strB at h
  omega
theorem keys_rvs : ∀ (ks : List Key) (ds : List D) (vs : List V), ks.length = ds.length → vs.length = ds.length → (∀ x : Str, Sum.inr x ∈ ks → PyData.strOk x = true) →
    Rvs W r H (((ks.map keyD).zip ds).map (·.1)) ((ks.zip vs).map fun kv => kV kv.1) := by
  intro ks
  induction ks with
  | nil => intro ds vs _ _ _; exact .nil
  | cons k ks ih =>
    intro ds vs h1 h2 h3
    cases ds with
    | nil => simp at h1
    | cons d ds =>
      cases vs with
      | nil => simp at h2
      | cons v vs =>
        refine .cons ?_ (ih ds vs (by simpa using h1) (by simpa using h2) fun x hx => h3 x (List.mem_cons_of_mem _ hx))
        cases k with
        | inl i => exact .int i
        | inr x => exact .str x (h3 x List.mem_cons_self)
theorem q_bi (m : Mt W r H hs) (x : Rvs W r H ds vs) : ∀ f : Bi, PD W Y σ r H (f.run ds hs) Q → RBi W.K f vs H Q
  | .len, p => by
    cases x with
    | nil => exact False.elim p
    | cons x t =>
      cases t with
      | cons _ _ => rename_i d _ _ _ _ _ _ _; cases d <;> exact False.elim p
      | nil =>
        rename_i d v
        cases d <;> first | exact False.elim p | skip
        case str z =>
          cases x
          simp only [Bi.run] at p
          split at p
          · rename_i hz
            exact .inl ⟨_, _, rfl, ⟨by rw [sl_eq]; exact hz, rfl⟩, pd_ok p m (.int _)⟩
          · exact False.elim p
        case tup es =>
          cases x with | tup t es =>
          exact .inl ⟨_, _, rfl, .inr ⟨_, t.sq, rfl⟩, by rw [es.length]; exact pd_ok p m (.int _)⟩
        case ref n =>
          cases x with | ref ha =>
          simp only [Bi.run] at p
          split at p
          · rename_i xs hx
            obtain ⟨us, h1, es⟩ := m.lst ha hx
            exact .inl ⟨_, _, rfl, .inl ⟨_, SqL.of h1, rfl⟩, by rw [es.length]; exact pd_ok p m (.int _)⟩
          · rename_i xs hx
            obtain ⟨ob, us, h1, es⟩ := m.frz ha hx
            exact .inl ⟨_, _, rfl, .inl ⟨_, .inl (.inr ⟨ob, h1⟩), rfl⟩, by rw [es.length]; exact pd_ok p m (.int _)⟩
          · rename_i xs hx
            obtain ⟨ks, ds, us, h1, h2, h3, h4, h5⟩ := m.at_ n _ _ ha hx
            refine .inr ⟨_, _, rfl, h1, ?_⟩
            have e : (ks.zip us).length = xs.length := by
              subst h2
              have := h5.length
              simp [List.length_zip] <;> omega
            rw [e]
            exact pd_ok p m (.int _)
          · exact False.elim p
  | .abs, p => by
    cases x with
    | nil => exact False.elim p
    | cons x t =>
      rename_i d _ _ _
      cases t with
      | cons _ _ => cases d <;> exact False.elim p
      | nil =>
        cases d <;> first | exact False.elim p | skip
        cases x
        exact ⟨_, rfl, pd_ok p m (.int _)⟩
  | .min, p => by
    cases x with
    | nil => exact False.elim p
    | cons x t =>
      rename_i d _ _ _
      cases t with
      | cons y t =>
        rename_i e _ _ _
        cases t with
        | cons _ _ => cases d <;> cases e <;> exact False.elim p
        | nil =>
          cases d <;> cases e <;> first | exact False.elim p | skip
          cases x; cases y
          exact .inl ⟨_, _, rfl, pd_ok p m (.int _)⟩
      | nil =>
        have p' : PD W Y σ r H (match listOf hs d with
          | some (.int i :: xs) => opt (intsL xs) (fun l => .int (leastI l i)) hs
          | _ => .bad) Q := by cases d <;> exact p
        split at p'
        · rename_i i xs hx
          obtain ⟨p1, us, rfl, h1, es⟩ := list_at m x hx
          obtain ⟨l, hl, p'⟩ := pd_opt p'
          cases es with | cons y es =>
          cases y
          have hu := ints_at es hl
          subst hu
          refine .inr ⟨p1, i :: l, rfl, h1, Nat.succ_pos _, fun z hz hm => ?_⟩
          have h2 := leastI_le l i
          have h3 := leastI_mem l i
          have h4 : z = leastI l i := by
            have h5 := hm _ h3
            rcases List.mem_cons.mp hz with e | e
            · subst e; omega
            · have := h2.2 _ e; omega
          rw [h4]
          exact pd_ok p' m (.int _)
        · exact False.elim p'
  | .max, p => by
    cases x with
    | nil => exact False.elim p
    | cons x t =>
      rename_i d _ _ _
      cases t with
      | cons y t =>
        rename_i e _ _ _
        cases t with
        | cons _ _ => cases d <;> cases e <;> exact False.elim p
        | nil =>
          cases d <;> cases e <;> first | exact False.elim p | skip
          cases x; cases y
          exact .inl ⟨_, _, rfl, pd_ok p m (.int _)⟩
      | nil =>
        have p' : PD W Y σ r H (match listOf hs d with
          | some (.int i :: xs) => opt (intsL xs) (fun l => .int (mostI l i)) hs
          | _ => .bad) Q := by cases d <;> exact p
        split at p'
        · rename_i i xs hx
          obtain ⟨p1, us, rfl, h1, es⟩ := list_at m x hx
          obtain ⟨l, hl, p'⟩ := pd_opt p'
          cases es with | cons y es =>
          cases y
          have hu := ints_at es hl
          subst hu
          refine .inr ⟨p1, i :: l, rfl, h1, Nat.succ_pos _, fun z hz hm => ?_⟩
          have h2 := mostI_le l i
          have h3 := mostI_mem l i
          have h4 : z = mostI l i := by
            have h5 := hm _ h3
            rcases List.mem_cons.mp hz with e | e
            · subst e; omega
            · have := h2.2 _ e; omega
          rw [h4]
          exact pd_ok p' m (.int _)
        · exact False.elim p'
  | .int, p => by
    cases x with
    | nil => exact False.elim p
    | cons x t =>
      rename_i d _ _ _
      cases t with
      | cons _ _ => cases d <;> exact False.elim p
      | nil =>
        cases d <;> first | exact False.elim p | skip
        case bl => cases x; exact .inl (.inr ⟨_, rfl, pd_ok p m (.int _)⟩)
        case int => cases x; exact .inl (.inl ⟨_, rfl, pd_ok p m (.int _)⟩)
        case str =>
          cases x
          simp only [Bi.run] at p
          split at p
          · rename_i hz
            obtain ⟨n, hn, p⟩ := pd_opt p
            exact .inr ⟨_, n, rfl, hn, hz, pd_ok p m (.int _)⟩
          · exact False.elim p
  | .str, p => by
    cases x with
    | nil => exact False.elim p
    | cons x t =>
      rename_i d _ _ _
      cases t with
      | cons _ _ => cases d <;> exact False.elim p
      | nil =>
        cases d <;> first | exact False.elim p | skip
        cases x
        simp only [Bi.run] at p
        split at p
        · rename_i hz
          exact ⟨_, rfl, log_of hz.1, pd_ok p m (.str _ hz.2)⟩
        · exact False.elim p
  | .tuple, p => by
    cases x with
    | nil => exact False.elim p
    | cons x t =>
      cases t with
      | cons _ _ => exact False.elim p
      | nil =>
        simp only [Bi.run] at p
        obtain ⟨l, hl, p'⟩ := pd_opt p
        rename_i d _
        cases d <;> first | (cases hl; done) | skip
        case tup =>
          cases x with | tup t es' =>
          cases hl
          exact ⟨_, _, rfl, .inr ⟨t.sq, pd_ok p' m (.tup t es')⟩⟩
        case ref n =>
          cases x with | ref ha =>
          simp only [itemsOf] at hl
          split at hl
          · rename_i xs hx
            cases hl
            obtain ⟨us, h1, es⟩ := m.lst ha hx
            exact ⟨_, _, rfl, .inl ⟨SqL.of h1, pd_tup p' m es⟩⟩
          · rename_i xs hx
            cases hl
            obtain ⟨ob, us, h1, es⟩ := m.frz ha hx
            exact ⟨_, _, rfl, .inl ⟨.inl (.inr ⟨ob, h1⟩), pd_tup p' m es⟩⟩
          · cases hl
  | .list, p => by
    cases x with
    | nil => exact False.elim p
    | cons x t =>
      rename_i d _ _ _
      cases t with
      | cons _ _ => cases d <;> exact False.elim p
      | nil =>
        cases d <;> first | exact False.elim p | skip
        case tup =>
          cases x with | tup t es =>
          exact .inl ⟨_, _, rfl, .inr t.sq, pd_lst p m es⟩
        case ref n =>
          cases x with | ref ha =>
          simp only [Bi.run] at p
          split at p
          · rename_i xs hx
            obtain ⟨us, h1, es⟩ := m.lst ha hx
            exact .inl ⟨_, _, rfl, .inl (SqL.of h1), pd_lst p m es⟩
          · rename_i xs hx
            obtain ⟨ob, us, h1, es⟩ := m.frz ha hx
            exact .inl ⟨_, _, rfl, .inl (.inl (.inr ⟨ob, h1⟩)), pd_lst p m es⟩
          · rename_i xs hx
            obtain ⟨ks, ds, us, h1, h2, h3, h4, h5⟩ := m.at_ n _ _ ha hx
            subst h2
            exact .inr ⟨_, _, rfl, .inl h1, pd_lst p m (keys_rvs ks ds us h3 h5.length h4.2)⟩
          · exact False.elim p
  | .sum, p => by
    cases x with
    | nil => exact False.elim p
    | cons x t =>
      cases t with
      | cons _ _ => exact False.elim p
      | nil =>
        simp only [Bi.run] at p
        obtain ⟨l, hl, p⟩ := pd_opt p
        obtain ⟨l1, hl1, hl2⟩ := Option.bind_eq_some_iff.mp hl
        obtain ⟨p1, us, rfl, h1, es⟩ := list_at m x hl1
        have hu := ints_at es hl2
        subst hu
        exact ⟨p1, l, rfl, h1, pd_ok p m (.int _)⟩
  | .any, p => by
    cases x with
    | nil => exact False.elim p
    | cons x t =>
      cases t with
      | cons _ _ => exact False.elim p
      | nil =>
        simp only [Bi.run] at p
        obtain ⟨l, hl, p⟩ := pd_opt p
        obtain ⟨l1, hl1, hl2⟩ := Option.bind_eq_some_iff.mp hl
        obtain ⟨p1, us, rfl, h1, es⟩ := list_at m x hl1
        have hu := bools_at es hl2
        subst hu
        exact ⟨p1, l, rfl, h1, pd_ok p m (.bl _)⟩
  | .all, p => by
    cases x with
    | nil => exact False.elim p
    | cons x t =>
      cases t with
      | cons _ _ => exact False.elim p
      | nil =>
        simp only [Bi.run] at p
        obtain ⟨l, hl, p⟩ := pd_opt p
        obtain ⟨l1, hl1, hl2⟩ := Option.bind_eq_some_iff.mp hl
        obtain ⟨p1, us, rfl, h1, es⟩ := list_at m x hl1
        have hu := bools_at es hl2
        subst hu
        exact ⟨p1, l, rfl, h1, pd_ok p m (.bl _)⟩
  | .sortedset, p => by
    cases x with
    | nil => exact False.elim p
    | cons x t => rename_i d _ _ _; cases t <;> cases d <;> exact False.elim p
  | .sorted, p => by
    cases x with
    | nil => exact False.elim p
    | cons x t => rename_i d _ _ _; cases t <;> cases d <;> exact False.elim p
  | .lenset, p => by
    cases x with
    | nil => exact False.elim p
    | cons x t => rename_i d _ _ _; cases t <;> cases d <;> exact False.elim p
end
end Q

/-! stores into lists and dicts, built-in methods: mine against the layer's -/
namespace Q
open PySem PySem.Spec PyProof.Rows L2

section
variable {X : Cx} {W : Wd} {Y : WX} {σ : L2.St} {r : List Addr} {H : Hp} {hs : Hs} {Q : VK} {d e : D} {v u : V} {ds : List D} {vs : List V}

/-! ### dicts, rewritten -/
def putR (q : Key) (w : V) : List (Key × V) → List (Key × V)
  | [] => [(q, w)]
  | (a, u) :: l => if a = q then (a, w) :: l else (a, u) :: putR q w l
theorem putK_cons_ne {a q : Key} {u w : V} {l : List (Key × V)} (h : ¬ a = q) : putK ((a, u) :: l) q w = (a, u) :: putK l q w := by
  unfold putK
  simp only [List.any_cons, decide_eq_false h, Bool.false_or]
  split
  · simp [h]
  · simp
theorem map_id_of {q : Key} {w : V} : ∀ {l : List (Key × V)}, q ∉ l.map (·.1) → (l.map fun kv => if kv.1 = q then (kv.1, w) else kv) = l
  | [], _ => rfl
  | (a, u) :: l, h => by
    have h1 : ¬ a = q := fun e => h (by simp [e])
    have h2 : q ∉ l.map (·.1) := fun e => h (by simp at e ⊢; exact .inr e)
    simp only [List.map_cons, h1, if_false]
    rw [map_id_of h2]
theorem putK_R {q : Key} {w : V} : ∀ {l : List (Key × V)}, (l.map (·.1)).Nodup → putK l q w = putR q w l
  | [], _ => by simp [putK, putR]
  | (a, u) :: l, h => by
    rw [List.map_cons, List.nodup_cons] at h
    by_cases e : a = q
    · subst e
      have e1 : putK ((a, u) :: l) a w = (a, w) :: l := by
        unfold putK
        simp only [List.any_cons, decide_true, Bool.true_or, if_true, List.map_cons]
        rw [map_id_of h.1]
      rw [e1]
      simp [putR]
    · rw [putK_cons_ne e, putK_R h.2]
      simp [putR, e]
def delR (q : Key) : List (Key × V) → List (Key × V)
  | [] => []
  | (a, u) :: l => if a = q then l else (a, u) :: delR q l
theorem filter_id_of {q : Key} : ∀ {l : List (Key × V)}, q ∉ l.map (·.1) → (l.filter fun kv => decide (kv.1 ≠ q)) = l := by
  intro l h
  rw [List.filter_eq_self]
  intro kv hk
  have : kv.1 ≠ q := fun e => h (e ▸ List.mem_map_of_mem hk)
  simpa using this
theorem dropK_R {q : Key} : ∀ {l : List (Key × V)}, (l.map (·.1)).Nodup → dropK l q = delR q l
  | [], _ => rfl
  | (a, u) :: l, h => by
    rw [List.map_cons, List.nodup_cons] at h
    by_cases e : a = q
    · subst e
      unfold dropK
      rw [List.filter_cons]
      simp only [ne_eq, not_true_eq_false, decide_false, Bool.false_eq_true, if_false, delR, if_true]
      exact filter_id_of h.1
    · have h2 := dropK_R (q := q) h.2
      unfold dropK at h2 ⊢
      rw [List.filter_cons, h2]
      simp [delR, e]
theorem zip_fst {ks : List Key} : ∀ {vs : List V}, vs.length = ks.length → (ks.zip vs).map (·.1) = ks := by
  induction ks with
  | nil => intro vs _; rfl
  | cons k ks ih =>
    intro vs h
    cases vs with
    | nil => simp at h
    | cons v vs => simp only [List.zip_cons_cons, List.map_cons]; rw [ih (by simpa using h)]
theorem put_zip (q : Key) (x : Rv W r H e v) : ∀ (ks : List Key) (ds : List D) (vs : List V), ks.length = ds.length → Rvs W r H ds vs → ks.Nodup →
    ∃ (ks' : List Key) (ds' : List D) (vs' : List V), putR q v (ks.zip vs) = ks'.zip vs' ∧ dput (keyD q) e ((ks.map keyD).zip ds) = (ks'.map keyD).zip ds' ∧ ks'.length = ds'.length ∧ Rvs W r H ds' vs' ∧ ks'.Nodup ∧ (∀ k ∈ ks', k = q ∨ k ∈ ks)
  | [], ds, vs, h, t, _ => by
    cases t with
    | nil => exact ⟨[q], [e], [v], rfl, rfl, rfl, .cons x .nil, by simp, by simp⟩
    | cons _ _ => simp at h
  | k :: ks, [], _, h, _, _ => by simp at h
  | k :: ks, d :: ds, _, h, .cons (v := w) (vs := vs) y t, nd => by
    rw [List.nodup_cons] at nd
    simp only [List.zip_cons_cons, List.map_cons, putR, dput, key_deq]
    by_cases eq : k = q
    · simp only [eq, if_true, decide_true]
      exact ⟨q :: ks, e :: ds, v :: vs, rfl, rfl, by simpa using h, .cons x t, List.nodup_cons.mpr ⟨eq ▸ nd.1, nd.2⟩, fun k' hk' => by
        rcases List.mem_cons.mp hk' with e1 | e1
        · exact .inl e1
        · exact .inr (List.mem_cons_of_mem _ e1)⟩
    · obtain ⟨ks', ds', vs', h1, h2, h3, h4, h5, h6⟩ := put_zip q x ks ds vs (by simpa using h) t nd.2
      simp only [eq, if_false, decide_false, Bool.false_eq_true]
      refine ⟨k :: ks', d :: ds', w :: vs', by rw [h1]; rfl, by rw [h2]; rfl, by simp [h3], .cons y h4, List.nodup_cons.mpr ⟨fun hk => ?_, h5⟩, fun k' hk' => ?_⟩
      · rcases h6 k hk with e1 | e1
        · exact eq e1
        · exact nd.1 e1
      · rcases List.mem_cons.mp hk' with e1 | e1
        · exact .inr (e1 ▸ List.mem_cons_self)
        · rcases h6 k' e1 with e2 | e2
          · exact .inl e2
          · exact .inr (List.mem_cons_of_mem _ e2)
theorem del_zip (q : Key) : ∀ (ks : List Key) (ds : List D) (vs : List V), ks.length = ds.length → Rvs W r H ds vs → ks.Nodup →
    ∃ (ks' : List Key) (ds' : List D) (vs' : List V), delR q (ks.zip vs) = ks'.zip vs' ∧ ddel (keyD q) ((ks.map keyD).zip ds) = (ks'.map keyD).zip ds' ∧ ks'.length = ds'.length ∧ Rvs W r H ds' vs' ∧ ks'.Nodup ∧ (∀ k ∈ ks', k ∈ ks)
  | [], ds, vs, h, t, _ => ⟨[], [], [], rfl, by simp [ddel], rfl, .nil, by simp, by simp⟩
  | k :: ks, [], _, h, _, _ => by simp at h
  | k :: ks, d :: ds, _, h, .cons (v := w) (vs := vs) y t, nd => by
    rw [List.nodup_cons] at nd
    simp only [List.zip_cons_cons, List.map_cons, delR, ddel, key_deq]
    by_cases eq : k = q
    · simp only [eq, if_true, decide_true]
      exact ⟨ks, ds, vs, rfl, rfl, by simpa using h, t, nd.2, fun k' hk' => List.mem_cons_of_mem _ hk'⟩
    · obtain ⟨ks', ds', vs', h1, h2, h3, h4, h5, h6⟩ := del_zip q ks ds vs (by simpa using h) t nd.2
      simp only [eq, if_false, decide_false, Bool.false_eq_true]
      refine ⟨k :: ks', d :: ds', w :: vs', by rw [h1]; rfl, by rw [h2]; rfl, by simp [h3], .cons y h4, List.nodup_cons.mpr ⟨fun hk => nd.1 (h6 k hk), h5⟩, fun k' hk' => ?_⟩
      rcases List.mem_cons.mp hk' with e1 | e1
      · exact e1 ▸ List.mem_cons_self
      · exact List.mem_cons_of_mem _ (h6 k' e1)

/-! ### o[i] = v -/
theorem psU {a b : TSet} (h : PSet X a) (k : PSet X b) : PSet X (fun o i v H Q => a o i v H Q ∨ b o i v H Q) := by
  intro pins s σ H o i v ov iv u Q I ro ri rv q
  rcases q with q | q
  · exact h pins s σ H o i v ov iv u Q I ro ri rv q
  · exact k pins s σ H o i v ov iv u Q I ro ri rv q
def RSetD : TSet := fun o i v H Q => ∃ a H', o = .ref a ∧ DPut H a i v H' ∧ Q H'
theorem set_dic (hu : X.A.units + 1 < cLine) : PSet X RSetD := by
  intro pins s σ H o i v ov iv u Q I ro ri rv h
  obtain ⟨a, H', eo, g, q⟩ := h
  subst eo
  cases ro
  exact d_setItem hu I g ri rv fun s' I' => ⟨H', I', q⟩
abbrev RSet : TSet := fun o i v H Q => rSetL o i v H Q ∨ RSetD o i v H Q
theorem set_U (hu : X.A.units + 1 < cLine) : PSet X RSet := psU set_list (set_dic hu)
theorem dk_lt (m : Mt W r H hs) {n : Nat} {a : Addr} {kvs : List (D × D)} (ha : r[n]? = some a) (hx : hs[n]? = some (.dic false kvs)) (hl : kvs.length < SZ) (k : kOk false d = true) (x : Rv W r H d v) (y : Rv W r H e u) :
    ∃ o, DPut H a v u (upd H a o) ∧ OAt W r (upd H a o) a (.dic false (dput d e kvs)) := by
  obtain ⟨ks, ds, vs, h1, h2, h3, h4, h5⟩ := m.at_ n a _ ha hx
  obtain ⟨q, rfl, rfl⟩ := key_at k x
  have hlen : vs.length = ks.length := by rw [h5.length, h3]
  obtain ⟨ks', ds', vs', g1, g2, g3, g4, g5, g6⟩ := put_zip q y ks ds vs h3 h5 h4.1
  refine ⟨.dK (putK (ks.zip vs) q u), DPut.k h1 ?_, ?_⟩
  · have e1 : (ks.zip vs).length = kvs.length := by
      subst h2
      simp [List.length_zip, hlen, h3]
    rw [e1, sl_eq]
    exact hl
  · have e2 : putK (ks.zip vs) q u = ks'.zip vs' := by rw [putK_R (by rw [zip_fst hlen]; exact h4.1), g1]
    refine ⟨ks', ds', vs', by rw [← e2]; exact upd_same, by subst h2; exact g2, g3, ⟨g5, fun z hz => ?_⟩, g4.mono (ext_set m ha _)⟩
    rcases g6 _ hz with e3 | e3
    · subst e3
      simp only [kV] at x
      cases x with | str _ kk => exact kk
    · exact h4.2 z e3
theorem q_set (m : Mt W r H hs) {d1 d2 d3 : D} {v1 v2 v3 : V} (x : Rv W r H d1 v1) (y : Rv W r H d2 v2) (z : Rv W r H d3 v3) {hs' : Hs} (h : setI d1 d2 d3 hs = some hs') {P : Hp → Prop}
    (p : ∀ H', Ext r H r H' → Mt W r H' hs' → P H') : RSet v1 v2 v3 H P := by
  cases d1 <;> first | (cases h; done) | skip
  case ref n =>
    cases x with | ref ha =>
    simp only [setI] at h
    split at h
    · rename_i _ _ xs i hx
      cases y
      obtain ⟨vs, h1, es⟩ := m.lst ha hx
      cases q : ixN xs.length i with
      | none => rw [q] at h; cases h
      | some j =>
        rw [q] at h
        cases h
        refine .inl ⟨_, vs, i, j, rfl, rfl, h1, by rw [es.length]; exact q, p _ (ext_set m ha _) (m.set ha (set_lst m ha (es.set z j)))⟩
    · rename_i t kvs hx
      split at h
      · rename_i hk
        cases h
        cases t with
        | true => rename_i k2 _ _; cases k2 <;> simp [kOk] at hk
        | false =>
          obtain ⟨o, g1, g2⟩ := dk_lt m ha hx hk.2 hk.1 y z
          exact .inr ⟨_, _, rfl, g1, p _ (ext_set m ha _) (m.set ha g2)⟩
      · cases h
    · cases h

/-! ### built-in methods -/
abbrev RM := V → List V → Hp → VK → Prop
abbrev RInsert : RM := fun x vs H Q => ∃ (l : Addr) (xs : List V) (i : Int) (y : V), x = .ref l ∧ vs = [.int i, y] ∧ H l = some (.lst xs) ∧ xs.length < sizeLine ∧ 0 ≤ i ∧ i < 2 ^ 63 ∧ Q .non (upd H l (.lst (xs.take i.toNat ++ [y] ++ xs.drop i.toNat)))
abbrev RSplit : RM := fun x xs H Q => ∃ a b, x = .str a ∧ xs = [.str b] ∧ (b.length == 0) = false ∧ a.length + 2 ≤ sizeLine ∧ rNewStrs (Txt.split a b) H Q
abbrev RJoin (K : PySem.W.Frag) : RM := fun x xs H Q => ∃ a p, ∃ ys : List Str, x = .str a ∧ xs = [.ref p] ∧ (SqL K H p (ys.map V.str) ∨ SqT K H p (ys.map V.str)) ∧ (ys.map (·.length)).sum + ys.length * a.length ≤ 16777216 ∧ Q (.str (Txt.join a ys)) H
def RDget : RM := fun x xs H Q => ∃ a y d o, x = .ref a ∧ xs = [y, d] ∧ DGet H a y o ∧ Q (o.getD d) H
def RDpop : RM := fun x xs H Q => ∃ a kvs k v, x = .ref a ∧ xs = [kV k] ∧ H a = some (.dK kvs) ∧ valV kvs k = some v ∧ Q v (upd H a (.dK (dropK kvs k)))
def RCount (K : PySem.W.Frag) : RM := fun x xs H Q => ∃ (a : Addr) (ys : List V) (y : V) (d : PyData) (ds : List PyData), x = V.ref a ∧ xs = [y] ∧ SqL K H a ys ∧ DpAll K H ys ds ∧ Dp K H y d ∧ PyData.canLayAll0 ds = true ∧ d.canLay0 = true ∧ min (PyData.depthAll ds) d.depth ≤ 150 ∧
  Q (.int (ds.countP fun z => PyData.eqv z d : Nat)) H
def RBm (K : PySem.W.Frag) : Bm → RM
  | .append => rAppend
  | .extend => rExtend
  | .insert => RInsert
  | .pop => rPop
  | .popAt => rPopAt
  | .clear => rClear
  | .count => RCount K
  | .index => rIndexD K
  | .split => RSplit
  | .join => RJoin K
  | .get => RDget
  | .dpop => RDpop
  | .indexFrom => fun _ _ _ _ => False
def Rk.ty : Rk → String
  | .s => "str"
  | .d => "dict"
  | .l => "list"
def Bm.ty (m : Bm) : String := m.rk.ty
def Bm.name : Bm → String
  | .append => "append"
  | .extend => "extend"
  | .insert => "insert"
  | .pop | .popAt | .dpop => "pop"
  | .clear => "clear"
  | .count => "count"
  | .index | .indexFrom => "index"
  | .split => "split"
  | .join => "join"
  | .get => "get"
def Bm.id : Bm → String
  | .append => "list.append"
  | .extend => "list.extend"
  | .insert => "list.insert"
  | .pop => "list.pop"
  | .popAt => "list.pop"
  | .clear => "list.clear"
  | .count => "list.count"
  | .index => "list.index"
  | .split => "str.split"
  | .join => "str.join"
  | .get => "dict.get"
  | .dpop => "dict.pop"
  | .indexFrom => "list.index"
theorem mt_dget (hu : X.A.units + 1 < cLine) : MtR X "dict.get" RDget := by
  intro pins s σ H x xs v us Q I rx rxs h
  obtain ⟨a, y, d, o, rfl, rfl, g, q⟩ := h
  cases rx
  obtain ⟨u1, u2, rfl, r1, r2⟩ := rxs.two
  exact d_get2 hu I g r1 r2 fun w' s' I' rw' => ⟨_, H, I', rw', q⟩
theorem mt_dpop : MtR X "dict.pop" RDpop := by
  intro pins s σ H x xs v us Q I rx rxs h
  obtain ⟨a, kvs, k, w, rfl, rfl, hh, hv, q⟩ := h
  cases rx
  obtain ⟨u1, rfl, r1⟩ := rxs.one
  exact d_pop I hh r1 hv (.inl rfl) fun w' s' I' rw' => ⟨_, _, I', rw', q⟩
theorem mt_countD (hu : X.A.units + 152 < cLine) : MtR X "list.count" (RCount X.K) := by
  intro pins s σ H x xs v us Q I rx rxs h
  obtain ⟨a, ys, y, d, ds, rfl, rfl, hs, ha, hy, c1, c2, dd, q⟩ := h
  cases rx
  obtain ⟨u1, rfl, ry⟩ := rxs.one
  obtain ⟨bs, r1⟩ := Dp.reads I d y u1 hy ry
  obtain ⟨its, rv, ⟨⟨cls, d0, data, sls⟩, n, ho, hc, hdn, hdt⟩, hlen⟩ := I.list hs
  simp only at hc hdt
  subst hc hdt
  obtain ⟨as, h4⟩ := Dp.readsAll I ds _ its ha rv
  have hmap : its.map (SeqAt.readOf s.heap) = ds := SeqAt.readsAll_map ds its as c1 h4
  refine call_meets PySem.F.slot_list_count ⟨_, ho, rfl⟩ PySem.F.entry_list_count (PySem.F.args_list_count_2 _ _)
    (SeqAt.list_countAt a its.toArray n d0 sls u1 (fun u => PyData.eqv (SeqAt.readOf s.heap u) d)) ⟨ho, SeqAt.items_eqAt (vs := its.toArray) (show ReadsAll s.heap its.toArray.toList ds as from h4) r1 c1 c2 (by omega), ?_⟩
  have e : its.toArray.toList.countP (fun u => (SeqAt.readOf s.heap u).eqv d) = ds.countP fun z => PyData.eqv z d := by
    rw [← hmap, List.countP_map]
    rfl
  rw [e]
  exact ⟨.int (ds.countP fun z => PyData.eqv z d : Nat), H, I.tok _, ⟨_, rfl⟩, q⟩
theorem mt_bm (hu : X.A.units + 152 < cLine) : ∀ m : Bm, MtR X m.id (RBm X.K m)
  | .append => mt_append
  | .extend => mt_extend
  | .insert => mt_insert
  | .pop => mt_pop
  | .popAt => mt_popAt
  | .clear => mt_clear
  | .count => mt_countD hu
  | .index => mt_indexD (by omega)
  | .split => mt_split
  | .join => mt_join
  | .get => mt_dget (by omega)
  | .dpop => mt_dpop
  | .indexFrom => fun _ _ _ _ _ _ _ _ _ _ _ _ h => h.elim
theorem bm_slot : ∀ m : Bm, PlainAttrs m.ty ∧ Slot m.ty (Str.ofString m.name) m.id ∧ typeOf (.builtin m.id) = pure (.type "method_descriptor")
  | .append => ⟨F.plainAttrs_list, F.slot_list_append, F.type_list_append⟩
  | .extend => ⟨F.plainAttrs_list, F.slot_list_extend, F.type_list_extend⟩
  | .insert => ⟨F.plainAttrs_list, F.slot_list_insert, F.type_list_insert⟩
  | .pop => ⟨F.plainAttrs_list, F.slot_list_pop, F.type_list_pop⟩
  | .popAt => ⟨F.plainAttrs_list, F.slot_list_pop, F.type_list_pop⟩
  | .clear => ⟨F.plainAttrs_list, F.slot_list_clear, F.type_list_clear⟩
  | .count => ⟨F.plainAttrs_list, F.slot_list_count, F.type_list_count⟩
  | .index => ⟨F.plainAttrs_list, F.slot_list_index, F.type_list_index⟩
  | .split => ⟨F.plainAttrs_str, F.slot_str_split, F.type_str_split⟩
  | .join => ⟨F.plainAttrs_str, F.slot_str_join, F.type_str_join⟩
  | .get => ⟨F.plainAttrs_dict, F.slot_dict_get, F.type_dict_get⟩
  | .dpop => ⟨F.plainAttrs_dict, F.slot_dict_pop, F.type_dict_pop⟩
  | .indexFrom => ⟨F.plainAttrs_list, F.slot_list_index, F.type_list_index⟩
theorem rsFs_len {f : Nat → Option D} : ∀ {xs ys : List D}, rsFs f xs = some ys → ys.length = xs.length
  | [], _, h => by cases h; rfl
  | x :: xs, ys, h => by
    simp only [rsFs] at h
    split at h
    · rename_i a b h1 h2
      cases h
      simp [rsFs_len h2]
    · cases h
theorem toPs_map : ∀ ys : List D, toPs ys = ys.map toP
  | [] => rfl
  | y :: ys => by rw [toPs, toPs_map ys]; rfl
theorem purs_mem : ∀ {ys : List D} {y : D}, purs ys = true → y ∈ ys → pur y = true
  | [], _, _, h => nomatch h
  | x :: xs, y, h, k => by
    simp only [purs, Bool.and_eq_true] at h
    rcases List.mem_cons.mp k with e | e
    · subst e; exact h.1
    · exact purs_mem h.2 e
/-- a list read as data -/
theorem rdN_lst (m : Mt W r H hs) {n : Nat} {a : Addr} {ys : List D} (ha : r[n]? = some a) (h : rdN hs 7 n = some (.lv ys)) : ∃ us, SqL W.K H a us ∧ Gds W.K H us ys := by
  unfold rdN at h
  split at h
  · rename_i xs hx
    obtain ⟨vs, h1, h2⟩ := m.lst ha hx
    cases q : rsFs (rdN hs 6) xs with
    | none => rw [q] at h; cases h
    | some ys =>
      rw [q] at h
      cases h
      exact ⟨vs, SqL.of h1, rs_gds (rdN_gd m 6) h2 q⟩
  · rename_i xs hx
    obtain ⟨ob, vs, h1, h2⟩ := m.frz ha hx
    cases q : rsFs (rdN hs 6) xs with
    | none => rw [q] at h; cases h
    | some ys =>
      rw [q] at h
      cases h
      exact ⟨vs, .inl (.inr ⟨ob, h1⟩), rs_gds (rdN_gd m 6) h2 q⟩
  · cases h
theorem rvs_strs : ∀ {l : List Str}, (l.all PyData.strOk) = true → Rvs W r H (l.map .str) (l.map V.str)
  | [], _ => .nil
  | x :: l, h => by
    rw [List.all_cons, Bool.and_eq_true] at h
    exact .cons (.str x h.1) (rvs_strs h.2)
theorem tyL {p : Addr} {us : List V} {K : PySem.W.Frag} (h : SqL K H p us) : tyV K "list" (.ref p) H := .inl ⟨rfl, us, h⟩
theorem q_bm_ty (m : Mt W r H hs) (x : Rv W r H d v) (f : Bm) (h : bmK f d hs = true) : tyV W.K f.ty v H := by
  cases d <;> first | (cases h; done) | skip
  case str =>
    cases x
    simp only [bmK, beq_iff_eq] at h
    show f.ty = "str"
    rw [Bm.ty, h]; rfl
  case ref n =>
    cases x with | ref ha =>
    simp only [bmK] at h
    split at h
    · rename_i xs hx
      obtain ⟨vs, h1, _⟩ := m.lst ha hx
      rw [beq_iff_eq] at h
      rw [Bm.ty, h]
      exact tyL (SqL.of h1)
    · rename_i xs hx
      obtain ⟨ob, vs, h1, _⟩ := m.frz ha hx
      rw [beq_iff_eq] at h
      rw [Bm.ty, h]
      exact tyL (.inl (.inr ⟨ob, h1⟩))
    · rename_i t kvs hx
      rw [beq_iff_eq] at h
      rw [Bm.ty, h]
      cases t with
      | false =>
        obtain ⟨ks, ds, vs, h1, _⟩ := m.at_ n _ _ ha hx
        exact .inr (.inr (.inl ⟨rfl, .inl ⟨_, h1⟩⟩))
      | true =>
        obtain ⟨ks, ds, vs, h1, _⟩ := m.at_ n _ _ ha hx
        exact .inr (.inr (.inl ⟨rfl, .inr ⟨_, h1⟩⟩))
    · cases h
theorem rvs0 (x : Rvs W r H [] vs) : vs = [] := by cases x; rfl
theorem rvs1 {a : D} (x : Rvs W r H [a] vs) : ∃ u, vs = [u] ∧ Rv W r H a u := by
  cases x with | cons h t => cases t; exact ⟨_, rfl, h⟩
theorem rvs2 {a b : D} (x : Rvs W r H [a, b] vs) : ∃ u w, vs = [u, w] ∧ Rv W r H a u ∧ Rv W r H b w := by
  cases x with | cons h t => cases t with | cons h2 t2 => cases t2; exact ⟨_, _, rfl, h, h2⟩
theorem data_one (m : Mt W r H hs) {n : Nat} {a : Addr} {ys : List D} {x : D} (ha : r[n]? = some a) (h : rdN hs 7 n = some (.lv ys)) (xd : Rv W r H d v) (hx : rsv hs d = some x) :
    ∃ us, SqL W.K H a us ∧ DpAll W.K H us (toPs ys) ∧ PyData.canLayAll0 (toPs ys) = true ∧ Dp W.K H v (toP x) ∧ (toP x).canLay0 = true ∧ ∀ y ∈ ys, deq y x = PyData.eqv (toP y) (toP x) := by
  obtain ⟨us, h1, g⟩ := rdN_lst m ha h
  have gx := rsv_gd m xd hx
  exact ⟨us, h1, g.dp, g.can, gx.dp, gx.can, fun y hy => deq_toP y x (purs_mem g.pu hy) gx.pu⟩
theorem q_bm (m : Mt W r H hs) (x : Rv W r H d v) (xs : Rvs W r H ds vs) : ∀ f : Bm, PD W Y σ r H (f.run d ds hs) Q → RBm W.K f v vs H Q
  | .append, p => by
    cases d <;> first | exact False.elim p | skip
    rcases ds with _ | ⟨a, _ | ⟨b, ds⟩⟩ <;> first | exact False.elim p | skip
    obtain ⟨u, rfl, ru⟩ := rvs1 xs
    cases x with | ref ha =>
    simp only [Bm.run] at p
    split at p
    · rename_i l hx
      split at p
      · rename_i hz
        obtain ⟨us, h1, es⟩ := m.lst ha hx
        exact ⟨_, us, u, rfl, rfl, h1, by rw [sl_eq, es.length]; exact hz, pd_set p m ha (set_lst m ha (es.append (.cons ru .nil))) .non⟩
      · exact False.elim p
    · exact False.elim p
  | .extend, p => by
    cases d <;> first | exact False.elim p | skip
    rcases ds with _ | ⟨a, _ | ⟨b, ds⟩⟩ <;> first | exact False.elim p | skip
    · cases a <;> first | exact False.elim p | skip
      obtain ⟨u, rfl, ru⟩ := rvs1 xs
      cases x with | ref ha =>
      cases ru with | ref hb =>
      simp only [Bm.run] at p
      split at p
      · rename_i l l2 hx hy
        split at p
        · rename_i hz
          obtain ⟨us, h1, es⟩ := m.lst ha hx
          obtain ⟨us2, h2, es2⟩ := m.lst hb hy
          exact ⟨_, _, us, us2, rfl, rfl, h1, h2, by rw [sl_eq, es.length, es2.length]; exact hz, pd_set p m ha (set_lst m ha (es.append es2)) .non⟩
        · exact False.elim p
      · exact False.elim p
    · cases a <;> exact False.elim p
  | .insert, p => by
    cases d <;> first | exact False.elim p | skip
    rcases ds with _ | ⟨a, _ | ⟨b, _ | ⟨c, ds⟩⟩⟩ <;> first | exact False.elim p | (cases a <;> exact False.elim p) | skip
    cases a <;> first | exact False.elim p | skip
    obtain ⟨u, w, rfl, ru, rw'⟩ := rvs2 xs
    cases x with | ref ha =>
    cases ru
    simp only [Bm.run] at p
    split at p
    · rename_i l hx
      split at p
      · rename_i hz
        obtain ⟨us, h1, es⟩ := m.lst ha hx
        have h63 : SZ < 2 ^ 63 := by decide
        refine ⟨_, us, _, w, rfl, rfl, h1, by rw [sl_eq, es.length]; exact hz.2.2, hz.1, ?_, ?_⟩
        · have h2 := hz.2.1
          have h3 := hz.2.2
          have h4 : ((SZ : Nat) : Int) < 2 ^ 63 := by decide
          omega
        · rw [List.append_assoc]
          exact pd_set p m ha (set_lst m ha ((es.take _).append (.cons rw' (es.drop _)))) .non
      · exact False.elim p
    · exact False.elim p
  | .pop, p => by
    cases d <;> first | exact False.elim p | skip
    rcases ds with _ | ⟨a, ds⟩ <;> first | exact False.elim p | skip
    have e0 := rvs0 xs
    subst e0
    cases x with | ref ha =>
    simp only [Bm.run] at p
    split at p
    · rename_i l hx
      split at p
      · rename_i y hz
        obtain ⟨us, h1, es⟩ := m.lst ha hx
        obtain ⟨w, hw, rw'⟩ := es.get hz
        exact ⟨_, us, w, rfl, rfl, h1, by rw [es.length]; exact hw, pd_set p m ha (set_lst m ha es.dropLast) (rw'.mono (ext_set m ha _))⟩
      · exact False.elim p
    · exact False.elim p
  | .popAt, p => by
    cases d <;> first | exact False.elim p | skip
    rcases ds with _ | ⟨a, _ | ⟨b, ds⟩⟩ <;> first | exact False.elim p | (cases a <;> exact False.elim p) | skip
    cases a <;> first | exact False.elim p | skip
    obtain ⟨u, rfl, ru⟩ := rvs1 xs
    cases x with | ref ha =>
    cases ru
    simp only [Bm.run] at p
    split at p
    · rename_i y l hx
      split at p
      · rename_i hz
        subst hz
        obtain ⟨us, h1, es⟩ := m.lst ha hx
        cases es with | cons ry es =>
        rename_i w us
        exact ⟨_, _, 0, 0, w, rfl, rfl, h1, by decide, by decide, by simp [seqIndex?], rfl, pd_set p m ha (set_lst m ha es) (ry.mono (ext_set m ha _))⟩
      · exact False.elim p
    · exact False.elim p
  | .clear, p => by
    cases d <;> first | exact False.elim p | skip
    rcases ds with _ | ⟨a, ds⟩ <;> first | exact False.elim p | skip
    have e0 := rvs0 xs
    subst e0
    cases x with | ref ha =>
    simp only [Bm.run] at p
    split at p
    · rename_i l hx
      obtain ⟨us, h1, es⟩ := m.lst ha hx
      exact ⟨_, us, rfl, rfl, h1, pd_set p m ha (set_lst m ha .nil) .non⟩
    · exact False.elim p
  | .count, p => by
    cases d <;> first | exact False.elim p | skip
    rcases ds with _ | ⟨a, _ | ⟨b, ds⟩⟩ <;> first | exact False.elim p | skip
    obtain ⟨u, rfl, ru⟩ := rvs1 xs
    cases x with | ref ha =>
    simp only [Bm.run] at p
    split at p
    · rename_i ys x' h1 h2
      split at p
      · rename_i hz
        obtain ⟨us, g1, g2, g3, g4, g5, g6⟩ := data_one m ha h1 ru h2
        refine ⟨_, us, u, _, _, rfl, rfl, g1, g2, g4, g3, g5, by rw [ddep_toP, ddeps_toP]; omega, ?_⟩
        have e : (toPs ys).countP (fun z => PyData.eqv z (toP x')) = ys.countP fun y => deq y x' := by
          rw [toPs_map, List.countP_map]
          exact List.countP_congr fun y hy => by rw [Function.comp, g6 y hy]
        rw [e]
        exact pd_ok p m (.int _)
      · exact False.elim p
    · exact False.elim p
  | .index, p => by
    cases d <;> first | exact False.elim p | skip
    rcases ds with _ | ⟨a, _ | ⟨b, ds⟩⟩ <;> first | exact False.elim p | skip
    obtain ⟨u, rfl, ru⟩ := rvs1 xs
    cases x with | ref ha =>
    simp only [Bm.run] at p
    split at p
    · rename_i ys x' h1 h2
      split at p
      · rename_i hz
        obtain ⟨us, g1, g2, g3, g4, g5, g6⟩ := data_one m ha h1 ru h2
        obtain ⟨j, hj, p⟩ := pd_opt p
        obtain ⟨k1, k2, k3⟩ := List.findIdx?_eq_some_iff_getElem.mp hj
        refine ⟨_, u, _, _, j, toP ys[j], rfl, rfl, .lst g1 g2, g4, ?_, ?_, ?_, ?_, ?_, pd_ok p m (.int _)⟩
        · unfold SeqAt.shaped
          rw [Bool.and_eq_true]
          exact ⟨by simpa [PyData.canLay0] using g3, decide_eq_true (by simp only [PyData.depth]; rw [ddeps_toP]; omega)⟩
        · unfold SeqAt.shaped
          rw [Bool.and_eq_true]
          exact ⟨g5, decide_eq_true (by rw [ddep_toP]; omega)⟩
        · rw [toPs_map, List.getElem?_map, List.getElem?_eq_getElem k1]; rfl
        · rw [← g6 _ (List.getElem_mem k1)]; exact k2
        · intro i z hi hz'
          rw [toPs_map, List.getElem?_map, List.getElem?_eq_getElem (by omega)] at hz'
          cases hz'
          rw [← g6 _ (List.getElem_mem _)]
          simpa using k3 i hi
      · exact False.elim p
    · exact False.elim p
  | .split, p => by
    cases d <;> first | exact False.elim p | skip
    rcases ds with _ | ⟨a, _ | ⟨b, ds⟩⟩ <;> first | exact False.elim p | (cases a <;> exact False.elim p) | skip
    cases a <;> first | exact False.elim p | skip
    obtain ⟨u, rfl, ru⟩ := rvs1 xs
    cases x
    cases ru
    simp only [Bm.run] at p
    split at p
    · rename_i hz
      exact ⟨_, _, rfl, rfl, by simpa using hz.1, by rw [sl_eq]; exact hz.2.1, pd_lst p m (rvs_strs hz.2.2)⟩
    · exact False.elim p
  | .join, p => by
    cases d <;> first | exact False.elim p | skip
    rcases ds with _ | ⟨a, _ | ⟨b, ds⟩⟩ <;> first | exact False.elim p | skip
    obtain ⟨u, rfl, ru⟩ := rvs1 xs
    cases x
    simp only [Bm.run] at p
    split at p
    · rename_i l hl
      split at p
      · rename_i hz
        obtain ⟨l1, e1, e2⟩ := Option.bind_eq_some_iff.mp hl
        obtain ⟨q, us, rfl, h1, es⟩ := items_at m ru e1
        have hu := strs_at es e2
        subst hu
        exact ⟨_, _, l, rfl, rfl, h1, hz.1, pd_ok p m (.str _ hz.2)⟩
      · exact False.elim p
    · exact False.elim p
  | .get, p => by
    cases d <;> first | exact False.elim p | skip
    rcases ds with _ | ⟨a, _ | ⟨b, _ | ⟨c, ds⟩⟩⟩ <;> first | exact False.elim p | skip
    obtain ⟨u, w, rfl, ru, rw'⟩ := rvs2 xs
    cases x with | ref ha =>
    simp only [Bm.run] at p
    split at p
    · rename_i t kvs hx
      split at p
      · rename_i hk
        have hd := dic_get m ha hx ru hk
        split at hd
        · rename_i e he
          obtain ⟨w2, g1, g2⟩ := hd
          refine ⟨_, _, _, _, rfl, rfl, g1, ?_⟩
          rw [he] at p
          exact pd_ok p m g2
        · rename_i he
          refine ⟨_, _, _, _, rfl, rfl, hd, ?_⟩
          rw [he] at p
          exact pd_ok p m rw'
      · exact False.elim p
    · exact False.elim p
  | .dpop, p => by
    cases d <;> first | exact False.elim p | skip
    rcases ds with _ | ⟨a, _ | ⟨b, ds⟩⟩ <;> first | exact False.elim p | skip
    obtain ⟨u, rfl, ru⟩ := rvs1 xs
    cases x with | ref ha =>
    simp only [Bm.run] at p
    split at p
    · rename_i kvs hx
      split at p
      · rename_i hk
        split at p
        · rename_i y hy
          obtain ⟨ks, ds, vs, h1, h2, h3, h4, h5⟩ := m.at_ _ _ _ ha hx
          obtain ⟨q, rfl, rfl⟩ := key_at hk ru
          have hlen : vs.length = ks.length := by rw [h5.length, h3]
          have hd := dlook_val q ks ds vs h3 h5
          rw [← h2, hy] at hd
          obtain ⟨w, hw, rw'⟩ := hd
          obtain ⟨ks', ds', vs', g1, g2, g3, g4, g5, g6⟩ := del_zip q ks ds vs h3 h5 h4.1
          have e2 : dropK (ks.zip vs) q = ks'.zip vs' := by rw [dropK_R (by rw [zip_fst hlen]; exact h4.1), g1]
          refine ⟨_, _, q, w, rfl, rfl, h1, hw, pd_set p m ha ⟨ks', ds', vs', by rw [← e2]; exact upd_same, by subst h2; exact g2, g3, ⟨g5, fun z hz => h4.2 z (g6 _ hz)⟩, g4.mono (ext_set m ha _)⟩ (rw'.mono (ext_set m ha _))⟩
        · exact False.elim p
      · exact False.elim p
    · exact False.elim p
  | .indexFrom, p => by
    cases d <;> exact False.elim p
end
end Q

/-! isinstance: mine against the layer's -/
namespace Q
open PySem PySem.Spec PyProof.Rows L2

/-! ### an exception that is kept: its class -/
section
variable {prog : Program} {w : World} {A : Around} {E : Value → Shared → Prop} {s : Shared} {K : PySem.W.Frag} {x D : Addr}
/-- x is a thing of the class at D -/
def IsAt (x D : Addr) (h : Heap) : Prop := ∃ (ox : Obj) (od : Option Obj), PySem.W.InstAt h x ox D od
theorem find_cls {od : Option Obj} (c : ExcC K D) : PySem.W.findObj K D od "__class__" = some (.bind (.builtin "getset_descriptor.__get__") (.builtin "object.__class__")) := by
  obtain ⟨cd, hc, _⟩ := PySem.W.any_some c.hd
  unfold PySem.W.findObj
  have e1 : PySem.W.clsIn K D = some cd := hc
  rw [e1]
  simp only [Option.bind_some, c.ha, c.hn, c.ht]
theorem exc_cls {Q : Option Value → Shared → Prop} (c : ExcC K D) (X : K.In s.heap) (I : IsAt x D s.heap) (h : Q (some (.ref D)) { s with toks := s.toks + 1 }) : wpAny (model prog w) A (getAttr? (.ref x) "__class__") Q E s := by
  obtain ⟨ox, od, I⟩ := I
  obtain ⟨hp, g, dr, t, os⟩ := s
  have Lt := I.type (M := model prog w)
  have La := PySem.W.looks_findIn (M := model prog w) X c.hg
  have Lb := PySem.W.looks_findIn (M := model prog w) X c.hk
  have Lc := PySem.W.looks_find (M := model prog w) X I (find_cls c)
  have Ls : PySem.W.Looks (model prog w) hp (isInstance (.ref x) (.type "BaseException")) true := Lt.andThen (PySem.W.looks_subIn X c.hs)
  have n0 : (false && onTheHeap (Value.builtin "BaseException.__getattribute__")) = false := rfl
  have n1 : (Value.builtin "BaseException.__getattribute__" == Value.builtin "object.__getattribute__") = false := by decide +kernel
  have n2 : (onTheHeap (Value.ref D) && Value.builtin "BaseException.__getattribute__" == Value.builtin "object.__getattribute__") = false := by rw [n1]; rfl
  unfold getAttr? getAttrBy? getAttrBy
  refine wpAny_bind (wpAny_mkText (wpAny_bind (wpAny_attempt (wpAny_holding (wpAny_bind (Lt.at (wpAny_bind (La.at ?_))))))))
  show wpAny _ _ (if (onTheHeap (Value.ref D) && Value.builtin "BaseException.__getattribute__" == Value.builtin "object.__getattribute__") = true then _ else _) _ _ _
  rw [n2, if_neg Bool.false_ne_true]
  unfold getAttrByItsOwn hookBefore
  refine wpAny_bind ?_
  rw [if_pos (show onTheHeap (Value.ref D) = true from rfl)]
  refine Lb.at (wpAny_bind (wpAny_attempt (wpAny_holding ?_)))
  unfold callGetattribute
  rw [n0, if_neg Bool.false_ne_true]
  unfold boundAndCalled
  rw [PySem.F.excAttr_ValueError.ga.bind (.ref x)]
  refine wpAny_bind (wpAny_pure ?_)
  show wpAny _ _ (PySem.call (.builtin "BaseException.__getattribute__") [.ref x, .str "__class__" t]) _ _ _
  refine wpAny_call (codeAny_call_builtin PySem.F.excAttr_ValueError.ga.plain PySem.F.entry_bexc_ga ?_)
  refine @PySem.W.check_slot (model prog w) _ _ ⟨hp, g, dr, t + 1, os⟩ "BaseException.__getattribute__" "BaseException" "__getattribute__" (.ref x) [.str "__class__" t] [] _ (by decide +kernel) (by decide +kernel) Ls (PySem.F.args_bexc_ga (.ref x) (.str "__class__" t)) ?_
  unfold Builtin.«object.__getattribute__»
  refine wpAny_bind (wpAny_of_eq (a := ((Value.ref x : Value), [Value.str "__class__" t])) (by first | rfl | (simp only [slotArgs]; rfl)) ?_)
  refine wpAny_bind (wpAny_pure (wpAny_bind (Lt.at (wpAny_bind (Lc.at ?_)))))
  show wpAny _ _ (holding [Value.builtin "object.__class__"] (PySem.call (.builtin "getset_descriptor.__get__") [.builtin "object.__class__", .ref x, .ref D]) >>= ret) _ _ _
  refine wpAny_bind (wpAny_holding (wpAny_call (PySem.W.class_get (s := ⟨hp, g, dr, t + 1, os⟩) (ox := ox) (od := od) X I c.hm ?_)))
  refine wpAny_pure ?_
  show wpAny _ _ (handedOut (.ref D)) _ _ _
  rw [PySem.W.handedOut_of (v := .ref D) rfl]
  first
    | exact wpAny_pure (wpAny_pure h)
    | exact wpAny_pure h
    | exact wpAny_pure (wpAny_bind (wpAny_pure (wpAny_pure h)))
theorem kit_exc (c : ExcC K D) : PySem.W.KitX K (.ref x) (.ref D) (IsAt x D) := by
  obtain ⟨cd, hc, _⟩ := PySem.W.any_some c.hd
  have ⟨o, ho, hcd⟩ : ∃ o : Obj, K.lookup D = some o ∧ ∃ q, o.data = .cls q := by
    have e1 : PySem.W.clsIn K D = some cd := hc
    unfold PySem.W.clsIn at e1
    split at e1
    · rename_i a b q d ho
      exact ⟨_, ho, _, rfl⟩
    · cases e1
  obtain ⟨oc, od, oda, osl⟩ := o
  obtain ⟨q, hq⟩ := hcd
  simp only at hq
  subst hq
  refine ⟨fun _ _ _ ⟨_, _, I⟩ => I.type, fun M h X _ => ?_, fun h tp dd its n sl X e => ?_, fun X I k => exc_cls c X I k⟩
  · intro A' Q' E' s' k p
    unfold isType loadHead
    exact wpAny_bind (wpAny_loadPart (k _ _ (X _ _ ho)) (wpAny_pure p))
  · refine Bool.eq_false_iff.mpr fun p => ?_
    have e2 := Value.ref.inj (beq_iff_eq.mp p)
    subst e2
    cases (X _ _ ho).symm.trans e
end

/-! ### types -/
def Ty.val (W : Wd) : Ty → Value
  | .tint => .type "int"
  | .tbool => .type "bool"
  | .tstr => .type "str"
  | .ttuple => .type "tuple"
  | .tlist => .type "list"
  | .tval => .type "ValueError"
  | .own c => .ref (W.C c)
def Ty.v (W : Wd) : Ty → V
  | .tint => .ty "int"
  | .tbool => .ty "bool"
  | .tstr => .ty "str"
  | .ttuple => .ty "tuple"
  | .tlist => .ty "list"
  | .tval => .ty "ValueError"
  | .own c => .ref (W.C c)
theorem Ty.cls (W : Wd) (t : Ty) : ClsV (t.v W) (t.val W) := by cases t <;> first | exact .ty _ | exact .own _
def isTyC (c : Cn) : Ty → Bool
  | .own e => c.under e
  | .tval => c.isExc
  | _ => false
/-- what the classes must say -/
def tyOk (W : Wd) : Ty → Prop
  | .own e => W.has e = true
  | _ => True
structure ClsOk (W : Wd) : Prop where
  own : ∀ c : Cn, W.has c = true → c.isExc = false → Cls W.K (W.C c) ∧ PySem.W.findIn W.K (.ref (W.C c)) "__class__" = some (some (.builtin "object.__class__")) ∧ PySem.W.mroIn W.K (W.C c) (.type "object") = some true
  spec : PySem.W.specialIn W.K (.builtin "object.__class__") "__get__" = some (some (.builtin "getset_descriptor.__get__"))
  tak : PySem.W.takesIn W.K (.builtin "object.__class__") = some true
  exc : ∀ c : Cn, W.has c = true → c.isExc = true → ExcC W.K (W.C c)
  kit : ∀ (c : Cn) (t : Ty), W.has c = true → tyOk W t → PySem.W.kitOne W.K (.ref (W.C c)) (t.val W) = some (isTyC c t)
  kitT : ∀ (c : Cn) (n : String), W.has c = true → n ∈ ["NoneType", "bool", "int", "str", "tuple", "list", "dict"] → PySem.W.kitOne W.K (.type n) (.ref (W.C c)) = some false
section
variable {X : Cx} {W : Wd} {Y : WX} {σ : L2.St} {r : List Addr} {H : Hp} {hs : Hs} {Q : VK} {d e : D} {v u : V} {ds : List D} {vs : List V}
def TyMy (K : PySem.W.Frag) (H : Hp) (v : V) (t : Value) : Prop := TyX K H v t ∨ ∃ a D dx, v = .ref a ∧ H a = some (exT a D dx) ∧ ExcC K D ∧ t = .ref D ∧ (dx = none ∨ ∃ d l, dx = some d ∧ H d = some (.xd l))
theorem kit_my {pins : List (Addr × Obj)} {s : Shared} {x : V} {u t : Value} (I : Inv X pins σ H s) (rx : L2.RelV x u) (ty : TyMy X.K H x t) : ∃ P : Heap → Prop, PySem.W.KitX X.K u t P ∧ P s.heap ∧ u ≠ .builtin "__main__.__loader__#opaque" := by
  rcases ty with ty | ⟨a, D, dx, rfl, h, c, rfl, hd⟩
  · exact kit_of I rx ty
  · cases rx
    refine ⟨_, kit_exc c, ?_, fun z => nomatch z⟩
    obtain ⟨⟨oe, vs, g1, g2, g3, g4⟩, _⟩ := (show ObjOk X.prog X.w H s.heap a (exT a D dx) from I.hok a _ h)
    obtain ⟨oc, od, oda, osl⟩ := oe
    simp only at g2 g3 g4
    subst g2 g3 g4
    rcases hd with rfl | ⟨d, l, rfl, hl⟩
    · exact ⟨_, none, g1, rfl, rfl, trivial⟩
    · obtain ⟨mA, ⟨o, _, _, ho, _⟩, _⟩ := (show ObjOk X.prog X.w H s.heap d (.xd l) from I.hok d _ hl)
      exact ⟨_, some o, g1, rfl, rfl, ho⟩
abbrev RF1 := List V → Hp → VK → Prop
def RIsi1 (K : PySem.W.Frag) : RF1 := fun xs H Q => ∃ (x c : V) (t u : Value) (b : Bool), xs = [x, c] ∧ ClsV c u ∧ TyMy K H x t ∧ PySem.W.kitOne K t u = some b ∧ Q (.bl b) H
def RIsiN (K : PySem.W.Frag) : RF1 := fun xs H Q => ∃ (x : V) (tp : Addr) (cs : List V) (t : Value) (us : List Value) (b : Bool), xs = [x, .ref tp] ∧ H tp = some (.tup cs) ∧ Paired ClsV cs us ∧ TyMy K H x t ∧ PySem.W.kitAny K t us = some b ∧ Q (.bl b) H
theorem call_isi1 : CallR X (.builtin "isinstance") (RIsi1 X.K) := by
  intro pins s σ H xs us Q I r h
  obtain ⟨x, c, t, u, b, rfl, k, ty, e, q⟩ := h
  obtain ⟨u1, u2, rfl, r1, r2⟩ := vals2 r
  have e2 := k.eq r2
  subst e2
  obtain ⟨P, Z, p, hx⟩ := kit_my I r1 ty
  exact PySem.W.kia_one Z I.kIn p e hx fun tk => ⟨.bl b, H, I.tok tk, rfl, q⟩
theorem call_isiN : CallR X (.builtin "isinstance") (RIsiN X.K) := by
  intro pins s σ H xs us Q I r h
  obtain ⟨x, tp, cs, t, ws, b, rfl, hT, k, ty, e, q⟩ := h
  obtain ⟨u1, u2, rfl, r1, r2⟩ := vals2 r
  cases r2
  obtain ⟨P, Z, p, hx⟩ := kit_my I r1 ty
  obtain ⟨_, its, rv, o, h1, h2, n, h3⟩ := (show ObjOk X.prog X.w H s.heap tp (.tup cs) from I.hok tp _ hT)
  have e3 := ClsV.all k rv
  subst e3
  obtain ⟨oc, od, dt, sl⟩ := o
  simp only at h2 h3
  subst h2 h3
  exact PySem.W.kia_tup Z I.kIn p h1 e hx fun tk => ⟨.bl b, H, I.tok tk, rfl, q⟩
abbrev RIsi (K : PySem.W.Frag) : RF1 := fun xs H Q => RIsi1 K xs H Q ∨ RIsiN K xs H Q
theorem call_isiU : CallR X (.builtin "isinstance") (RIsi X.K) := crU call_isi1 call_isiN
def tyN : List String := ["NoneType", "bool", "int", "str", "tuple", "list", "dict"]
def tyIs (n : String) : Ty → Bool
  | .tint => n == "int" || n == "bool"
  | .tbool => n == "bool"
  | .tstr => n == "str"
  | .ttuple => n == "tuple"
  | .tlist => n == "list"
  | _ => false
theorem kit_base (c : ClsOk W) {n : String} (hn : n ∈ tyN) (t : Ty) (ht : tyOk W t) : PySem.W.kitOne W.K (.type n) (t.val W) = some (tyIs n t) := by
  cases t with
  | own e => exact c.kitT e n ht hn
  | _ =>
    simp only [tyN, List.mem_cons, List.not_mem_nil, or_false] at hn
    rcases hn with rfl | rfl | rfl | rfl | rfl | rfl | rfl <;> exact kit_ty (by decide +kernel)
/-- a value's type, and what it is by mine -/
theorem ty_at (c : ClsOk W) (m : Mt W r H hs) (x : Rv W r H d v) (hd : ∀ ds, d ≠ .lv ds) : ∃ t, TyMy W.K H v t ∧ ∀ (y : Ty) (b : Bool), tyOk W y → isTy hs d y = some b → PySem.W.kitOne W.K t (y.val W) = some b := by
  have base : ∀ {n : String} {f : Ty → Bool}, n ∈ tyN → (∀ y, f y = tyIs n y) → ∀ (y : Ty) (b : Bool), tyOk W y → some (f y) = some b → PySem.W.kitOne W.K (.type n) (y.val W) = some b := by
    intro n f hn hf y b yo e
    cases e
    rw [hf y]
    exact kit_base c hn y yo
  cases x with
  | non => exact ⟨_, .inl (.base .non), base (f := fun _ => false) (by decide) (by intro y; cases y <;> rfl)⟩
  | bl z => exact ⟨_, .inl (.base (.bl z)), base (f := fun t => t == .tint || t == .tbool) (by decide) (by intro y; cases y <;> rfl)⟩
  | int z => exact ⟨_, .inl (.base (.int z)), base (f := fun t => t == .tint) (by decide) (by intro y; cases y <;> rfl)⟩
  | str z k => exact ⟨_, .inl (.base (.str z)), base (f := fun t => t == .tstr) (by decide) (by intro y; cases y <;> rfl)⟩
  | tup t es =>
    have hb := base (n := "tuple") (f := fun t => t == .ttuple) (by decide) (by intro y; cases y <;> rfl)
    rcases t with ⟨h, _⟩ | ⟨o, its, n, h1, h2, _⟩
    · exact ⟨_, .inl (.base (.tup h)), hb⟩
    · exact ⟨_, .inl (.kTuple h1 h2), hb⟩
  | @obj cc ds vs a dx pr xx h n l es =>
    obtain ⟨c1, c2, c3⟩ := c.own cc pr xx
    refine ⟨_, .inl (.base (.ins h c1 c2 c.spec c.tak c3)), fun y b yo e => ?_⟩
    rw [c.kit cc y pr yo, ← e]
    cases y <;> rfl
  | @exc0 cc a pr xx f h n =>
    refine ⟨_, .inr ⟨_, _, _, rfl, h, c.exc cc pr xx, rfl, .inl rfl⟩, fun y b yo e => ?_⟩
    rw [c.kit cc y pr yo, ← e]
    cases y <;> rfl
  | @exc1 cc ds vs a dx l pr xx h n hd' nd es k ll =>
    refine ⟨_, .inr ⟨_, _, _, rfl, h, c.exc cc pr xx, rfl, .inr ⟨_, _, rfl, hd'⟩⟩, fun y b yo e => ?_⟩
    rw [c.kit cc y pr yo, ← e]
    cases y <;> rfl
  | @ref n a h =>
    obtain ⟨o, ho, t⟩ := m.atR h
    have e0 : ∀ y, isTy hs (.ref n) y = some (match o with
        | .lst _ => y == .tlist
        | .frz _ => y == .tlist
        | .dic _ _ => false) := by
      intro y
      simp only [isTy, ho]
      cases o <;> rfl
    have hl := base (n := "list") (f := fun t => t == .tlist) (by decide) (by intro y; cases y <;> rfl)
    have hdd := base (n := "dict") (f := fun _ => false) (by decide) (by intro y; cases y <;> rfl)
    cases o with
    | lst xs =>
      obtain ⟨us, t, _⟩ := t
      exact ⟨_, .inl (.base (.lst t)), fun y b yo e => hl y b yo (by rw [← e, e0])⟩
    | frz xs =>
      obtain ⟨ob, us, t, _⟩ := t
      exact ⟨_, .inl (.base (.frz t)), fun y b yo e => hl y b yo (by rw [← e, e0])⟩
    | dic tt kvs =>
      cases tt with
      | false =>
        obtain ⟨_, _, _, t, _⟩ := t
        exact ⟨_, .inl (.base (.dK t)), fun y b yo e => hdd y b yo (by rw [← e, e0])⟩
      | true =>
        obtain ⟨_, _, _, t, _⟩ := t
        exact ⟨_, .inl (.base (.dT t)), fun y b yo e => hdd y b yo (by rw [← e, e0])⟩
theorem isTys_kit {t : Value} (k : ∀ (y : Ty) (b : Bool), tyOk W y → isTy hs d y = some b → PySem.W.kitOne W.K t (y.val W) = some b) : ∀ {ts : List Ty} {b : Bool}, (∀ y ∈ ts, tyOk W y) → isTys hs d ts = some b → PySem.W.kitAny W.K t (ts.map fun y => y.val W) = some b
  | [], b, _, h => by cases h; rfl
  | y :: ts, b, ho, h => by
    simp only [isTys] at h
    split at h
    · rename_i a c h1 h2
      cases h
      refine kitAny_cons (k y a (ho y List.mem_cons_self) h1) (fun e => ?_) (fun e => by rw [e]; rfl)
      rw [e, Bool.false_or]
      exact isTys_kit k (fun z hz => ho z (List.mem_cons_of_mem _ hz)) h2
    · cases h
theorem paired_cls (W : Wd) : ∀ ts : List Ty, Paired ClsV (ts.map fun t => t.v W) (ts.map fun t => t.val W)
  | [] => .nil
  | t :: ts => .cons (t.cls W) (paired_cls W ts)
end
end Q

/-! try: several clauses, with or without a name; the exception stays known -/
namespace Q
open PySem PySem.Spec PyProof.Rows L2
section
variable {X : Cx} {pins : List (Addr × Obj)} {σ : L2.St} {H : Hp} {s : Shared} {a C : Addr} {d : Option Addr}
/-- an exception's object becomes known -/
theorem track {oe : Obj} {vs : Array Value} (I : Inv X pins σ H s) (h0 : X.s_0.heap.get? a = none) (na : H a = none) (nl : a ≠ X.env.locals) (np : ∀ p ∈ X.pn ++ pins, p.1 ≠ a)
    (he : s.heap.get? a = some oe) (hc : oe.cls = .ref C) (hd : oe.dict = d) (hv : oe.data = .fields vs) : Inv X pins σ (upd H a (exT a C d)) s := by
  have un : Un X.fs X.ex X.H_0 (upd H a (exT a C d)) X.s_0.heap s.heap := by
    have q := I.base
    refine ⟨q.keep, q.slot, fun b o h1 h2 h3 => ?_, q.there, fun b xs h1 => ?_, fun b o u h1 => ?_, fun b ps h1 => ?_⟩
    · have e : b ≠ a := fun z => by rw [z, h0] at h1; cases h1
      rw [upd_ne e]
      exact q.free b o h1 h2 h3
    · have h2 := q.tups b xs h1
      rw [upd_ne (ne_of_none h2 na)]
      exact h2
    · have h2 := q.frzs b o u h1
      rw [upd_ne (ne_of_none h2 na)]
      exact h2
    · obtain ⟨more, h2⟩ := q.tbls b ps h1
      exact ⟨more, by rw [upd_ne (ne_of_none h2 na)]; exact h2⟩
  refine { I with base := un, free := ?_, freeC := fun x c h => ?_, pin := fun p hp => ?_, hok := fun b o h => ?_ }
  · rw [upd_ne (Ne.symm nl)]
    exact I.free
  · have e : c ≠ a := fun z => by
      obtain ⟨v, hv2⟩ := I.cell x c h
      obtain ⟨ob, g1, g2⟩ := hv2
      subst z
      rw [he] at g1
      cases g1
      rw [hv] at g2
      cases g2
    rw [upd_ne e]
    exact I.freeC x c h
  · obtain ⟨g1, g2, g3⟩ := I.pin p hp
    exact ⟨g1, by rw [upd_ne (np p hp)]; exact g2, g3⟩
  · by_cases e : b = a
    · subst e
      rw [upd_same] at h
      cases h
      exact ⟨⟨oe, vs, he, hc, hd, hv⟩, ⟨oe, he⟩, fun h1 h2 ⟨o1, v1, k1, k2⟩ k => ⟨o1, v1, k _ k1, k2⟩⟩
    · rw [upd_ne e] at h
      refine (I.hok b o h).stay (fun _ _ _ z => z) (fun c hc => ?_) (fun c xs hc => ?_)
      · rw [upd_ne (ne_of_none hc na)]; exact hc
      · rw [upd_ne (ne_of_none hc na)]; exact hc
/-- into an except suite and out of it -/
theorem into (I : Inv X pins σ H s) : Inv (X.suite a (X.pn ++ pins)) [] σ H s :=
  ⟨I.ok.suite _ _, I.os, I.bare, I.base, I.loc, I.cell, I.free, I.freeC, fun p hp => I.pin p (by simpa using hp), I.hok, I.len⟩
theorem outOf {ql : List (Addr × Obj)} (ok : X.Ok) (I : Inv (X.suite a (X.pn ++ pins)) ql σ H s) : Inv X pins σ H s :=
  ⟨ok, I.os, I.bare, I.base, I.loc, I.cell, I.free, I.freeC, fun p hp => I.pin p (List.mem_append_left _ hp), I.hok, I.len⟩
end

structure Clause where
  c : Value
  i : Option Nat
  t : TS
def goneI (i : Option Nat) (σ : L2.St) : L2.St := match i with
  | some i => σ.set i none
  | none => σ
def putI (i : Option Nat) (a : Addr) (σ : L2.St) : L2.St := match i with
  | some i => σ.set i (some (.ref a))
  | none => σ
def endsI (i : Option Nat) (D : Ends) : Ends := { nx := fun σ H => D.nx (goneI i σ) H, rt := D.rt, bk := fun σ H => D.bk (goneI i σ) H, ct := fun σ H => D.ct (goneI i σ) H }
/-- what an exception of the body must meet -/
def wCl (K : PySem.W.Frag) (Wo : WX) (D : Ends) : List Clause → WX
  | [] => Wo
  | q :: r => fun cls d σ H => ∃ b, PySem.W.exmOne K cls q.c = some b ∧ (b = true → ∃ C, cls = .ref C ∧ ∀ a, H a = none → q.t (endsI q.i D) (putI q.i a σ) (upd H a (exT a C d))) ∧ (b = false → wCl K Wo D r cls d σ H)
inductive ClOk (X : Cx) : List ExceptHandler → List Clause → Prop
  | nil : ClOk X [] []
  | plain {x : Str} {c : Value} {t : TS} {b : Stmt} {bs : List Stmt} {p1 p2 : Pos} {hds : List ExceptHandler} {l : List Clause} (nm : Names X x c) (su : ∀ (a : Addr) (pn : List (Addr × Obj)), PSs (X.suite a pn) (b :: bs) t) (r : ClOk X hds l) :
      ClOk X (.ExceptHandler (some (.Name x p1)) none (b :: bs) p2 :: hds) (⟨c, none, t⟩ :: l)
  | named {x n : Str} {i : Nat} {c : Value} {t : TS} {b : Stmt} {bs : List Stmt} {p1 p2 : Pos} {hds : List ExceptHandler} {l : List Clause} (nm : Names X x c) (hi : X.N[i]? = some n) (hl : X.env.kindOf n = some .local)
      (su : ∀ (a : Addr) (pn : List (Addr × Obj)), PSs (X.suite a pn) (b :: bs) t) (r : ClOk X hds l) : ClOk X (.ExceptHandler (some (.Name x p1)) (some n) (b :: bs) p2 :: hds) (⟨c, some i, t⟩ :: l)

section
variable {X : Cx} {body : List Stmt} {hd : ExceptHandler} {hds : List ExceptHandler} {l : List Clause} {pos : Pos} {tb : WX → TS} {Wo : WX}
theorem ps_tryU (st : X.stack = X.env :: X.outer) (fr : X.env.frame = some X.env.locals) (ex : X.ex = []) (nd : X.N.Nodup) (tk : Takes X Wo)
    (hb : ∀ (W : WX) (pn : List (Addr × Obj)) (xe : Value → Shared → Prop), Takes (X.tr pn xe) W → PassesOwn (model X.prog X.w) X.A X.env xe → PSs (X.tr pn xe) body (tb W)) (hh : ClOk X (hd :: hds) l) :
    PS X (.Try body (hd :: hds) [] [] pos) (fun D σ H => tb (wCl X.K Wo D l) D σ H) := by
  constructor
  intro pins s σ H D I h
  have ok := I.ok
  have frm : X.A.frames = some (X.env :: X.outer) := ok.frames.trans (by rw [st])
  apply wpAny_Try_except
  have run := (hb (wCl X.K Wo D l) (X.pn ++ pins) (fun y s1 => wpAny (model X.prog X.w) X.A (noteFrame y X.env) (fun _ s2 => wpAny (model X.prog X.w) X.A (setFlight y none) (fun _ s3 =>
    wpAny (model X.prog X.w) X.A (handleBy y X.env (hd :: hds)) (SP X pins D) X.xe s3) X.xe s2) X.xe s1) (fun u s' xx => ?_) PassesOwn.looking).run [] s σ H D (I.toTry _) h
  · refine wpAny_mono run (fun f s1 z => ?_) (fun y s1 z => z)
    cases f with
    | next => obtain ⟨σ2, H2, J, q⟩ := z; exact wpAny_execs_nil ⟨σ2, H2, J.ofTry ok, q⟩
    | brk => obtain ⟨σ2, H2, J, q⟩ := z; exact ⟨σ2, H2, J.ofTry ok, q⟩
    | cont => obtain ⟨σ2, H2, J, q⟩ := z; exact ⟨σ2, H2, J.ofTry ok, q⟩
    | ret u => obtain ⟨v, σ2, H2, J, r, q⟩ := z; exact ⟨v, σ2, H2, J.ofTry ok, r, q⟩
  · obtain ⟨a, B, sI, ps2, σ2, H2, cls, d, rfl, J0, nb, up, sky, na, os, ag, w⟩ := xx
    have J : Inv X pins σ2 H2 sI := J0.ofTry ok
    rw [st] at sky
    show wpAny (model X.prog X.w) X.A (noteFrame (.ref a) X.env) _ _ _
    refine Sky.land Zc.steady frm fr sky fun h3 f3 u3 => ?_
    have J3 : Inv X pins σ2 H2 { s' with heap := h3 } := J.landed nb f3.1 (up.trans u3) os ag
    obtain ⟨o3, v3, e3, z3, d3⟩ := f3.there
    have nfr : a ∉ frs (X.env :: X.outer) := fun hm => by
      obtain ⟨_, o', e', hn⟩ := f3.2.2.1.mem hm
      cases e3.symm.trans e'
      exact hn _ d3
    have nfr' : a ∉ frs X.stack := by rw [st]; exact nfr
    have nl : a ≠ X.env.locals := fun z => nfr (List.mem_filterMap.mpr ⟨X.env, List.mem_cons_self, fr.trans (congrArg some z.symm)⟩)
    have nf : a ∉ X.fs := fun hm => by
      obtain ⟨y, hy, q⟩ := List.mem_filterMap.mp hm
      exact nfr (List.mem_filterMap.mpr ⟨y, List.mem_cons_of_mem _ hy, q⟩)
    have h0 : X.s_0.heap.get? a = none := by
      cases q : X.s_0.heap.get? a with
      | none => rfl
      | some o =>
        obtain ⟨o', q2⟩ := J.base.there a o q (by rw [ex]; exact List.not_mem_nil)
        have q3 := nb a o' q2 nfr'
        rw [f3.2.1] at q3
        cases q3
    have np : ∀ p ∈ X.pn ++ pins, p.1 ≠ a := fun p hp z => by
      obtain ⟨g1, _⟩ := J.pin p hp
      rw [z] at g1
      have q3 := nb a _ g1 nfr'
      rw [f3.2.1] at q3
      cases q3
    have S3 := J3.suite e3 d3 na nl nf
    have lt : PySem.W.Looks (model X.prog X.w) h3 (typeOf (.ref a)) cls := fun A Q E s k q => wpAny_typeOf_ref (k _ _ e3) (by rw [z3.1]; exact q)
    have asks : ∀ {x : Str} {c : Value} {p : Pos} {Q : Value → Shared → Prop} {E : Value → Shared → Prop}, Names X x c → Q c { s' with heap := h3 } → wpAny (model X.prog X.w) (X.A.mark (some (.ref a))) (eval (.Name x p) X.env) Q E { s' with heap := h3 } := by
      intro x c p Q E nm q
      obtain ⟨hg, hg2, hm | ⟨hm, hv, hn⟩⟩ := nm
      · exact ld_glob (X := X.suite a ((a, o3) :: (X.pn ++ pins))) S3 hg hm q hg2
      · exact ld_blt (X := X.suite a ((a, o3) :: (X.pn ++ pins))) S3 hg hm hv q hn hg2
    have known : ∀ {h4 : Heap} {C : Addr}, HandSPX.FlyingZ B (X.env :: X.outer) a (Zc cls d) h4 → h3.UpToSlots h4 → cls = .ref C → Inv X pins σ2 (upd H2 a (exT a C d)) { s' with heap := h4 } := by
      intro h4 C f4 u4 hC
      have J4 : Inv X pins σ2 H2 { s' with heap := h4 } := J.landed nb f4.1 ((up.trans u3).trans u4) os ag
      obtain ⟨o4, v4, e4, z4, d4⟩ := f4.there
      exact track J4 h0 na nl np e4 (z4.1.trans hC) z4.2 d4
    have go : ∀ {hs' : List ExceptHandler} {l' : List Clause}, ClOk X hs' l' → wCl X.K Wo D l' cls d σ2 H2 → wpAny (model X.prog X.w) X.A (handleBy (.ref a) X.env hs') (SP X pins D) X.xe { s' with heap := h3 } := by
      intro hs' l' k
      induction k with
      | nil =>
        intro w
        apply wpAny_handleBy_nil
        obtain ⟨_, _, _, o5, v5, T, oT, ts5, he, _, hd5, h15, _⟩ := id f3
        unfold PySem.passOn
        refine wpAny_bind (wpAny_field he hd5 h15 ?_)
        rw [if_neg (by simp : ¬ ((Value.ref T == Value.none) = true))]
        have last : wpAny (model X.prog X.w) X.A (setFlight (.ref a) X.env.frame) (fun _ s4 => wpAny (model X.prog X.w) X.A (throw (.ref a) : Sem Flow) (SP X pins D) X.xe s4) X.xe { s' with heap := h3 } := by
          rw [fr]
          exact HandSPX.setFlight_upZ f3 fun h4 hh4 u4 => wpAny_throw (tk _ _ ⟨a, B, sI, pins, σ2, H2, cls, d, rfl, J, nb, (up.trans u3).trans u4, .inr (.inr (by rw [st]; exact hh4)), na, os, ag, w⟩)
        first
          | exact wpAny_bind (wpAny_pure (wpAny_bind last))
          | exact wpAny_bind last
      | @plain x c t b bs p1 p2 hds2 l2 nm su r ih =>
        intro w
        obtain ⟨y, hy, yes, no⟩ := w
        refine wpAny_handleBy_cons (codeAny_handlers_test (asks nm ((PySem.W.exm_one (M := model X.prog X.w) J3.kIn lt hy).here ?_))) (fun q => nomatch q)
        cases y with
        | false => exact ih (no rfl)
        | true =>
          obtain ⟨C, hC, q⟩ := yes rfl
          refine codeAny_handlers_suite (HandSPX.lands_againZ f3 fun h4 f4 u4 => ?_)
          refine wpAny_mono ((su a (X.pn ++ pins)).run [] _ _ _ _ (into (known f4 u4 hC)) (q a na)) (fun f s6 z => ?_) (fun _ _ z => z.elim)
          cases f with
          | next => obtain ⟨σ6, H6, S6, q6⟩ := z; exact ⟨_, _, outOf ok S6, q6⟩
          | brk => obtain ⟨σ6, H6, S6, q6⟩ := z; exact ⟨_, _, outOf ok S6, q6⟩
          | cont => obtain ⟨σ6, H6, S6, q6⟩ := z; exact ⟨_, _, outOf ok S6, q6⟩
          | ret u => obtain ⟨v6, σ6, H6, S6, r6, q6⟩ := z; exact ⟨_, _, _, outOf ok S6, r6, q6⟩
      | @named x n i c t b bs p1 p2 hds2 l2 nm hi hl su r ih =>
        intro w
        obtain ⟨y, hy, yes, no⟩ := w
        refine wpAny_handleBy_cons (codeAny_handlers_test (asks nm ((PySem.W.exm_one (M := model X.prog X.w) J3.kIn lt hy).here ?_))) (fun q => nomatch q)
        cases y with
        | false => exact ih (no rfl)
        | true =>
          obtain ⟨C, hC, q⟩ := yes rfl
          refine codeAny_handlers_suite_as (HandSPX.lands_againZ f3 fun h4 f4 u4 => ?_)
          refine store_ok (X := X.suite a (X.pn ++ pins)) (v := .ref a) (into (known f4 u4 hC)) nd hi (.inl hl) rfl (fun s5 S5 => ?_) (.inr hl)
          refine wpAny_mono ((su a (X.pn ++ pins)).run [] _ _ _ _ S5 (q a na)) (fun f s6 z => ?_) (fun _ _ z => z.elim)
          have gone : ∀ {σ6 : L2.St} {H6 : Hp} {Q : Shared → Prop}, Inv (X.suite a (X.pn ++ pins)) [] σ6 H6 s6 → (∀ s7, Inv X pins (σ6.set i none) H6 s7 → Q s7) →
              wpAny (model X.prog X.w) X.A (do bindName X.env n .none; unbindBehindTheSuite X.env n p2) (fun _ s7 => Q s7) X.xe s6 := fun S6 hq => gone_ok (outOf ok S6) nd hi hl hq
          cases f with
          | next => obtain ⟨σ6, H6, S6, q6⟩ := z; exact gone S6 fun s7 J7 => ⟨_, _, J7, q6⟩
          | brk => obtain ⟨σ6, H6, S6, q6⟩ := z; exact gone S6 fun s7 J7 => ⟨_, _, J7, q6⟩
          | cont => obtain ⟨σ6, H6, S6, q6⟩ := z; exact gone S6 fun s7 J7 => ⟨_, _, J7, q6⟩
          | ret u => obtain ⟨v6, σ6, H6, S6, r6, q6⟩ := z; exact gone S6 fun s7 J7 => ⟨_, _, _, J7, r6, q6⟩
    exact go hh w
end
end Q

/-! views of the given program's text; further rules -/
namespace Q
open PySem PySem.Spec PyProof.Rows L2

/-! ### views -/
def asName : Expr → Option Str
  | .Name x _ => some x
  | _ => none
theorem asName_of {e : Expr} {x : Str} (h : asName e = some x) : ∃ p, e = .Name x p := by
  cases e <;> cases h; exact ⟨_, rfl⟩
def asConst : Expr → Option Const
  | .Constant c _ _ => some c
  | _ => none
theorem asConst_of {e : Expr} {x : Const} (h : asConst e = some x) : ∃ j p, e = .Constant x j p := by
  cases e <;> cases h; exact ⟨_, _, rfl⟩
def asTup : Expr → Option (List Expr)
  | .Tuple es _ _ => some es
  | _ => none
theorem asTup_of {e : Expr} {x : List Expr} (h : asTup e = some x) : ∃ j p, e = .Tuple x j p := by
  cases e <;> cases h; exact ⟨_, _, rfl⟩
def asLst : Expr → Option (List Expr)
  | .List es _ => some es
  | _ => none
theorem asLst_of {e : Expr} {x : List Expr} (h : asLst e = some x) : ∃ p, e = .List x p := by
  cases e <;> cases h; exact ⟨_, rfl⟩
def asDict : Expr → Option (List (Option Expr) × List Expr)
  | .Dict ks vs _ => some (ks, vs)
  | _ => none
theorem asDict_of {e : Expr} {x : List (Option Expr) × List Expr} (h : asDict e = some x) : ∃ p, e = .Dict x.1 x.2 p := by
  cases e <;> cases h; exact ⟨_, rfl⟩
def asBin : Expr → Option (Operator × Expr × Expr)
  | .BinOp a o b _ => some (o, a, b)
  | _ => none
theorem asBin_of {e : Expr} {x : Operator × Expr × Expr} (h : asBin e = some x) : ∃ p, e = .BinOp x.2.1 x.1 x.2.2 p := by
  cases e <;> cases h; exact ⟨_, rfl⟩
def asNeg : Expr → Option Expr
  | .UnaryOp .USub a _ => some a
  | _ => none
theorem asNeg_of {e x : Expr} (h : asNeg e = some x) : ∃ p, e = .UnaryOp .USub x p := by
  cases e with
  | UnaryOp o a p => cases o <;> cases h; exact ⟨_, rfl⟩
  | _ => cases h
def asNot : Expr → Option Expr
  | .UnaryOp .Not a _ => some a
  | _ => none
theorem asNot_of {e x : Expr} (h : asNot e = some x) : ∃ p, e = .UnaryOp .Not x p := by
  cases e with
  | UnaryOp o a p => cases o <;> cases h; exact ⟨_, rfl⟩
  | _ => cases h
def asCmp1 : Expr → Option (CmpOp × Expr × Expr)
  | .Compare a [o] [b] _ => some (o, a, b)
  | _ => none
theorem asCmp1_of {e : Expr} {x : CmpOp × Expr × Expr} (h : asCmp1 e = some x) : ∃ p, e = .Compare x.2.1 [x.1] [x.2.2] p := by
  unfold asCmp1 at h
  split at h
  · cases h; exact ⟨_, rfl⟩
  · cases h
def asCmp2 : Expr → Option (CmpOp × CmpOp × Expr × Expr × Expr)
  | .Compare a [o, p] [b, c] _ => some (o, p, a, b, c)
  | _ => none
theorem asCmp2_of {e : Expr} {x : CmpOp × CmpOp × Expr × Expr × Expr} (h : asCmp2 e = some x) : ∃ p, e = .Compare x.2.2.1 [x.1, x.2.1] [x.2.2.2.1, x.2.2.2.2] p := by
  unfold asCmp2 at h
  split at h
  · cases h; exact ⟨_, rfl⟩
  · cases h
def asAnd : Expr → Option (List Expr)
  | .BoolOp .And es _ => some es
  | _ => none
theorem asAnd_of {e : Expr} {x : List Expr} (h : asAnd e = some x) : ∃ p, e = .BoolOp .And x p := by
  cases e with
  | BoolOp o a p => cases o <;> cases h; exact ⟨_, rfl⟩
  | _ => cases h
def asOr : Expr → Option (List Expr)
  | .BoolOp .Or es _ => some es
  | _ => none
theorem asOr_of {e : Expr} {x : List Expr} (h : asOr e = some x) : ∃ p, e = .BoolOp .Or x p := by
  cases e with
  | BoolOp o a p => cases o <;> cases h; exact ⟨_, rfl⟩
  | _ => cases h
def asIf : Expr → Option (Expr × Expr × Expr)
  | .IfExp c a b _ => some (c, a, b)
  | _ => none
theorem asIf_of {e : Expr} {x : Expr × Expr × Expr} (h : asIf e = some x) : ∃ p, e = .IfExp x.1 x.2.1 x.2.2 p := by
  cases e <;> cases h; exact ⟨_, rfl⟩
def asSub : Expr → Option (Expr × Expr)
  | .Subscript a i _ => some (a, i)
  | _ => none
theorem asSub_of {e : Expr} {x : Expr × Expr} (h : asSub e = some x) : ∃ p, e = .Subscript x.1 x.2 p := by
  cases e <;> cases h; exact ⟨_, rfl⟩
def asSlc : Expr → Option (Option Expr × Option Expr)
  | .Slice lo hi none _ => some (lo, hi)
  | _ => none
theorem asSlc_of {e : Expr} {x : Option Expr × Option Expr} (h : asSlc e = some x) : ∃ p, e = .Slice x.1 x.2 none p := by
  unfold asSlc at h
  split at h
  · cases h; exact ⟨_, rfl⟩
  · cases h
def asAttr : Expr → Option (Expr × Str)
  | .Attribute a f _ => some (a, f)
  | _ => none
theorem asAttr_of {e : Expr} {x : Expr × Str} (h : asAttr e = some x) : ∃ p, e = .Attribute x.1 x.2 p := by
  cases e <;> cases h; exact ⟨_, rfl⟩
/-- a call of a name -/
def asCall : Expr → Option (Str × List Expr)
  | .Call (.Name x _) es [] _ => some (x, es)
  | _ => none
theorem asCall_of {e : Expr} {x : Str × List Expr} (h : asCall e = some x) : ∃ p q, e = .Call (.Name x.1 p) x.2 [] q := by
  unfold asCall at h
  split at h
  · cases h; exact ⟨_, _, rfl⟩
  · cases h
/-- a call of a method; all on one line -/
def asMeth : Expr → Option (Expr × Str × List Expr)
  | .Call (.Attribute o m p) es [] q => if (p.endLine == q.line) = true then some (o, m, es) else none
  | _ => none
theorem asMeth_of {e : Expr} {x : Expr × Str × List Expr} (h : asMeth e = some x) : ∃ p q, e = .Call (.Attribute x.1 x.2.1 p) x.2.2 [] q ∧ (p.endLine == q.line) = true := by
  unfold asMeth at h
  split at h
  · split at h
    · rename_i hp
      cases h; exact ⟨_, _, rfl, hp⟩
    · cases h
  · cases h
def asLc : Expr → Option (Expr × Expr × Expr × List Expr × Scope)
  | .ListComp elt [⟨tg, iter, ifs, 0⟩] sc _ => some (elt, tg, iter, ifs, sc)
  | _ => none
theorem asLc_of {e : Expr} {x : Expr × Expr × Expr × List Expr × Scope} (h : asLc e = some x) : ∃ p, e = .ListComp x.1 [⟨x.2.1, x.2.2.1, x.2.2.2.1, 0⟩] x.2.2.2.2 p := by
  unfold asLc at h
  split at h
  · cases h; exact ⟨_, rfl⟩
  · cases h
def isLc : Expr → Bool
  | .ListComp .. | .SetComp .. | .DictComp .. => true
  | _ => false
def noStar : Expr → Bool
  | .Starred .. => false
  | _ => true
def noSlice : Expr → Bool
  | .Slice .. => false
  | _ => true
/-- truth is asked of the value -/
def valT : Expr → Bool
  | .UnaryOp .Not _ _ | .BoolOp .. | .IfExp .. | .Compare .. => false
  | _ => true
def plainB : Expr → Bool
  | .Call (.Name ..) .. => false
  | _ => true
def noSet : Expr → Bool
  | .Set .. => false
  | _ => true
section
variable {env : Env} {e : Expr} {es : List Expr} {pos : Pos}
theorem star_cons (h : noStar e = true) : starEach (e :: es) env = (false, eval e env) :: starEach es env := by
  cases e <;> first | (cases h; done) | rfl
theorem star_none : ∀ {es : List Expr}, es.all noStar = true → (backTo pos (starEach es env)).any (·.1) = false
  | [], _ => rfl
  | e :: es, h => by
    rw [List.all_cons, Bool.and_eq_true] at h
    rw [star_cons h.1]
    show (false || _) = false
    rw [Bool.false_or]
    exact star_none h.2
theorem star_few : ∀ {es : List Expr}, es.all noStar = true → (backTo pos (starEach es env)).all (fun x => !x.1) = true
  | [], _ => rfl
  | e :: es, h => by
    rw [List.all_cons, Bool.and_eq_true] at h
    rw [star_cons h.1]
    show (true && _) = true
    rw [Bool.true_and]
    exact star_few h.2
theorem valT_ok (h : valT e = true) (whole : Sem Value) : isTrue e env whole = (do let v ← whole; standAt e.pos; holding [v] (truthy v)) := by
  cases e with
  | UnaryOp o a p => cases o <;> first | (cases h; done) | rfl
  | _ => first | (cases h; done) | rfl
theorem plainB_ok {f : Str} (h : plainB e = true) : attributeBase e f env (eval e env) = eval e env := by
  cases e with
  | Call f es ks p => cases f <;> first | (cases h; done) | rfl
  | _ => rfl
theorem slice_ok (h : noSlice e = true) : PlainIx e := by
  intro o i
  cases e <;> first | (cases h; done) | rfl
theorem swaps_no {t : Option Expr} {n : Nat} (h : isLc e = false) : swapsWith e t n env = pure false := by
  cases e <;> first | (cases h; done) | rfl
theorem folded_ok (h : noSet e = true) (x : Value) : foldedSetIterable e env x = pure x := by
  cases e <;> first | (cases h; done) | rfl
theorem marks_ok {op : CmpOp} (h : noSet e = true) : behindInMarks op e = false := by
  cases e <;> first | (cases h; done) | rfl
end

/-! ### x is True, x is False -/
section
variable {X : Cx} {a : Expr} {ta : TE}
def tIsB (b neg : Bool) (ta : TE) : TE := fun σ H Q => ta σ H fun x H1 => Q (.bl (decide (x = .bl b) != neg)) H1
theorem bool_iff {b : Bool} {x : V} {v : Value} (r : L2.RelV x v) : (v == Value.bool b) = decide (x = .bl b) := by
  cases x with
  | non => cases r; cases b <;> rfl
  | bl c => cases r; cases c <;> cases b <;> decide
  | int i => obtain ⟨t, rfl⟩ := r; cases b <;> rfl
  | str i => obtain ⟨t, rfl⟩ := r; cases b <;> rfl
  | byt i => obtain ⟨t, rfl⟩ := r; cases b <;> rfl
  | flt i => obtain ⟨t, rfl⟩ := r; cases b <;> rfl
  | ref i => cases r; cases b <;> rfl
  | ty i => cases r; cases b <;> rfl

/-! ### fields, of things and of kept exceptions -/
def RFld (K : PySem.W.Frag) (f : Str) (x : V) (H : Hp) (Q : VK) : Prop :=
  (∃ a C dx fs v, x = .ref a ∧ H a = some (.ins C dx fs) ∧ Cls K C ∧ NoAttr K C f ∧ fs.lookup f = some v ∧ Q v H) ∨
  ∃ a C dd fs v, x = .ref a ∧ H a = some (exT a C (some dd)) ∧ ExcC K C ∧ NoAttr K C f ∧ H dd = some (.xd fs) ∧ fs.lookup f = some v ∧ Q v H
theorem pe_fldU {e : Expr} {te : TE} {f : Str} {pos : Pos} (he : PE X e te) (hb : plainB e = true) : PE X (.Attribute e f pos) (fun σ H Q => te σ H fun x H1 => RFld X.K f x H1 Q) := by
  refine ⟨fun pins s σ H Q I h => attr_of (plainB_ok hb) (thn (he.run pins s σ H _ I h) fun u s1 w => ?_)⟩
  obtain ⟨x, H1, J, r, w⟩ := w
  rcases w with ⟨a, C, dx, fs, v, rfl, g, c, n, l, q⟩ | ⟨a, C, dd, fs, v, rfl, g, c, n, gd, l, q⟩
  · cases r
    exact getattr_ok J g c n l fun u' s2 J2 ru => ⟨v, H1, J2, ru, q⟩
  · cases r
    obtain ⟨⟨oe, vs, g1, g2, g3, g4⟩, _⟩ := (show ObjOk X.prog X.w H1 s1.heap a (exT a C (some dd)) from J.hok a _ g)
    obtain ⟨mA, hns, hr⟩ := (show ObjOk X.prog X.w H1 s1.heap dd (.xd fs) from J.hok dd _ gd)
    obtain ⟨od, ho, hl⟩ := lookIn_ns hns
    obtain ⟨u, hu, ru⟩ := RelO.some_of (v := v) (o := mA f) (by rw [← l]; exact hr f)
    have at_ : PySem.W.InstAt s1.heap a oe C (some od) := ⟨g1, g2, by unfold PySem.W.notCls; rw [g4], by rw [g3]; exact ho⟩
    exact HandSPX.exc_get J.kIn at_ c.hg c.hk c.hs (PySem.W.findObj_own c.hd n rfl (by rw [hl, hu])) (handed_of ru) ⟨v, H1, J.tok _, ru, q⟩
end

/-! ### a walk of a list or a tuple -/
def iSq (K : PySem.W.Frag) (te : TE) : TI := fun σ H R => te σ H fun x H1 => ∃ a, x = .ref a ∧ ((∃ xs, SqL K H1 a xs ∧ R (Itl K a) H1) ∨ ∃ xs, SqT K H1 a xs ∧ R (Itt K a) H1)
theorem pi_sq {X : Cx} {tg e : Expr} {te : TE} (he : PE X e te) : PI X tg e (iSq X.K te) := by
  constructor
  intro pins s σ H R I h
  refine thn (he.run pins s σ H _ I h) fun u s1 w => ?_
  obtain ⟨x, H1, J, r, a, rfl, w⟩ := w
  cases r
  have fresh : ∀ b ∈ [s1.heap.objs.size], FpOk X pins H1 b := fun b hb => by
    rw [List.mem_singleton] at hb
    rw [hb]
    exact J.fpOk (Nat.le_refl _) (J.hok.fresh (Nat.le_refl _))
  have on : ∀ o : Obj, Inv X pins σ H1 { s1 with heap := s1.heap.push o } := fun o => J.kept (t' := s1.toks) fun b q z => Heap.get?_push_of_some _ z
  rcases w with ⟨xs, g, w⟩ | ⟨xs, g, w⟩
  · obtain ⟨its, rv, pl, hz⟩ := J.list g
    exact wpAny_pyIter_list pl.isList ⟨_, _, _, _, H1, rfl, on _, turn_list a _, ⟨_, Heap.get?_push_size _ rfl, rfl, rfl⟩, fresh, w⟩
  · obtain ⟨its, rv, pl, hz⟩ := J.tuple g
    exact wpAny_pyIter_tuple (show s1.heap.IsTuple a its.toArray from pl) ⟨_, _, _, _, H1, rfl, on _, turn_tuple a _, ⟨_, Heap.get?_push_size _ rfl, rfl, rfl⟩, fresh, w⟩
end Q

/-! plain parameters -/
namespace Q
open PySem PySem.Spec PyProof.Rows L2
/-- what a global name means -/
inductive Gn where | fn (f : String) | cl (c : Cn) | con (k : String) | mk (c : Cn)
  deriving DecidableEq
def Cn.name : Cn → String
  | .SayError => "SayError"
  | .NoText => "NoText"
  | .NoRows => "NoRows"
  | .NoLine => "NoLine"
  | .NoCall => "NoCall"
  | .NoName => "NoName"
  | .NoNumber => "NoNumber"
  | .TooMany => "TooMany"
  | .NoPoint => "NoPoint"
  | .NoLetter => "NoLetter"
  | .NoCut => "NoCut"
  | .Saying => "Saying"
  | .Never => "Never"
  | .Always => "Always"
  | .Letter => "Letter"
  | .Not => "Not"
  | .Fold => "Fold"
  | .More => "More"
  | .Less => "Less"
  | .Greater => "Greater"
  | .Lesser => "Lesser"
  | .Leads => "Leads"
  | .Desk => "Desk"
/-- a class is made by its name (no name of the text begins so) -/
def mkN (c : Cn) : Str := Str.ofString ("+" ++ c.name)
def plainArgs (as : List Arg) : Arguments := { posonlyargs := [], args := as, vararg := none, kwonlyargs := [], kw_defaults := [], kwarg := none, defaults := [] }
theorem zip_lookup_some {α β : Type} [BEq α] [LawfulBEq α] : ∀ {ns : List α} {us : List β} {n : α}, us.length = ns.length → n ∈ ns → ((ns.zip us).lookup n).isNone = false
  | [], _, _, _, h => nomatch h
  | x :: ns, [], _, h, _ => by simp at h
  | x :: ns, u :: us, n, h, hm => by
    simp only [List.zip_cons_cons, List.lookup_cons]
    cases e : n == x with
    | true => rfl
    | false =>
      simp only [Bool.false_eq_true, if_false]
      refine zip_lookup_some (by simpa using h) ?_
      rcases List.mem_cons.mp hm with z | z
      · rw [z] at e; simp at e
      · exact z
theorem zip_filter {α β : Type} [BEq α] [LawfulBEq α] (all : List (α × β)) : ∀ {ns : List α} {us : List β}, us.length = ns.length → ns.Nodup → (∀ n u, (n, u) ∈ ns.zip us → all.lookup n = some u) → (ns.filterMap fun n => (all.lookup n).map (n, ·)) = ns.zip us
  | [], [], _, _, _ => rfl
  | [], _ :: _, h, _, _ => by simp at h
  | _ :: _, [], h, _, _ => by simp at h
  | x :: ns, u :: us, h, nd, k => by
    rw [List.nodup_cons] at nd
    simp only [List.filterMap_cons, List.zip_cons_cons, k x u (by simp), Option.map_some]
    rw [zip_filter all (by simpa using h) nd.2 fun n v hm => k n v (by simp [hm])]
theorem zip_lookup {α β : Type} [BEq α] [LawfulBEq α] : ∀ {ns : List α} {us : List β} {n : α} {u : β}, ns.Nodup → (n, u) ∈ ns.zip us → (ns.zip us).lookup n = some u
  | [], _, _, _, _, h => by simp at h
  | _ :: _, [], _, _, _, h => by simp at h
  | x :: ns, v :: us, n, u, nd, h => by
    rw [List.nodup_cons] at nd
    simp only [List.zip_cons_cons, List.lookup_cons] at h ⊢
    rcases List.mem_cons.mp h with z | z
    · cases z; simp
    · have : (n == x) = false := by
        rw [beq_eq_false_iff_ne]
        exact fun e => nd.1 (e ▸ (List.of_mem_zip z).1)
      rw [this]
      exact zip_lookup nd.2 z
theorem bind_plain {fd : FuncData} {as : List Arg} {us : List Value} (hp : fd.params = plainArgs as) (hd : fd.defaults = .none) (hl : us.length = as.length) (nd : (as.map (·.arg)).Nodup) : bindArgs fd ⟨us, []⟩ = pure ((as.map (·.arg)).zip us) := by
  have hl2 : us.length = (as.map (·.arg)).length := by rw [List.length_map]; exact hl
  have e1 : seqItems? .none = pure Option.none := rfl
  have e2 : ((as.map (·.arg)).filter fun n => (((as.map (·.arg)).zip us).lookup n).isNone) = [] := by
    rw [List.filter_eq_nil_iff]
    intro n hn
    rw [zip_lookup_some hl2 hn]
    decide
  have e3 := zip_filter ((as.map (·.arg)).zip us) hl2 nd (fun n u hm => zip_lookup nd hm)
  unfold bindArgs
  simp only [hp, hd, plainArgs, e1, List.map_nil, List.nil_append, List.append_nil, List.forIn_nil, pure_bind, Option.getD_none, List.isEmpty_nil, List.drop_nil, List.length_nil, Nat.sub_zero, Nat.zero_sub, List.take_length, List.zip_nil_right, e2, e3]
  rw [if_neg (by simp [hl])]
  rfl

def plainOf (a : Arguments) : Option (List Arg) := match a with
  | ⟨[], as, none, [], [], none, []⟩ => some as
  | _ => none
theorem plainOf_of {a : Arguments} {as : List Arg} (h : plainOf a = some as) : a = plainArgs as := by
  unfold plainOf at h
  split at h
  · cases h; rfl
  · cases h
def nodupB : List Str → Bool
  | [] => true
  | x :: l => !l.contains x && nodupB l
theorem nodupB_ok : ∀ {l : List Str}, nodupB l = true → l.Nodup
  | [], _ => List.nodup_nil
  | x :: l, h => by
    simp only [nodupB, Bool.and_eq_true, Bool.not_eq_true'] at h
    exact List.nodup_cons.mpr ⟨by simpa using h.1, nodupB_ok h.2⟩
end Q

/-! things of own classes: making one, calling a method of one -/
namespace Q
open PySem PySem.Spec PyProof.Rows L2

/-- a class whose __init__ is object's -/
structure Mk0 (K : PySem.W.Frag) (C : Addr) : Prop where
  makes : PySem.W.makesIn K C = true
  init : PySem.W.findIn K (.ref C) "__init__" = some (some (.builtin "object.__init__"))
  top : PySem.W.mroIn K C (.type "object") = some true
  kp : PySem.W.keepIn K (.ref C) = true
section
variable {X : Cx} {CX : CXT} {k : Nat} {C f : Addr} {fd : FuncData} {ps : List Str} {sp : Sp} {E : L2.St → XK} {x m : Str} {p pos apos : Pos} {e o : Expr} {es : List Expr} {ta : TE} {t : TA}
theorem run_make0 {pins : List (Addr × Obj)} {σ : L2.St} {H : Hp} {s : Shared} {Q : VK} (M : Mk0 X.K C) (I : Inv X pins σ H s)
    (h : ∀ x dx, H x = none → H dx = none → dx ≠ x → Q (.ref x) (upd (upd H dx (.own x)) x (.ins C dx []))) : wpAny (model X.prog X.w) X.A (PySem.call (.ref C) []) (EP X pins σ Q) X.xe s := by
  have hq := h (s.heap.objs.size + 1) s.heap.objs.size (I.hok.fresh (Nat.le_succ _)) (I.hok.fresh (Nat.le_refl _)) (Nat.ne_of_lt (Nat.lt_succ_self _))
  have I2 := Inv.made (C := C) I
  have ho : ((s.heap.push PySem.W.emptyDict).push (PySem.W.instObj C s.heap.objs.size)).get? (s.heap.objs.size + 1) = some (PySem.W.instObj C s.heap.objs.size) := by
    have := Heap.get?_push_size (s.heap.push PySem.W.emptyDict) (o := PySem.W.instObj C s.heap.objs.size) rfl
    rwa [Heap.size_push] at this
  have t1 := NwA.type_at (M := model X.prog X.w) (C := C) ho rfl
  have t2 : PySem.W.Looks (model X.prog X.w) ((s.heap.push PySem.W.emptyDict).push (PySem.W.instObj C s.heap.objs.size)) (isInstance (.ref (s.heap.objs.size + 1)) (.type "object")) true := t1.andThen (PySem.W.looks_mroIn I2.kIn M.top)
  refine wpAny_call (make_map0 I.kIn M.makes M.init (fun self => PySem.W.Looks.of_pure (PySem.W.oi_bind _)) ?_)
  refine codeAny_call_builtin PySem.W.oi_plain PySem.W.entry_oi (@PySem.W.check_slot (model X.prog X.w) _ _ _ "object.__init__" "object" "__init__" (.ref (s.heap.objs.size + 1)) [] [] _ PySem.W.oi_kind PySem.W.oi_split t2 (PySem.W.oi_args (.ref (s.heap.objs.size + 1))) ?_)
  rw [PySem.W.oi_run]
  exact wpAny_pure (And.intro rfl ⟨V.ref (s.heap.objs.size + 1), _, I2, rfl, hq⟩)
theorem run_makeS {pins : List (Addr × Obj)} {σ : L2.St} {H : Hp} {s : Shared} {Q : VK} {us : List Value} {vs : List V} (M : Mk X.K C f) (F : FnOk X.prog X.w X.K X.mg X.base CX k f fd ps sp) (hr : Room (k + 1) X.A) (hb : Binds X.K fd ps [])
    (hx : PassesAt CX X σ (E σ)) (I : Inv X pins σ H s) (r : Vals vs us)
    (h : ∀ x dx, H x = none → H dx = none → dx ≠ x → sp (.ref x :: vs) (upd (upd H dx (.own x)) x (.ins C dx [])) (fun v H2 => v = .non ∧ Q (.ref x) H2) (E σ)) :
    wpAny (model X.prog X.w) X.A (PySem.call (.ref C) us) (EP X pins σ Q) X.xe s := by
  have hq := h (s.heap.objs.size + 1) s.heap.objs.size (I.hok.fresh (Nat.le_succ _)) (I.hok.fresh (Nat.le_refl _)) (Nat.ne_of_lt (Nat.lt_succ_self _))
  have I2 := Inv.made (C := C) I
  have r2 : Vals (V.ref (s.heap.objs.size + 1) :: vs) (Value.ref (s.heap.objs.size + 1) :: us) := .cons rfl r
  have hl : (Value.ref (s.heap.objs.size + 1) :: us).length = ps.length := by
    have e := r2.length
    rw [F.len _ _ _ _ hq] at e
    exact e.symm
  have b := hb ({ s with heap := (s.heap.push PySem.W.emptyDict).push (PySem.W.instObj C s.heap.objs.size) }) (Value.ref (s.heap.objs.size + 1) :: us) I2.kIn (by rw [List.append_nil]; exact hl)
  rw [List.append_nil] at b
  refine wpAny_call (make_map (f := f) I.kIn M.makes M.init (beq_iff_eq.mp M.fn) (codeAny_mono (F.run _ X.stack _ _ ⟨Value.ref (s.heap.objs.size + 1) :: us, []⟩ (Value.ref (s.heap.objs.size + 1) :: us) _ _ (E σ) (hr.make C us [])
    (I2.env0.make C us []) b r2 hq) fun r s' hq' => ?_))
  cases r with
  | error e => exact hx pins _ _ e s' I2 hq'
  | ok fl =>
    cases fl with
    | ret u =>
      obtain ⟨v, H', I3, rv, ev, q3⟩ := I2.after hq'
      subst ev
      exact ⟨rv, ⟨V.ref (s.heap.objs.size + 1), H', I3, rfl, q3⟩⟩
    | next => exact False.elim hq'
    | brk => exact False.elim hq'
    | cont => exact False.elim hq'
/-- C(e, ..): the values, then a thing is made of them -/
theorem pe_mk (hg : Gl X x) (hm : X.mg x = some (.ref C)) (hk : PySem.W.keepIn X.K (.ref C) = true) (ha : PA X (e :: es) t) (hdb : (x == ("__debug__" : Str)) = false)
    {tm : L2.St → List V → Hp → VK → Prop} (hmk : ∀ pins s σ H us vs Q, Inv X pins σ H s → Vals vs us → tm σ vs H Q → wpAny (model X.prog X.w) X.A (PySem.call (.ref C) us) (EP X pins σ Q) X.xe s)
    (he : starEach (e :: es) X.env = (false, eval e X.env) :: starEach es X.env) (hpl : (backTo pos (starEach es X.env)).any (·.1) = false) :
    PE X (.Call (.Name x p) (e :: es) [] pos) (fun σ H Q => t σ H fun vs H1 => tm σ vs H1 Q) := by
  refine ⟨fun pins s σ H Q I h => ?_⟩
  refine wpAny_Call_Name_kw (ld_glob I hg hm ?_ hdb)
  refine PySem.W.callWith_K (h₀ := X.base) I.ok.mod.kin hk (thn (ha.run pos pins s σ H _ I h) fun us s1 ⟨vs, H1, I1, r, q⟩ => ⟨I1.kIn, ?_⟩) he hpl
  exact hmk pins s1 σ H1 us vs Q I1 r q
theorem pe_mk0 (hg : Gl X x) (hm : X.mg x = some (.ref C)) (hk : PySem.W.keepIn X.K (.ref C) = true) (hdb : (x == ("__debug__" : Str)) = false)
    {tm : L2.St → List V → Hp → VK → Prop} (hmk : ∀ pins s σ H us vs Q, Inv X pins σ H s → Vals vs us → tm σ vs H Q → wpAny (model X.prog X.w) X.A (PySem.call (.ref C) us) (EP X pins σ Q) X.xe s) :
    PE X (.Call (.Name x p) [] [] pos) (fun σ H Q => tm σ [] H Q) := by
  refine ⟨fun pins s σ H Q I h => ?_⟩
  refine wpAny_Call_Name_kw (ld_glob I hg hm ?_ hdb)
  exact PySem.W.callWith_K0 I.kIn hk (hmk pins s σ H [] [] Q I .nil h)
/-- the tree of a method's call, on one line -/
theorem meth_tree {args : List Expr} {env : Env} (hb : attributeBase o m env (eval o env) = eval o env) (hline : (apos.endLine == pos.line) = true)
    (hfew : ((backTo pos (starEach args env)).all (fun x => !x.1) && (backToKw pos (keywordEach [] env)).all (fun x => x.1.isSome) && decide (args.length + ([] : List Keyword).length + (if ([] : List Keyword).isEmpty then 0 else 1) < 30)) = true) :
    eval (.Call (.Attribute o m apos) args [] pos) env = (do
      let ov ← eval o env
      standAt apos.atName
      let (f, first) ← holding [ov] (getMethod ov m (do return (← importBound o env).getD true))
      callWith pos f first (backTo pos (starEach args env)) (backToKw pos (keywordEach [] env))) := by
  refine mcall_of hb fun ov => ?_
  have hform : methodCallForm (args.length + ([] : List Keyword).length) (backTo pos (starEach args env)) (backToKw pos (keywordEach [] env)) = true := hfew
  have hpos : methodCallPos true o env apos pos = pure pos := by unfold methodCallPos; simp [hline]
  unfold methodCall
  rw [hform]
  unfold calleeOf
  simp only [if_true, hpos, pure_bind]
/-- o.m(e, ..), the method of whatever class the thing has -/
def MthAt (X : Cx) (CX : CXT) (k : Nat) (m : Str) (t : TA) (E : L2.St → XK) (σ : L2.St) (Q : VK) (x : V) (H1 : Hp) : Prop :=
  ∃ (a dx C f : Addr) (fs : List (Str × V)) (fd : FuncData) (ps : List Str) (sp : Sp), x = .ref a ∧ H1 a = some (.ins C dx fs) ∧ fs.lookup m = none ∧ Cls X.K C ∧ Meth X.K C m f ∧ FnOk X.prog X.w X.K X.mg X.base CX k f fd ps sp ∧ Binds X.K fd ps [] ∧
    t σ H1 fun vs H2 => sp (x :: vs) H2 Q (E σ)
theorem pe_mth {pl : Sem Bool} (he : PE X o ta) (hr : Room k X.A) (hx : ∀ σ, PassesAt CX X σ (E σ)) (ha : PA X (e :: es) t)
    (hst : starEach (e :: es) X.env = (false, eval e X.env) :: starEach es X.env) (hpl : (backTo pos (starEach es X.env)).any (·.1) = false)
    (ht : eval (.Call (.Attribute o m apos) (e :: es) [] pos) X.env = (do
      let ov ← eval o X.env
      standAt apos.atName
      let (f, first) ← holding [ov] (getMethod ov m pl)
      callWith pos f first (backTo pos (starEach (e :: es) X.env)) (backToKw pos (keywordEach [] X.env)))) :
    PE X (.Call (.Attribute o m apos) (e :: es) [] pos) (fun σ H Q => ta σ H (MthAt X CX k m t E σ Q)) := by
  refine ⟨fun pins s σ H Q I h => ?_⟩
  refine PySem.W.methodCall_KW (pl := pl) (thn (he.run pins s σ H _ I h) fun u s1 ⟨x, H1, I1, rx, a, dx, C, f, fs, fd, ps, sp, ex, ea, l, c, hm, F, hb, q⟩ => ?_) ht
  subst ex
  obtain rfl : u = Value.ref a := rx
  refine getmeth_ok I1 ea c hm l ?_
  refine PySem.W.callWith_K (first := [.ref a]) (h₀ := X.base) I.ok.mod.kin hm.kp (thn (ha.run pos pins s1 σ H1 _ I1 q) fun us s2 ⟨vs, H2, I2, r, q2⟩ => ⟨I2.kIn, ?_⟩) hst hpl
  exact run_fnS (us := .ref a :: us) (vs := .ref a :: vs) F hr hb (hx σ) I2 (.cons rfl r) q2
theorem pe_mth0 {pl : Sem Bool} (he : PE X o ta) (hr : Room k X.A) (hx : ∀ σ, PassesAt CX X σ (E σ))
    (ht : eval (.Call (.Attribute o m apos) [] [] pos) X.env = (do
      let ov ← eval o X.env
      standAt apos.atName
      let (f, first) ← holding [ov] (getMethod ov m pl)
      callWith pos f first (backTo pos (starEach [] X.env)) (backToKw pos (keywordEach [] X.env)))) :
    PE X (.Call (.Attribute o m apos) [] [] pos) (fun σ H Q => ta σ H (MthAt X CX k m tNil E σ Q)) := by
  refine ⟨fun pins s σ H Q I h => ?_⟩
  refine PySem.W.methodCall_KW (pl := pl) (thn (he.run pins s σ H _ I h) fun u s1 ⟨x, H1, I1, rx, a, dx, C, f, fs, fd, ps, sp, ex, ea, l, c, hm, F, hb, q⟩ => ?_) ht
  subst ex
  obtain rfl : u = Value.ref a := rx
  refine getmeth_ok I1 ea c hm l ?_
  exact PySem.W.callWith_K0 (first := [.ref a]) I1.kIn hm.kp (run_fnS (us := [.ref a]) (vs := [.ref a]) F hr hb (hx σ) I1 (.cons rfl .nil) q)
end
end Q

/-! __init__ of own classes and own exceptions -/
namespace Q
open PySem PySem.Spec PyProof.Rows L2

def nameOk (x : Str) : Bool := !(x == ("__debug__" : Str)) && !(x == ("__classdict__" : Str))
def atN (N : List Str) (i : Nat) (x : Str) : Bool := match N[i]? with
  | some y => y == x
  | none => false
theorem atN_ok {N : List Str} {i : Nat} {x : Str} (h : atN N i x = true) : N[i]? = some x := by
  unfold atN at h
  split at h
  · rename_i y e; rw [e, beq_iff_eq.mp h]
  · cases h
def locN (sc : Scope) (x : Str) : Bool := match sc.names.lookup x with
  | some .local => nameOk x
  | _ => false
theorem locN_ok {sc : Scope} {x : Str} (h : locN sc x = true) : Vis sc x ∧ (x == ("__debug__" : Str)) = false ∧ (x == ("__classdict__" : Str)) = false := by
  unfold locN at h
  split at h
  · rename_i e
    simp only [nameOk, Bool.and_eq_true, Bool.not_eq_true'] at h
    exact ⟨.inl e, h⟩
  · cases h
/-- self.f = p -/
def asSet : Stmt → Option (Str × Str × Str)
  | .Assign [.Attribute (.Name s _) f _] (.Name p _) _ => some (s, f, p)
  | _ => none
theorem asSet_of {S : Stmt} {q : Str × Str × Str} (h : asSet S = some q) : ∃ p1 p2 p3 pos, S = .Assign [.Attribute (.Name q.1 p1) q.2.1 p2] (.Name q.2.2 p3) pos := by
  unfold asSet at h
  split at h
  · cases h; exact ⟨_, _, _, _, rfl⟩
  · cases h
def initB (N : List Str) (sc : Scope) : Nat → List String → List Stmt → Bool
  | _, [], l => l.isEmpty
  | i, f :: fs, l => match l with
    | S :: r => (match asSet S with
      | some q => ((atN N 0 q.1 && locN sc q.1) && (q.2.1 == fN f && (atN N i q.2.2 && locN sc q.2.2))) && initB N sc (i + 1) fs r
      | none => false)
    | [] => false
/-- the values put in, one field behind another -/
def putAllF : List String → List V → List (Str × V) → List (Str × V)
  | f :: fs, v :: vs, l => putAllF fs vs (putF (fN f) v l)
  | _, _, l => l
theorem putF_len (f : Str) (v : V) : ∀ l : List (Str × V), (putF f v l).length ≤ l.length + 1
  | [] => by simp [putF]
  | (g, x) :: r => by
    unfold putF
    split
    · simp
    · simp; exact putF_len f v r
theorem init_ps {X : Cx} : ∀ {fs : List String} {i : Nat} {body : List Stmt}, initB X.N X.env.scope i fs body = true → ∃ t, PSs X body t ∧
    ∀ (D : Ends) (σ : L2.St) (H : Hp) (a C dx : Addr) (us : List V) (l : List (Str × V)), us.length = fs.length → σ[0]? = some (some (.ref a)) → (∀ j v, us[j]? = some v → σ[i + j]? = some (some v)) → H a = some (.ins C dx l) → Cls X.K C →
      (∀ f ∈ fs, NoAttr X.K C (fN f)) → l.length + fs.length < 1000 → D.nx σ (upd H a (.ins C dx (putAllF fs us l))) → t D σ H
  | [], i, body, h => by
    cases body with
    | cons _ _ => simp [initB] at h
    | nil =>
      refine ⟨_, pss_nil, fun D σ H a C dx us l hl h0 hj hH hc hn hz q => ?_⟩
      have e : us = [] := List.eq_nil_of_length_eq_zero hl
      subst e
      have eu : upd H a (.ins C dx (putAllF [] [] l)) = H := by
        funext b
        by_cases hb : b = a
        · rw [hb, upd_same, hH]; rfl
        · rw [upd_ne hb]
      rw [eu] at q
      exact q
  | f :: fs, i, body, h => by
    cases body with
    | nil => simp [initB] at h
    | cons S r =>
      simp only [initB] at h
      split at h
      · rename_i q hq
        obtain ⟨p1, p2, p3, pos, rfl⟩ := asSet_of hq
        obtain ⟨s, g, p⟩ := q
        simp only [Bool.and_eq_true, beq_iff_eq] at h
        obtain ⟨⟨⟨h1, h2⟩, h3, h4, h5⟩, h6⟩ := h
        subst h3
        obtain ⟨t, ht, hu⟩ := init_ps h6
        obtain ⟨v1, v2, v3⟩ := locN_ok h2
        obtain ⟨w1, w2, w3⟩ := locN_ok h5
        refine ⟨_, pss_cons (ps_fld (pe_var (atN_ok h1) v1 v2 v3) (pe_var (atN_ok h4) w1 w2 w3) (by rfl)) ht, fun D σ H a C dx us l hl h0 hj hH hc hn hz q => ?_⟩
        cases us with
        | nil => simp at hl
        | cons v us =>
          refine ⟨v, by simpa using hj 0 v rfl, .ref a, h0, a, C, dx, l, rfl, hH, hc, hn f List.mem_cons_self, by simp at hz; omega, ?_⟩
          refine hu D σ (upd H a (.ins C dx (putF (fN f) v l))) a C dx us (putF (fN f) v l) (by simpa using hl) h0 (fun j x hx => ?_) upd_same hc (fun g hg => hn g (List.mem_cons_of_mem _ hg)) ?_ ?_
          · have := hj (j + 1) x (by simpa using hx)
            rw [show i + 1 + j = i + (j + 1) by omega]
            exact this
          · have := putF_len (fN f) v l
            simp at hz; omega
          · rw [upd_upd]
            exact q
      · cases h
/-- what __init__ gives -/
def spI (K : PySem.W.Frag) (flds : List String) : Sp := fun vs H Q E => ∃ (a C dx : Addr) (us : List V), vs = .ref a :: us ∧ us.length = flds.length ∧ H a = some (.ins C dx []) ∧ Cls K C ∧ (∀ f ∈ flds, NoAttr K C (fN f)) ∧ Q .non (upd H a (.ins C dx (putAllF flds us [])))
/-- a def __init__(self, ..) that keeps its parameters -/
def initFn (flds : List String) (N : List Str) (st : Stmt) : Bool := match plainOf (defArgs st) with
  | some as => (decide (as.length = flds.length + 1) && (N == as.map (·.arg) && (nodupB N && decide (flds.length < 100)))) &&
    ((decide ((defScope st).kind = .function) && (!(defScope st).isCoroutine && !(defScope st).isGenerator)) &&
    ((as.all (fun a => (defScope st).names.lookup a.arg == some .local || (defScope st).names.lookup a.arg == some .cell) && (defScope st).names.all (fun y => decide (y.2 ≠ .free))) && initB N (defScope st) 1 flds (defBody st)))
  | none => false
theorem init_fn {P : Program} {w : World} {K : PySem.W.Frag} {mg : Str → Option Value} {base : Heap} {flds : List String} {N : List Str} {st : Stmt} {nm qual : Str} {a : Addr} {fd : FuncData} (F : Fun K nm qual st a fd) (h : initFn flds N st = true) (k : Nat) :
    FnOk P w K mg base (L2.CX P w) (k + 1) a fd N (spI K flds) ∧ Binds K fd N [] := by
  unfold initFn at h
  split at h
  · rename_i as has
    simp only [Bool.and_eq_true, decide_eq_true_eq, beq_iff_eq, Bool.not_eq_true', List.all_eq_true, Bool.or_eq_true] at h
    obtain ⟨⟨h1, h2, h3, h4⟩, ⟨h5, h6, h7⟩, ⟨h8, h9⟩, h10⟩ := h
    have nd := nodupB_ok h3
    have ea := plainOf_of has
    have hN : N.length = flds.length + 1 := by rw [h2, List.length_map]; exact h1
    have S : FnScope N N (defScope st) := ⟨h5, h6, h7, nd, by simp, fun x hx => by
      rw [h2] at hx
      obtain ⟨y, hy, rfl⟩ := List.mem_map.mp hx
      exact h8 y hy, h9⟩
    refine ⟨F.okX S (fun vs H Q E z => ?_) fun cdv A outer s H vs Q E hr z => ?_, F.binds fun kV doc pm an cdv ct us hl => ?_⟩
    · obtain ⟨a, C, dx, us, rfl, hl, _⟩ := z
      rw [List.length_cons, hl, hN]
    · obtain ⟨b, C, dx, us, rfl, hl, hH, hc, hn, q⟩ := z
      obtain ⟨t, ht, hu⟩ := init_ps (X := cxOf (L2.CX P w) P w K mg base N qual (defScope st) a cdv A outer s H E) h10
      refine ⟨t, ht, hu _ (L2.start N (.ref b :: us)) H b C dx us [] hl ?_ (fun j v hv => ?_) hH hc hn (by simp; omega) q⟩
      · simp [L2.start]
      · have hj := (List.getElem?_eq_some_iff.mp hv).1
        unfold L2.start
        rw [List.getElem?_append_left (by simp; omega), List.getElem?_map, show 1 + j = j + 1 by omega, List.getElem?_cons_succ, hv]
        rfl
    · have e2 : N = as.map (·.arg) := h2
      rw [e2]
      exact bind_plain ea rfl (by rw [hl, hN, h1]) (by rw [← h2]; exact nd)
  · cases h
end Q

/-! __init__ of own exceptions -/
namespace Q
open PySem PySem.Spec PyProof.Rows L2

/-- the class of an own exception, by a look -/
def oexB (K : PySem.W.Frag) (C : Addr) : Bool := match K.lookup C with
  | some ⟨.type "type", _, .cls ⟨_, _, .ref C' :: bm, _, _, true, _, _, _, _, false⟩, sl⟩ => (match sl.toList with
    | [_, _, _, _, some (.builtin n), _] => C' == C && (n == "ValueError.__new__" && PySem.HandSPX.refsVE bm)
    | _ => false)
  | _ => false
theorem oexB_ok {K : PySem.W.Frag} {C : Addr} (h : oexB K C = true) : ∃ nm q N bs bm sn sub ab col dd k0 k1 k2 k3 k5, K.lookup C = some (excClassObj nm q C N bs bm true sn sub ab col dd k0 k1 k2 k3 k5 "ValueError.__new__") ∧ PySem.HandSPX.refsVE bm = true := by
  unfold oexB at h
  split at h
  · rename_i dd nm bs C' bm ns qn sn sub ab col sl ho
    split at h
    · rename_i k0 k1 k2 k3 n k5 hs
      simp only [Bool.and_eq_true, beq_iff_eq] at h
      obtain ⟨rfl, rfl, h3⟩ := h
      have hsl : sl = #[k0, k1, k2, k3, some (.builtin "ValueError.__new__"), k5] := by
        obtain ⟨l⟩ := sl
        simp only at hs
        rw [hs]
      subst hsl
      exact ⟨_, _, _, _, _, _, _, _, _, _, _, _, _, _, _, ho, h3⟩
    · cases h
  · cases h
/-- the base whose __init__ is called -/
structure Sup (K : PySem.W.Frag) (CS : Addr) : Prop where
  sp : PySem.W.specialIn K (.ref CS) "__getattribute__" = some (some (.builtin "type.__getattribute__"))
  rd : PySem.W.readsIn K CS (.type "type") = true
  at_ : PySem.W.findCls K (.ref CS) (.type "type") "__init__" = some (.val (.builtin "ValueError.__init__"))
section
variable {X : Cx} {x : Str} {e : Expr} {es : List Expr} {ta : TA} {p1 p2 pos : Pos} {CS : Addr}
theorem pe_supinit {pl : Sem Bool} (hg : Gl X x) (hm : X.mg x = some (.ref CS)) (hdb : (x == ("__debug__" : Str)) = false) (S : Sup X.K CS) (ha : PA X (e :: es) ta)
    (hc : eval (.Call (.Attribute (.Name x p1) "__init__" p2) (e :: es) [] pos) X.env = (do
      let ov ← eval (.Name x p1) X.env
      standAt p2.atName
      let (f, first) ← holding [ov] (getMethod ov "__init__" pl)
      callWith pos f first (backTo pos (starEach (e :: es) X.env)) (backToKw pos (keywordEach [] X.env))))
    (he : starEach (e :: es) X.env = (false, eval e X.env) :: starEach es X.env) (hpl : (backTo pos (starEach es X.env)).any (·.1) = false) :
    PE X (.Call (.Attribute (.Name x p1) "__init__" p2) (e :: es) [] pos) (tVeI X.K ta) := by
  refine ⟨fun pins s σ H Q I h => ?_⟩
  refine PySem.W.methodCall_KW (ld_glob I hg hm ?_ hdb) hc
  refine PySem.W.method_cls I.kIn S.sp (PySem.W.cls_value I.kIn S.rd S.at_ (by decide +kernel) ?_)
  show wpAny _ _ (callWith pos (Value.builtin "ValueError.__init__") [] (backTo pos (starEach (e :: es) X.env)) []) _ _ _
  refine PyProof.Rows.callWith_method1 (thn (ha.run pos pins _ σ H _ (I.tok _) h) fun us s1 ⟨vs, H1, I1, r1, a, C, ws, ev, hl, T, ea, q⟩ => ?_) he hpl
  subst ev
  cases r1 with
  | @cons _ u0 _ ur ra rw' =>
    obtain rfl : u0 = Value.ref a := ra
    have hlen : ur.length ≤ sizeLine := by
      rw [← Paired.length rw', sizeLine_eq]
      omega
    exact oinit_ok T I1 ea hlen fun s' J => ⟨.non, H1, J, rfl, q⟩
end
/-- B.__init__(self, "..") -/
def asSup : Stmt → Option (Str × Str × Str)
  | .Expr (.Call (.Attribute (.Name b _) g p2) [.Name s _, .Constant (.str m) _ _] [] pos) _ => if (g == ("__init__" : Str) && p2.endLine == pos.line) = true then some (b, s, m) else none
  | _ => none
theorem asSup_of {S : Stmt} {q : Str × Str × Str} (h : asSup S = some q) : ∃ p1 p2 p3 k p4 pos pos2, S = .Expr (.Call (.Attribute (.Name q.1 p1) "__init__" p2) [.Name q.2.1 p3, .Constant (.str q.2.2) k p4] [] pos) pos2 ∧ (p2.endLine == pos.line) = true := by
  unfold asSup at h
  split at h
  · split at h
    · rename_i hp
      rw [Bool.and_eq_true, beq_iff_eq] at hp
      cases h
      obtain ⟨h1, h2⟩ := hp
      subst h1
      exact ⟨_, _, _, _, _, _, _, rfl, h2⟩
    · cases h
  · cases h
def initXB (G : List (Str × Gn)) (N : List Str) (sc : Scope) (flds : List String) (l : List Stmt) : Bool := match l with
  | S :: r => (match asSup S with
    | some q => ((match sc.names.lookup q.1 with
      | some .globalImplicit => nameOk q.1
      | _ => false) && G.lookup q.1 == some (.cl .SayError)) && ((atN N 0 q.2.1 && locN sc q.2.1) && initB N sc 1 flds r)
    | none => false)
  | [] => false
/-- the fields put behind one another in an exception's dict -/
theorem initx_ps {X : Cx} : ∀ {fs : List String} {i : Nat} {body : List Stmt}, initB X.N X.env.scope i fs body = true → ∃ t, PSs X body t ∧
    ∀ (D : Ends) (σ : L2.St) (H : Hp) (a C dx : Addr) (us : List V) (l : List (Str × V)), us.length = fs.length → σ[0]? = some (some (.ref a)) → (∀ j v, us[j]? = some v → σ[i + j]? = some (some v)) → H a = some (exo a C (some dx)) → H dx = some (exd dx l) → dx ≠ a → OexC X.K C →
      (∀ f ∈ fs, PySem.W.findIn X.K (.ref C) (fN f) = some none) → l.length + fs.length ≤ 900 → D.nx σ (upd H dx (exd dx (((fs.map fN).zip us).reverse ++ l))) → t D σ H
  | [], i, body, h => by
    cases body with
    | cons _ _ => simp [initB] at h
    | nil =>
      refine ⟨_, pss_nil, fun D σ H a C dx us l hl h0 hj hH hd nd hc hn hz q => ?_⟩
      have eu : upd H dx (exd dx (((([] : List String).map fN).zip us).reverse ++ l)) = H := by
        funext b
        by_cases hb : b = dx
        · rw [hb, upd_same, hd]; rfl
        · rw [upd_ne hb]
      rw [eu] at q
      exact q
  | f :: fs, i, body, h => by
    cases body with
    | nil => simp [initB] at h
    | cons S r =>
      simp only [initB] at h
      split at h
      · rename_i q hq
        obtain ⟨p1, p2, p3, pos, rfl⟩ := asSet_of hq
        obtain ⟨s, g, p⟩ := q
        simp only [Bool.and_eq_true, beq_iff_eq] at h
        obtain ⟨⟨⟨h1, h2⟩, h3, h4, h5⟩, h6⟩ := h
        subst h3
        obtain ⟨t, ht, hu⟩ := initx_ps h6
        obtain ⟨v1, v2, v3⟩ := locN_ok h2
        obtain ⟨w1, w2, w3⟩ := locN_ok h5
        refine ⟨_, pss_cons (ps_ost (pe_var (atN_ok h1) v1 v2 v3) (pe_var (atN_ok h4) w1 w2 w3) (by rfl)) ht, fun D σ H a C dx us l hl h0 hj hH hd nd hc hn hz q => ?_⟩
        cases us with
        | nil => simp at hl
        | cons v us =>
          refine ⟨v, by simpa using hj 0 v rfl, .ref a, h0, a, C, rfl, hc, hn f List.mem_cons_self, .inr ⟨dx, l, hH, hd, by simp at hz; omega, ?_⟩⟩
          refine hu D σ (upd H dx (exd dx ((fN f, v) :: l))) a C dx us ((fN f, v) :: l) (by simpa using hl) h0 (fun j x hx => ?_) (by rw [upd_ne (Ne.symm nd)]; exact hH) upd_same nd hc (fun g hg => hn g (List.mem_cons_of_mem _ hg)) (by simp at hz ⊢; omega) ?_
          · have := hj (j + 1) x (by simpa using hx)
            rw [show i + 1 + j = i + (j + 1) by omega]
            exact this
          · rw [upd_upd]
            have e : ((fs.map fN).zip us).reverse ++ (fN f, v) :: l = (((f :: fs).map fN).zip (v :: us)).reverse ++ l := by simp
            rw [e]
            exact q
      · cases h
/-- .. the first one lays the dict -/
theorem initx_ps1 {X : Cx} {f : String} {fs : List String} {i : Nat} {body : List Stmt} (h : initB X.N X.env.scope i (f :: fs) body = true) : ∃ t, PSs X body t ∧
    ∀ (D : Ends) (σ : L2.St) (H : Hp) (a C : Addr) (us : List V), us.length = (f :: fs).length → σ[0]? = some (some (.ref a)) → (∀ j v, us[j]? = some v → σ[i + j]? = some (some v)) → H a = some (exo a C none) → OexC X.K C →
      (∀ g ∈ f :: fs, PySem.W.findIn X.K (.ref C) (fN g) = some none) → (f :: fs).length ≤ 900 → (∀ dx, H dx = none → dx ≠ a → D.nx σ (upd (upd H a (exo a C (some dx))) dx (exd dx (((f :: fs).map fN).zip us).reverse))) → t D σ H := by
  cases body with
  | nil => simp [initB] at h
  | cons S r =>
    simp only [initB] at h
    split at h
    · rename_i q hq
      obtain ⟨p1, p2, p3, pos, rfl⟩ := asSet_of hq
      obtain ⟨s, g, p⟩ := q
      simp only [Bool.and_eq_true, beq_iff_eq] at h
      obtain ⟨⟨⟨h1, h2⟩, h3, h4, h5⟩, h6⟩ := h
      subst h3
      obtain ⟨t, ht, hu⟩ := initx_ps h6
      obtain ⟨v1, v2, v3⟩ := locN_ok h2
      obtain ⟨w1, w2, w3⟩ := locN_ok h5
      refine ⟨_, pss_cons (ps_ost (pe_var (atN_ok h1) v1 v2 v3) (pe_var (atN_ok h4) w1 w2 w3) (by rfl)) ht, fun D σ H a C us hl h0 hj hH hc hn hz q => ?_⟩
      cases us with
      | nil => simp at hl
      | cons v us =>
        refine ⟨v, by simpa using hj 0 v rfl, .ref a, h0, a, C, rfl, hc, hn f List.mem_cons_self, .inl ⟨hH, fun dx n1 n2 => ?_⟩⟩
        refine hu D σ _ a C dx us [(fN f, v)] (by simpa using hl) h0 (fun j x hx => ?_) upd_same ?_ n2 hc (fun g hg => hn g (List.mem_cons_of_mem _ hg)) (by simp at hz ⊢; omega) ?_
        · have := hj (j + 1) x (by simpa using hx)
          rw [show i + 1 + j = i + (j + 1) by omega]
          exact this
        · rw [upd_ne n2, upd_same]
        · have q2 := q dx n1 n2
          have e : ((fs.map fN).zip us).reverse ++ [(fN f, v)] = (((f :: fs).map fN).zip (v :: us)).reverse := by simp
          rw [e]
          have eu : upd (upd (upd H dx (exd dx [(fN f, v)])) a (exo a C (some dx))) dx (exd dx (((f :: fs).map fN).zip (v :: us)).reverse) = upd (upd H a (exo a C (some dx))) dx (exd dx (((f :: fs).map fN).zip (v :: us)).reverse) := by
            funext b
            by_cases hb : b = dx
            · rw [hb, upd_same, upd_same]
            · rw [upd_ne hb, upd_ne hb]
              by_cases hb2 : b = a
              · rw [hb2, upd_same, upd_same]
              · rw [upd_ne hb2, upd_ne hb2, upd_ne hb]
          rw [eu]
          exact q2
    · cases h
def spX (K : PySem.W.Frag) (flds : List String) : Sp := fun vs H Q E => ∃ (a C : Addr) (us : List V), vs = .ref a :: us ∧ us.length = flds.length ∧ H a = some (exo a C none) ∧ OexC K C ∧ (∀ g ∈ flds, PySem.W.findIn K (.ref C) (fN g) = some none) ∧
  ∀ dx, H dx = none → dx ≠ a → Q .non (upd (upd H a (exo a C (some dx))) dx (exd dx ((flds.map fN).zip us).reverse))
def initXFn (G : List (Str × Gn)) (flds : List String) (N : List Str) (st : Stmt) : Bool := match plainOf (defArgs st) with
  | some as => (decide (as.length = flds.length + 1) && (N == as.map (·.arg) && (nodupB N && (decide (flds.length < 100) && !flds.isEmpty)))) &&
    ((decide ((defScope st).kind = .function) && (!(defScope st).isCoroutine && !(defScope st).isGenerator)) &&
    ((as.all (fun a => (defScope st).names.lookup a.arg == some .local || (defScope st).names.lookup a.arg == some .cell) && (defScope st).names.all (fun y => decide (y.2 ≠ .free))) && initXB G N (defScope st) flds (defBody st)))
  | none => false
theorem initx_fn {G : List (Str × Gn)} {P : Program} {w : World} {K : PySem.W.Frag} {mg : Str → Option Value} {base : Heap} {flds : List String} {N : List Str} {st : Stmt} {nm qual : Str} {a : Addr} {fd : FuncData} (F : Fun K nm qual st a fd) (h : initXFn G flds N st = true) (k : Nat)
    {CS : Addr} (hS : ∀ x, G.lookup x = some (.cl .SayError) → mg x = some (.ref CS) ∧ Sup K CS) :
    FnOk P w K mg base (L2.CX P w) (k + 1) a fd N (spX K flds) ∧ Binds K fd N [] := by
  unfold initXFn at h
  split at h
  · rename_i as has
    simp only [Bool.and_eq_true, decide_eq_true_eq, beq_iff_eq, Bool.not_eq_true', List.all_eq_true, Bool.or_eq_true] at h
    obtain ⟨⟨h1, h2, h3, h4, h4'⟩, ⟨h5, h6, h7⟩, ⟨h8, h9⟩, h10⟩ := h
    have nd := nodupB_ok h3
    have ea := plainOf_of has
    have hN : N.length = flds.length + 1 := by rw [h2, List.length_map]; exact h1
    have S : FnScope N N (defScope st) := ⟨h5, h6, h7, nd, by simp, fun x hx => by
      rw [h2] at hx
      obtain ⟨y, hy, rfl⟩ := List.mem_map.mp hx
      exact h8 y hy, h9⟩
    refine ⟨F.okX S (fun vs H Q E z => ?_) fun cdv A outer s H vs Q E hr z => ?_, F.binds fun kV doc pm an cdv ct us hl => ?_⟩
    · obtain ⟨a, C, us, rfl, hl, _⟩ := z
      rw [List.length_cons, hl, hN]
    · obtain ⟨b, C, us, rfl, hl, hH, hc, hn, q⟩ := z
      generalize defBody st = body at h10 ⊢
      cases body with
      | nil => simp [initXB] at h10
      | cons S1 r =>
        simp only [initXB] at h10
        split at h10
        · rename_i q1 hq1
          obtain ⟨p1, p2, p3, kk, p4, pos, pos2, rfl, hln⟩ := asSup_of hq1
          obtain ⟨bn, sn, msg⟩ := q1
          simp only [Bool.and_eq_true, beq_iff_eq] at h10
          obtain ⟨⟨g1, g2⟩, ⟨g3, g4⟩, g5⟩ := h10
          cases flds with
          | nil => cases h4'
          | cons f fs =>
            let X : Cx := cxOf (L2.CX P w) P w K mg base N qual (defScope st) a cdv A outer s H E
            obtain ⟨t, ht, hu⟩ := initx_ps1 (X := X) g5
            obtain ⟨s1, s2⟩ := hS bn g2
            obtain ⟨v1, v2, v3⟩ := locN_ok g4
            have hg : Gl X bn ∧ (bn == ("__debug__" : Str)) = false := by
              split at g1
              · rename_i e
                simp only [nameOk, Bool.and_eq_true, Bool.not_eq_true'] at g1
                exact ⟨by unfold Gl Env.kindOf; exact e, g1.1⟩
              · cases g1
            have hfew : ((backTo pos (starEach [Expr.Name sn p3, Expr.Constant (.str msg) kk p4] X.env)).all (fun x => !x.1) && (backToKw pos (keywordEach [] X.env)).all (fun x => x.1.isSome) && decide ([Expr.Name sn p3, Expr.Constant (.str msg) kk p4].length + ([] : List Keyword).length + (if ([] : List Keyword).isEmpty then 0 else 1) < 30)) = true := by rfl
            have pe := pe_supinit (X := X) (p1 := p1) (p2 := p2) (pos := pos) hg.1 s1 hg.2 s2 (pa_cons (pe_var (pos := p3) (atN_ok g3) v1 v2 v3) (pa_cons (pe_str (x := msg)) pa_nil)) (meth_tree (by rfl) hln hfew) (by rfl) (by rfl)
            refine ⟨_, pss_cons (ps_expr pe) ht, ?_⟩
            have h0 : (L2.start N (.ref b :: us))[0]? = some (some (.ref b)) := by simp [L2.start]
            refine ⟨.ref b, h0, b, C, [.str msg], rfl, by simp, hc, hH, ?_⟩
            refine hu _ (L2.start N (.ref b :: us)) H b C us hl h0 (fun j v hv => ?_) hH hc hn (by omega) q
            have hj := (List.getElem?_eq_some_iff.mp hv).1
            unfold L2.start
            rw [List.getElem?_append_left (by simp; omega), List.getElem?_map, show 1 + j = j + 1 by omega, List.getElem?_cons_succ, hv]
            rfl
        · cases h10
    · have e2 : N = as.map (·.arg) := h2
      rw [e2]
      exact bind_plain ea rfl (by rw [hl, hN, h1]) (by rw [← h2]; exact nd)
  · cases h
end Q

/-! the given text is mine: the check; the contexts in which a text stands -/
namespace Q
open PySem PySem.Spec PyProof.Rows L2

/-- a law's world -/
structure Wl where
  C : Cn → Addr
  has : Cn → Bool
  T : Tab
/-- where a text stands -/
structure Ck where
  G : List (Str × Gn)
  sc : Scope
  N : List Str
  fn : Str → Bool
  hot : Bool
def glB (c : Ck) (x : Str) : Bool := match c.sc.names.lookup x with
  | some .globalImplicit => nameOk x
  | _ => false
def visB (c : Ck) (x : Str) : Bool := match c.sc.names.lookup x with
  | some .local => nameOk x
  | some .cell => nameOk x
  | some .free => nameOk x
  | _ => false
def locB (c : Ck) (x : Str) : Bool := match c.sc.names.lookup x with
  | some .local => true
  | some .cell => c.fn x
  | _ => false
def atB (c : Ck) (i : Nat) (x : Str) : Bool := match c.N[i]? with
  | some y => y == x
  | none => false
def cstB : D → Const → Bool
  | .non, .none => true
  | .bl b, .bool c => b == c
  | .int i, .int j => i == j
  | .str x, .str y => x == y && PyData.strOk x
  | _, _ => false
def fldKnown (f : String) : Bool := ["at", "word", "line", "name", "part", "one", "other", "kept"].contains f
def tyB1 (c : Ck) (t : Ty) (e : Expr) : Bool := match asName e with
  | some x => glB c x && (match t with
    | .tint => x == ("int" : Str)
    | .tbool => x == ("bool" : Str)
    | .tstr => x == ("str" : Str)
    | .ttuple => x == ("tuple" : Str)
    | .tlist => x == ("list" : Str)
    | .tval => x == ("ValueError" : Str)
    | .own d => c.G.lookup x == some (.cl d))
  | none => false
def tyBs (c : Ck) : List Ty → List Expr → Bool
  | [], [] => true
  | t :: ts, e :: es => noStar e && (tyB1 c t e && tyBs c ts es)
  | _, _ => false
def tyB (c : Ck) (ts : List Ty) (e : Expr) : Bool := match ts with
  | [t] => tyB1 c t e
  | ts => match asTup e with
    | some l => tyBs c ts l && decide (l.length ≤ 100)
    | none => false
def namesB (c : Ck) : List Nat → List Expr → Bool
  | [], [] => true
  | i :: is, e :: es => (match asName e with
    | some x => atB c i x && locB c x
    | none => false) && namesB c is es
  | _, _ => false
def tgB (c : Ck) (t : Tg) (e : Expr) : Bool := match t with
  | .one i => (match asName e with
    | some x => atB c i x && locB c x
    | none => false)
  | .many is => match asTup e with
    | some l => namesB c is l
    | none => false
def tgIn (own : List Nat) : Tg → Bool
  | .one i => own.contains i
  | .many is => is.all own.contains
def ownL (c : Ck) (own : List Nat) : List (Str × Nat) := own.map fun i => ((c.N[i]?).getD ("" : Str), i)
def blkB (c : Ck) (sc : Scope) (own : List Nat) : Bool :=
  decide (sc.kind = .function) && (sc.names.all (fun y => sc.names.lookup y.1 == some y.2) && (own.all (fun i => decide (i < c.N.length)) &&
    (sc.names.all (fun y => if y.2 = .free then (match c.sc.names.lookup y.1 with
      | some .cell => true
      | some .free => true
      | _ => false) else if y.2 = .local ∨ y.2 = .cell then ((ownL c own).map (·.1)).contains y.1 || !c.N.contains y.1 else true))))
def Ck.blk (c : Ck) (sc : Scope) : Ck := { c with sc := relS sc c.sc, fn := fun x => sc.names.lookup x == some .cell }
def few (l : List Expr) : Bool := decide (l.length ≤ 20)
def Exs.len : Exs → Nat
  | .nil => 0
  | .cons _ r => r.len + 1
def Exs.isNil : Exs → Bool
  | .nil => true
  | _ => false
def Bi.ok : Bi → Bool
  | .sortedset | .sorted | .lenset => false
  | _ => true
mutual
def chkE (c : Ck) : Ex → Expr → Bool
  | .v i, E => match asName E with
    | some x => atB c i x && visB c x
    | none => false
  | .k d, E => match asConst E with
    | some q => cstB d q
    | none => false
  | .g y, E => match asName E with
    | some x => glB c x && c.G.lookup x == some (.con y)
    | none => false
  | .tup es, E => match asTup E with
    | some l => chkEs c es l && decide (l.length ≤ 1000)
    | none => false
  | .lst es, E => match asLst E with
    | some l => chkEs c es l && decide (l.length ≤ 1000)
    | none => false
  | .dic t es, E => match asDict E with
    | some q => !t && (es.isNil && (q.1.isEmpty && q.2.isEmpty))
    | none => false
  | .bin o a b, E => match asBin E with
    | some q => decide (q.1 = o.op) && (chkE c a q.2.1 && chkE c b q.2.2)
    | none => false
  | .neg a, E => match asNeg E with
    | some x => chkE c a x
    | none => false
  | .cmp o a b, E => match asCmp1 E with
    | some q => decide (q.1 = o.op) && (noSet q.2.2 && (chkE c a q.2.1 && chkE c b q.2.2))
    | none => false
  | .chn o p a b d, E => match asCmp2 E with
    | some q => decide (q.1 = o.op) && (decide (q.2.1 = p.op) && (noSet q.2.2.2.2 && (chkE c a q.2.2.1 && (chkE c b q.2.2.2.1 && chkE c d q.2.2.2.2))))
    | none => false
  | .isn a n, E => match asCmp1 E with
    | some q => decide (q.1 = if n then .IsNot else .Is) && (decide (asConst q.2.2 = some .none) && chkE c a q.2.1)
    | none => false
  | .ist a b n, E => match asCmp1 E with
    | some q => decide (q.1 = if n then .IsNot else .Is) && (decide (asConst q.2.2 = some (.bool b)) && chkE c a q.2.1)
    | none => false
  | .not a, E => match asNot E with
    | some x => chkE c a x
    | none => false
  | .and es, E => match asAnd E with
    | some l => chkEs c es l && !l.isEmpty
    | none => false
  | .or es, E => match asOr E with
    | some l => chkEs c es l && !l.isEmpty
    | none => false
  | .orv a b, E => match asOr E with
    | some [x, y] => chkE c a x && chkE c b y
    | _ => false
  | .ite q a b, E => match asIf E with
    | some r => chkE c q r.1 && (chkE c a r.2.1 && chkE c b r.2.2)
    | none => false
  | .sub a i, E => match asSub E with
    | some q => noSlice q.2 && (chkE c a q.1 && chkE c i q.2)
    | none => false
  | .slc a lo hi, E => match asSub E with
    | some q => (match asSlc q.2 with
      | some r => chkE c a q.1 && (chkO c lo r.1 && chkO c hi r.2)
      | none => false)
    | none => false
  | .fld a f, E => match asAttr E with
    | some q => q.2 == fN f && (fldKnown f && (plainB q.1 && chkE c a q.1))
    | none => false
  | .call f es, E => match asCall E with
    | some q => (!c.hot && (glB c q.1 && c.G.lookup q.1 == some (.fn f))) && chkEs c es q.2
    | none => false
  | .mk d es, E => match asCall E with
    | some q => ((!c.hot && (glB c q.1 && c.G.lookup q.1 == some (.cl d))) && (c.G.lookup (mkN d) == some (.mk d) && !d.isExc)) && (chkEs c es q.2 && decide (q.2.length = d.flds.length))
    | none => false
  | .mth a m es, E => match asMeth E with
    | some q => ((!c.hot && q.2.1 == fN m) && (plainB q.1 && !fldKnown m)) && (chkE c a q.1 && (chkEs c es q.2.2 && few q.2.2))
    | none => false
  | .b f es, E => match asCall E with
    | some q => (!c.hot && (f.ok && (glB c q.1 && q.1 == Str.ofString f.val.1))) && (chkEs c es q.2 && !q.2.isEmpty)
    | none => false
  | .bm m a es, E => match asMeth E with
    | some q => (q.2.1 == Str.ofString m.name && plainB q.1) && (chkE c a q.1 && (chkEs c es q.2.2 && few q.2.2))
    | none => false
  | .isi a ts, E => match asCall E with
    | some (x, [e, t]) => (glB c x && x == ("isinstance" : Str)) && ((noStar e && noStar t) && (chkE c a e && tyB c ts t))
    | _ => false
  | .gget _ _, _ => false
  | .gin _ _ _, _ => false
  | .comp e tg it q own, E => match asLc E with
    | some r => (!c.hot && (noSet r.2.2.1 && (blkB c r.2.2.2.2 own && tgIn own tg))) && (chkI c it r.2.1 r.2.2.1 && (tgB (c.blk r.2.2.2.2) tg r.2.1 && (chkC (c.blk r.2.2.2.2) q r.2.2.2.1 && chkE (c.blk r.2.2.2.2) e r.1)))
    | none => false
  | .jst _, _ => false
def chkEs (c : Ck) : Exs → List Expr → Bool
  | .nil, l => l.isEmpty
  | .cons e es, l => match l with
    | x :: r => noStar x && (chkE c e x && chkEs c es r)
    | [] => false
def chkO (c : Ck) : Eo → Option Expr → Bool
  | .none, o => o.isNone
  | .some e, o => match o with
    | some x => chkE c e x
    | none => false
def chkC (c : Ck) : Eo → List Expr → Bool
  | .none, l => l.isEmpty
  | .some e, l => match l with
    | [x] => chkE c e x
    | _ => false
def chkI (c : Ck) : It → Expr → Expr → Bool
  | .sq e, _, E => chkE c e E
  | .r1 a, _, E => match asCall E with
    | some (x, [p]) => (glB c x && x == ("range" : Str)) && (noStar p && chkE c a p)
    | _ => false
  | .r2 a b, _, E => match asCall E with
    | some (x, [p, q]) => (glB c x && x == ("range" : Str)) && ((noStar p && noStar q) && (chkE c a p && chkE c b q))
    | _ => false
  | .r3 a b d, _, E => match asCall E with
    | some (x, [p, q, t]) => (glB c x && x == ("range" : Str)) && ((noStar p && (noStar q && noStar t)) && (chkE c a p && (chkE c b q && chkE c d t)))
    | _ => false
  | .enum e, T, E => match asTup T, asCall E with
    | some _, some (x, [p]) => (glB c x && x == ("enumerate" : Str)) && (noStar p && chkE c e p)
    | _, _ => false
  | .zip a b, T, E => match asTup T, asCall E with
    | some _, some (x, [p, q]) => (glB c x && x == ("zip" : Str)) && ((noStar p && noStar q) && (chkE c a p && chkE c b q))
    | _, _ => false
  | .items _, _, _ => false
end

/-! ### statements -/
def isLcEx : Ex → Bool
  | .comp _ _ _ _ _ => true
  | _ => false
def asAsg : Stmt → Option (Expr × Expr)
  | .Assign [t] v _ => some (t, v)
  | _ => none
theorem asAsg_of {e : Stmt} {x : Expr × Expr} (h : asAsg e = some x) : ∃ p, e = .Assign [x.1] x.2 p := by
  unfold asAsg at h
  split at h
  · cases h; exact ⟨_, rfl⟩
  · cases h
def asExpr : Stmt → Option Expr
  | .Expr v _ => some v
  | _ => none
theorem asExpr_of {e : Stmt} {x : Expr} (h : asExpr e = some x) : ∃ p, e = .Expr x p := by
  cases e <;> cases h; exact ⟨_, rfl⟩
def asRet : Stmt → Option (Option Expr)
  | .Return v _ => some v
  | _ => none
theorem asRet_of {e : Stmt} {x : Option Expr} (h : asRet e = some x) : ∃ p, e = .Return x p := by
  cases e <;> cases h; exact ⟨_, rfl⟩
def asIfS : Stmt → Option (Expr × List Stmt × List Stmt)
  | .If c a b _ => some (c, a, b)
  | _ => none
theorem asIfS_of {e : Stmt} {x : Expr × List Stmt × List Stmt} (h : asIfS e = some x) : ∃ p, e = .If x.1 x.2.1 x.2.2 p := by
  cases e <;> cases h; exact ⟨_, rfl⟩
def asWhl : Stmt → Option (Expr × List Stmt)
  | .While c a [] _ => some (c, a)
  | _ => none
theorem asWhl_of {e : Stmt} {x : Expr × List Stmt} (h : asWhl e = some x) : ∃ p, e = .While x.1 x.2 [] p := by
  unfold asWhl at h
  split at h
  · cases h; exact ⟨_, rfl⟩
  · cases h
def asFor : Stmt → Option (Expr × Expr × List Stmt)
  | .For t i a [] _ => some (t, i, a)
  | _ => none
theorem asFor_of {e : Stmt} {x : Expr × Expr × List Stmt} (h : asFor e = some x) : ∃ p, e = .For x.1 x.2.1 x.2.2 [] p := by
  unfold asFor at h
  split at h
  · cases h; exact ⟨_, rfl⟩
  · cases h
def asRaise : Stmt → Option Expr
  | .Raise (some e) none _ => some e
  | _ => none
theorem asRaise_of {e : Stmt} {x : Expr} (h : asRaise e = some x) : ∃ p, e = .Raise (some x) none p := by
  unfold asRaise at h
  split at h
  · cases h; exact ⟨_, rfl⟩
  · cases h
def asTry : Stmt → Option (List Stmt × List ExceptHandler)
  | .Try b hs [] [] _ => some (b, hs)
  | _ => none
theorem asTry_of {e : Stmt} {x : List Stmt × List ExceptHandler} (h : asTry e = some x) : ∃ p, e = .Try x.1 x.2 [] [] p := by
  unfold asTry at h
  split at h
  · cases h; exact ⟨_, rfl⟩
  · cases h
def isPass : Stmt → Bool
  | .Pass _ => true
  | _ => false
def isBrk : Stmt → Bool
  | .Break _ => true
  | _ => false
def isCnt : Stmt → Bool
  | .Continue _ => true
  | _ => false
def notTup : Expr → Bool
  | .Tuple .. => false
  | _ => true
/-- two names, on one line, and two values that are not folded -/
def parB (c : Ck) (i j : Nat) (T V : Expr) : Option (Expr × Expr) := match T, V with
  | .Tuple [.Name x px, .Name y py] _ _, .Tuple [a, b] _ _ =>
    if (atB c i x && (atB c j y && decide (i ≠ j))) && ((c.sc.names.lookup x == some .local && (c.sc.names.lookup y == some .local && px.line == py.line)) && ((noStar a && noStar b) && (decide (c.sc.kind = .function) && (!([a, b].all (foldedForSure 8)) && (!([a, b].all (constantsAlone 8)) && !(x == y)))))) = true then some (a, b) else none
  | _, _ => none
mutual
def chkS (c : Ck) : Sm → Stmt → Bool
  | .pass, S => isPass S
  | .set i e, S => match asAsg S with
    | some q => (match asName q.1 with
      | some x => (atB c i x && locB c x) && (chkE c e q.2 && (!isLc q.2 || isLcEx e))
      | none => false)
    | none => false
  | .setT is e, S => match asAsg S with
    | some q => (match asTup q.1 with
      | some l => (!c.hot && namesB c is l) && (chkE c e q.2 && notTup q.2)
      | none => false)
    | none => false
  | .par i j a b, S => match asAsg S with
    | some q => (match parB c i j q.1 q.2 with
      | some r => !c.hot && (chkE c a r.1 && chkE c b r.2)
      | none => false)
    | none => false
  | .setI o i e, S => match asAsg S with
    | some q => (match asSub q.1 with
      | some r => noSlice r.2 && (chkE c o r.1 && (chkE c i r.2 && chkE c e q.2))
      | none => false)
    | none => false
  | .ex e, S => match asExpr S with
    | some x => !isLc x && chkE c e x
    | none => false
  | .ret e, S => match asRet S with
    | some (some x) => chkE c e x
    | _ => false
  | .retN, S => match asRet S with
    | some none => true
    | _ => false
  | .ite q a b, S => match asIfS S with
    | some r => chkE c q r.1 && (chkB c a r.2.1 && chkB c b r.2.2)
    | none => false
  | .whl q a, S => match asWhl S with
    | some r => !c.hot && (chkE c q r.1 && chkB c a r.2)
    | none => false
  | .for tg it a, S => match asFor S with
    | some r => (!c.hot && noSet r.2.1) && (chkI c it r.1 r.2.1 && (tgB c tg r.1 && chkB c a r.2.2))
    | none => false
  | .brk, S => isBrk S
  | .cnt, S => isCnt S
  | .raise d es, S => match asRaise S with
    | some e => (match asCall e with
      | some q => ((!c.hot && (d.plainExc || (d.isExc && (c.G.lookup (mkN d) == some (.mk d) && !d.flds.isEmpty)))) && (glB c q.1 && c.G.lookup q.1 == some (.cl d))) && (chkEs c es q.2 && (!q.2.isEmpty && decide (q.2.length ≤ 1000)))
      | none => false)
    | none => false
  | .try a hs, S => match asTry S with
    | some q => (!c.hot && !q.2.isEmpty) && (chkB c a q.1 && chkH c hs q.2)
    | none => false
def chkB (c : Ck) : Bl → List Stmt → Bool
  | .nil, l => l.isEmpty
  | .cons x r, l => match l with
    | y :: t => chkS c x y && chkB c r t
    | [] => false
def chkH (c : Ck) : Hds → List ExceptHandler → Bool
  | .nil, l => l.isEmpty
  | .cons d i b r, l => match l with
    | .ExceptHandler (some (.Name x _)) nm (y :: t) _ :: l2 => ((glB c x && c.G.lookup x == some (.cl d)) && (d.isExc && (match i, nm with
        | none, none => true
        | some i, some n => atB c i n && c.sc.names.lookup n == some .local
        | _, _ => false))) && (chkB { c with hot := true } b (y :: t) && chkH c r l2)
    | _ => false
end

/-! ### contexts -/
/-- what a call of a def gives -/
def spF (W : Wd) (T : Tab) (f : String) (k : Nat) : Sp := fun vs H Q E => ∃ r hs ds, Mt W r H hs ∧ Rvs W r H ds vs ∧ Post (Rv W) W (fun c d _ H => E c d H) [] r H (call T k f ds hs) Q
def FnS (X : Cx) (L : Wl) (k : Nat) (f : String) (x : Str) : Prop := ∃ (a : Addr) (fd : FuncData) (ps : List Str), X.mg x = some (.ref a) ∧ PySem.W.keepIn X.K (.ref a) = true ∧
  FnOk X.prog X.w X.K X.mg X.base (L2.CX X.prog X.w) (k + 2) a fd ps (spF ⟨X.K, L.C, L.has⟩ L.T f k) ∧ Binds X.K fd ps []
/-- a method of a class -/
def MtS (X : Cx) (L : Wl) (k : Nat) (c : Cn) (m f : String) : Prop := (L.has c = true ∧ c.isExc = false) ∧ ∃ (a : Addr) (fd : FuncData) (ps : List Str), Meth X.K (L.C c) (fN m) a ∧
  FnOk X.prog X.w X.K X.mg X.base (L2.CX X.prog X.w) (k + 2) a fd ps (spF ⟨X.K, L.C, L.has⟩ L.T f k) ∧ Binds X.K fd ps []
/-- a class whose things are made -/
def IniOk (K : PySem.W.Frag) (C : Addr) (d : Cn) : Prop := (d.flds = [] ∧ Mk0 K C) ∨ ∃ (a : Addr) (fd : FuncData) (nm qual : Str) (st : Stmt) (N : List Str), Mk K C a ∧ Fun K nm qual st a fd ∧ initFn d.flds N st = true
/-- an own exception with fields -/
def IniX (G : List (Str × Gn)) (K : PySem.W.Frag) (mg : Str → Option Value) (C CS : Addr) (d : Cn) : Prop := ∃ (a : Addr) (fd : FuncData) (nm qual : Str) (st : Stmt) (N : List Str), OexC K C ∧ PySem.W.findIn K (.ref C) "__init__" = some (some (.ref a)) ∧
  PySem.W.typeIn K (.ref a) = some (.type "function") ∧ Fun K nm qual st a fd ∧ initXFn G d.flds N st = true ∧ ∀ x, G.lookup x = some (.cl .SayError) → mg x = some (.ref CS) ∧ Sup K CS
def IniS (L : Wl) (G : List (Str × Gn)) (K : PySem.W.Frag) (mg : Str → Option Value) (d : Cn) : Prop := L.has d = true ∧ (d.isExc = false → IniOk K (L.C d) d) ∧ (d.isExc = true → IniX G K mg (L.C d) (L.C .SayError) d)
def bltN : List Str := ["len", "abs", "min", "max", "int", "str", "tuple", "list", "sum", "any", "all", "range", "enumerate", "zip", "isinstance", "bool", "ValueError", "sorted", "set"]
/-- an exception class that is made of one text -/
def PlainX (K : PySem.W.Frag) (C : Addr) : Prop := ∃ (bmB : List Value) (B newId initId : String), ExcBaseFacts B newId initId bmB ∧ PySem.W.excIn K C bmB newId = true ∧
  ∀ (M : Model) (h : Heap), K.In h → PySem.W.Looks M h (isSubtype (.ref C) (.type "BaseException")) true ∧ PySem.W.Looks M h (typeOf (.ref C)) (.type "type")
structure XOk (L : Wl) (k : Nat) (c : Ck) (X : Cx) : Prop where
  sc : X.env.scope = c.sc
  N : X.N = c.N
  nd : X.N.Nodup
  fn : ∀ x, c.fn x = true → X.fn x = true
  calm : c.hot = false → X.calm = true ∧ Room (k + 2) X.A
  un : X.A.units + 160 < cLine
  cls : ClsOk ⟨X.K, L.C, L.has⟩
  noat : ∀ (d : Cn) (f : String), L.has d = true → fldKnown f = true → NoAttr X.K (L.C d) (fN f)
  blt : ∀ x, x ∈ bltN → X.mg x = none
  fns : ∀ x f, c.G.lookup x = some (.fn f) → FnS X L k f x
  cns : ∀ x d, c.G.lookup x = some (.cl d) → L.has d = true ∧ X.mg x = some (.ref (L.C d)) ∧ PySem.W.keepIn X.K (.ref (L.C d)) = true
  exm : ∀ d e : Cn, L.has d = true → L.has e = true → d.isExc = true → e.isExc = true → PySem.W.exmOne X.K (.ref (L.C d)) (.ref (L.C e)) = some (d.under e)
  pex : ∀ d : Cn, L.has d = true → d.plainExc = true → PlainX X.K (L.C d)
  con : ∀ x y, c.G.lookup x = some (.con y) → ∃ d v u, L.T.con y = some d ∧ X.mg x = some u ∧ L2.RelV v u ∧ ∀ r H, Rv ⟨X.K, L.C, L.has⟩ r H d v
  mts : ∀ d m f, L.T.meth d m = some f → MtS X L k d m f
  ini : ∀ x d, c.G.lookup x = some (.mk d) → IniS L c.G X.K X.mg d
section
variable {L : Wl} {k : Nat} {c : Ck} {X : Cx} {x : Str} {i : Nat}
theorem glB_ok (h : XOk L k c X) (g : glB c x = true) : Gl X x ∧ (x == ("__debug__" : Str)) = false := by
  unfold glB at g
  split at g
  · rename_i e
    simp only [nameOk, Bool.and_eq_true, Bool.not_eq_true'] at g
    exact ⟨by unfold Gl Env.kindOf; rw [h.sc]; exact e, g.1⟩
  · cases g
theorem visB_ok (h : XOk L k c X) (g : visB c x = true) : Vis X.env.scope x ∧ (x == ("__debug__" : Str)) = false ∧ (x == ("__classdict__" : Str)) = false := by
  unfold visB at g
  unfold Vis
  rw [h.sc]
  split at g
  · rename_i e
    simp only [nameOk, Bool.and_eq_true, Bool.not_eq_true'] at g
    exact ⟨.inl e, g⟩
  · rename_i e
    simp only [nameOk, Bool.and_eq_true, Bool.not_eq_true'] at g
    exact ⟨.inr (.inl e), g⟩
  · rename_i e
    simp only [nameOk, Bool.and_eq_true, Bool.not_eq_true'] at g
    exact ⟨.inr (.inr e), g⟩
  · cases g
theorem locB_ok (h : XOk L k c X) (g : locB c x = true) : L2.Loc X.env.scope x ∧ (X.fn x = true ∨ X.env.scope.names.lookup x = some .local) := by
  unfold locB at g
  unfold L2.Loc
  rw [h.sc]
  split at g
  · rename_i e
    exact ⟨.inl e, .inr e⟩
  · rename_i e
    exact ⟨.inr e, .inl (h.fn x g)⟩
  · cases g
theorem atB_ok (h : XOk L k c X) (g : atB c i x = true) : X.N[i]? = some x := by
  unfold atB at g
  rw [h.N]
  split at g
  · rename_i y e
    rw [e, beq_iff_eq.mp g]
  · cases g
theorem blk_ok {s : Shared} {H : Hp} {C : Addr} {cl : List (Str × Addr)} {fp : List Addr} {sc : Scope} (h : XOk L k c X) : XOk L k (c.blk sc) (X.blk s H sc (compEnvC sc cl C X.env) fp) where
  sc := by
    show relS sc X.env.scope = relS sc c.sc
    rw [h.sc]
  N := h.N
  nd := h.nd
  fn := fun x g => g
  calm := h.calm
  un := h.un
  cls := h.cls
  noat := h.noat
  blt := h.blt
  fns := h.fns
  cns := h.cns
  exm := h.exm
  pex := h.pex
  con := h.con
  mts := h.mts
  ini := h.ini
theorem blkB_ok {sc : Scope} {own : List Nat} (h : XOk L k c X) (g : blkB c sc own = true) : BlkOk X.N X.env.scope sc (ownL c own) := by
  unfold blkB at g
  simp only [Bool.and_eq_true, decide_eq_true_eq, List.all_eq_true] at g
  obtain ⟨g1, g2, g3, g4⟩ := g
  rw [h.N, h.sc]
  refine ⟨g1, fun y hy => by simpa using g2 y hy, fun p hp => ?_, fun y hy e => ?_, fun y hy e => ?_⟩
  · unfold ownL at hp
    obtain ⟨i, hi, rfl⟩ := List.mem_map.mp hp
    have := g3 i hi
    simp only
    rw [List.getElem?_eq_getElem this]
    rfl
  · have g5 := g4 y hy
    rw [if_pos e] at g5
    split at g5
    · rename_i z; exact .inl z
    · rename_i z; exact .inr z
    · cases g5
  · have g5 := g4 y hy
    rw [if_neg (by rcases e with e | e <;> rw [e] <;> decide), if_pos e] at g5
    rw [Bool.or_eq_true] at g5
    rcases g5 with g5 | g5
    · exact .inl (List.contains_iff_mem.mp g5)
    · exact .inr (by simpa using g5)
end
end Q

/-! expressions: what mine computes is what the given text computes -/
namespace Q
open PySem PySem.Spec PyProof.Rows L2

section
variable {X : Cx} {W : Wd} {Y : WX} {σ : L2.St} {r r' : List Addr} {H H' : Hp} {hs : Hs} {s : Ev}

/-! ### a list that is known but has no place yet -/
structure ExtK (r : List Addr) (H : Hp) (r' : List Addr) (H' : Hp) : Prop where
  pre : ∃ e, r' = r ++ e
  keep : ∀ a o, H a = some o → a ∉ r → (∀ xs, o ≠ .lst xs) → H' a = some o ∧ a ∉ r'
theorem Ext.k (x : Ext r H r' H') : ExtK r H r' H' := ⟨x.pre, fun a o h n _ => x.keep a o h n⟩
mutual
theorem Rv.monoK {d : D} {v : V} (h : Rv W r H d v) (x : ExtK r H r' H') : Rv W r' H' d v := by
  cases h with
  | non => exact .non
  | bl b => exact .bl b
  | int i => exact .int i
  | str y k => exact .str y k
  | tup h e =>
    refine .tup ?_ (Rvs.monoK e x)
    rcases h with ⟨h, n⟩ | h
    · exact .inl (x.keep _ _ h n (fun _ z => nomatch z))
    · exact .inr h
  | obj pr xx h n l e => exact .obj pr xx (x.keep _ _ h n (fun _ z => nomatch z)).1 (x.keep _ _ h n (fun _ z => nomatch z)).2 l (Rvs.monoK e x)
  | exc0 pr xx f h n => exact .exc0 pr xx f (x.keep _ _ h n (fun _ z => nomatch z)).1 (x.keep _ _ h n (fun _ z => nomatch z)).2
  | exc1 pr xx h n hd nd e k ll => exact .exc1 pr xx (x.keep _ _ h n (fun _ z => nomatch z)).1 (x.keep _ _ h n (fun _ z => nomatch z)).2 (x.keep _ _ hd nd (fun _ z => nomatch z)).1 (x.keep _ _ hd nd (fun _ z => nomatch z)).2 (Rvs.monoK e x) k ll
  | ref h =>
    obtain ⟨⟨e, rfl⟩, _⟩ := x
    exact .ref (by rw [List.getElem?_append_left (by have := List.getElem?_eq_some_iff.mp h; exact this.1)]; exact h)
theorem Rvs.monoK {d : List D} {v : List V} (h : Rvs W r H d v) (x : ExtK r H r' H') : Rvs W r' H' d v := by
  cases h with
  | nil => exact .nil
  | cons h t => exact .cons (Rv.monoK h x) (Rvs.monoK t x)
end
theorem adopt_ext {a : Addr} {vs : List V} (h : H a = some (.lst vs)) : ExtK r H (r ++ [a]) H := ⟨⟨[a], rfl⟩, fun b o e n k => ⟨e, fun z => by
  rcases List.mem_append.mp z with z | z
  · exact n z
  · rw [List.mem_singleton.mp z, h] at e
    cases e
    exact k _ rfl⟩⟩
theorem OAt.monoK {a : Addr} {o : O} (h : OAt W r H a o) (x : ExtK r H r' H') (e : H' a = H a) : OAt W r' H' a o := by
  cases o with
  | lst ds => obtain ⟨vs, q, k⟩ := h; exact ⟨vs, e.trans q, k.monoK x⟩
  | frz ds => obtain ⟨ob, vs, q, k⟩ := h; exact ⟨ob, vs, e.trans q, k.monoK x⟩
  | dic t kvs =>
    cases t with
    | false => obtain ⟨ks, ds, vs, q, k1, k2, k4, k3⟩ := h; exact ⟨ks, ds, vs, e.trans q, k1, k2, k4, k3.monoK x⟩
    | true => obtain ⟨ks, ds, vs, q, k1, k2, k4, k3⟩ := h; exact ⟨ks, ds, vs, e.trans q, k1, k2, k4, k3.monoK x⟩
theorem Mt.adopt (m : Mt W r H hs) {a : Addr} {ds : List D} {vs : List V} (h : H a = some (.lst vs)) (n : a ∉ r) (e : Rvs W r H ds vs) : Mt W (r ++ [a]) H (hs ++ [.lst ds]) := by
  have x := adopt_ext (r := r) h
  refine ⟨by simp [m.len], ?_, fun i b o h1 h2 => ?_⟩
  · rw [List.nodup_append]
    refine ⟨m.nd, by simp, fun b hb c hc e => ?_⟩
    rw [List.mem_singleton] at hc
    rw [e, hc] at hb
    exact n hb
  · by_cases hi : i < r.length
    · rw [List.getElem?_append_left hi] at h1
      rw [List.getElem?_append_left (by rw [← m.len]; exact hi)] at h2
      exact (m.at_ i b o h1 h2).monoK x rfl
    · rw [List.getElem?_append_right (by omega)] at h1
      rw [List.getElem?_append_right (by rw [← m.len]; omega)] at h2
      rw [m.len] at h1
      cases q : i - hs.length with
      | zero =>
        rw [q] at h1 h2
        simp at h1 h2
        subst h1 h2
        exact ⟨vs, h, e.monoK x⟩
      | succ j =>
        rw [q] at h1
        simp at h1

/-! ### slots forgotten -/
theorem wipe_set_in {i : Nat} {v : Option V} : ∀ {own : List Nat} {σ : L2.St}, i ∈ own → L2.wipe (σ.set i v) own = L2.wipe σ own
  | [], _, h => nomatch h
  | j :: own, σ, h => by
    unfold L2.wipe
    by_cases e : i ∈ own
    · rw [wipe_set_in e]
    · have e2 : i = j := by
        rcases List.mem_cons.mp h with z | z
        · exact z
        · exact absurd z e
      subst e2
      rw [wipe_set_out e, List.set_set]
where
  wipe_set_out : ∀ {own : List Nat} {σ : L2.St}, i ∉ own → L2.wipe (σ.set i v) own = (L2.wipe σ own).set i v
    | [], _, _ => rfl
    | j :: own, σ, h => by
      unfold L2.wipe
      rw [wipe_set_out (fun z => h (List.mem_cons_of_mem _ z))]
      exact (List.set_comm _ _ (fun z => h (z ▸ List.mem_cons_self)))
theorem wipe_none {i : Nat} : ∀ {own : List Nat} {σ : L2.St}, i ∈ own → (L2.wipe σ own).set i none = L2.wipe σ own
  | [], _, h => nomatch h
  | j :: own, σ, h => by
    unfold L2.wipe
    by_cases e : i = j
    · subst e; rw [List.set_set]
    · rw [List.set_comm _ _ (Ne.symm e), wipe_none (by
        rcases List.mem_cons.mp h with z | z
        · exact absurd z e
        · exact z)]
theorem wipe_twice : ∀ (own xs : List Nat) (σ : L2.St), (∀ i ∈ xs, i ∈ own) → L2.wipe (L2.wipe σ own) xs = L2.wipe σ own
  | own, [], _, _ => rfl
  | own, x :: xs, σ, h => by
    show (L2.wipe (L2.wipe σ own) xs).set x none = _
    rw [wipe_twice own xs σ (fun i hi => h i (List.mem_cons_of_mem _ hi)), wipe_none (h x List.mem_cons_self)]
theorem EnvR.wipe (e : EnvR W r H s σ) : ∀ own : List Nat, EnvR W r H (Q.wipe s own) (L2.wipe σ own)
  | [] => e
  | i :: own => (EnvR.wipe e own).gone i

/-! ### targets -/
def tgHas (i : Nat) : Tg → Prop
  | .one j => i = j
  | .many is => i ∈ is
def tgG (K : PySem.W.Frag) : Tg → TG
  | .one i => gName i
  | .many is => gTup K is.length (gNames is)
where
  gNames : List Nat → TGs
    | [] => gNil
    | i :: is => gCons (gName i) (gNames is)
theorem namesB_ok {L : Wl} {k : Nat} {c : Ck} (h : XOk L k c X) : ∀ {is : List Nat} {es : List Expr}, namesB c is es = true →
    PGs X es (tgG.gNames is) ∧ (assignEach es X.env).length = is.length ∧ (assignEach es X.env).findIdx? (·.1) = none
  | [], [], _ => ⟨pgs_nil, rfl, rfl⟩
  | [], _ :: _, g => by cases g
  | _ :: _, [], g => by cases g
  | i :: is, e :: es, g => by
    simp only [namesB, Bool.and_eq_true] at g
    obtain ⟨g1, g2⟩ := g
    split at g1
    · rename_i x hx
      obtain ⟨p, rfl⟩ := asName_of hx
      rw [Bool.and_eq_true] at g1
      obtain ⟨l1, l2⟩ := locB_ok h g1.2
      obtain ⟨r1, r2, r3⟩ := namesB_ok h g2
      refine ⟨pgs_cons (pg_name h.nd (atB_ok h g1.1) l1 l2) r1, ?_, ?_⟩
      · show (assignEach es X.env).length + 1 = _
        rw [r2]; rfl
      · show List.findIdx? _ ((false, _) :: assignEach es X.env) = none
        rw [List.findIdx?_cons]
        simp [r3]
    · cases g1
theorem tgB_ok {L : Wl} {k : Nat} {c : Ck} {tg : Tg} {e : Expr} (h : XOk L k c X) (hc : X.calm = true) (g : tgB c tg e = true) : PG X e (tgG X.K tg) := by
  cases tg with
  | one i =>
    simp only [tgB] at g
    split at g
    · rename_i x hx
      obtain ⟨p, rfl⟩ := asName_of hx
      rw [Bool.and_eq_true] at g
      obtain ⟨l1, l2⟩ := locB_ok h g.2
      exact pg_name h.nd (atB_ok h g.1) l1 l2
    · cases g
  | many is =>
    simp only [tgB] at g
    split at g
    · rename_i l hl
      obtain ⟨j, p, rfl⟩ := asTup_of hl
      obtain ⟨r1, r2, r3⟩ := namesB_ok h g
      exact pg_tup hc r1 r2 r3
    · cases g
/-- the values put, my slots and the layer's; P: what stays of the slots -/
theorem gNames_ok {P : L2.St → Prop} : ∀ {is : List Nat} {ds : List D} {vs : List V} {s : Ev} {σ : L2.St} {Q : L2.St → Hp → Prop}, is.length = ds.length → Rvs W r H ds vs → EnvR W r H s σ → P σ → (∀ σ i v, i ∈ is → P σ → P (σ.set i v)) →
    (∀ σ', EnvR W r H ((is.zip ds).foldl (fun s p => s.set p.1 (some p.2)) s) σ' → P σ' → Q σ' H) → tgG.gNames is vs σ H Q
  | [], [], _, _, _, _, _, .nil, e, p, _, q => ⟨rfl, q _ e p⟩
  | [], _ :: _, _, _, _, _, h, _, _, _, _, _ => by simp at h
  | _ :: _, [], _, _, _, _, h, _, _, _, _, _ => by simp at h
  | i :: is, d :: ds, _, s, σ, Q, h, .cons (v := v) (vs := vs) x t, e, p, pk, q =>
    ⟨v, vs, rfl, gNames_ok (by simpa using h) t (e.set x i) (pk _ _ _ List.mem_cons_self p) (fun σ j w hj => pk σ j w (List.mem_cons_of_mem _ hj)) q⟩
theorem asg_ok {P : L2.St → Prop} {tg : Tg} {d : D} {v : V} {s2 : Ev} {Q : L2.St → Hp → Prop} (h : asg tg d s = some s2) (x : Rv W r H d v) (e : EnvR W r H s σ) (p : P σ) (pk : ∀ σ i v, tgHas i tg → P σ → P (σ.set i v)) (q : ∀ σ', EnvR W r H s2 σ' → P σ' → Q σ' H) : tgG W.K tg v σ H Q := by
  cases tg with
  | one i =>
    cases h
    exact q _ (e.set x i) (pk _ _ _ rfl p)
  | many is =>
    cases d <;> first | (cases h; done) | skip
    rename_i ds
    simp only [asg] at h
    split at h
    · rename_i hl
      cases h
      cases x with | tup t es =>
      exact ⟨_, _, rfl, t.sq, by rw [es.length, hl], gNames_ok hl es e p (fun σ i v hi => pk σ i v hi) q⟩
    · cases h
end
end Q

/-! what a for walks -/
namespace Q
open PySem PySem.Spec PyProof.Rows L2

def WkR (W : Wd) (r0 : List Addr) (H0 : Hp) (w : Walk) (J : L2.It) : Prop := ∀ r H hs, Ext r0 H0 r H → Mt W r H hs → w.ok hs →
  (∀ i, i < w.items.length → J.go i H) ∧ (∀ i, w.items.length ≤ i → J.stop i H) ∧
  ∀ i x H', J.yld i H x H' → ∀ d, w.items[i]? = some d → ∃ r', Ext r H r' H' ∧ Mt W r' H' hs ∧ Rv W r' H' d x
section
variable {X : Cx} {W : Wd} {Y : WX} {σ : L2.St} {r r' : List Addr} {H H' : Hp} {hs : Hs} {s : Ev} {n : Nat} {a : Addr}
theorem wk_seq {xs : List D} {vs : List V} {K : PySem.W.Frag} (hk : K = W.K) (h : ∀ r1 H1 hs1, Ext r H r1 H1 → Mt W r1 H1 hs1 → ∀ ok : (hs1[n]? = some (.lst xs) ∨ hs1[n]? = some (.frz xs)), ∃ us, SqL K H1 a us ∧ Rvs W r1 H1 xs us) {ok : Hs → Prop} (hok : ∀ h, ok h → h[n]? = some (.lst xs) ∨ h[n]? = some (.frz xs)) : WkR W r H ⟨xs, ok⟩ (Itl K a) := by
  intro r1 H1 hs1 x m k
  obtain ⟨us, g1, g2⟩ := h r1 H1 hs1 x m (hok _ k)
  refine ⟨fun i hi => ?_, fun i hi => ⟨us, g1, by rw [g2.length]; exact hi⟩, fun i y H2 q d hd => ?_⟩
  · obtain ⟨v, hv, _⟩ := g2.get (List.getElem?_eq_getElem hi)
    exact ⟨us, v, g1, hv⟩
  · obtain ⟨rfl, q2⟩ := q
    obtain ⟨v, hv, rv⟩ := g2.get hd
    have e := q2 us g1
    rw [hv] at e
    cases e
    exact ⟨r1, Ext.refl _ _, m, rv⟩
theorem list_now (m : Mt W r H hs) {xs : List D} (ha : r[n]? = some a) (h : hs[n]? = some (.lst xs) ∨ hs[n]? = some (.frz xs)) : ∃ us, SqL W.K H a us ∧ Rvs W r H xs us := by
  rcases h with h | h
  · obtain ⟨us, g1, g2⟩ := m.lst ha h
    exact ⟨us, SqL.of g1, g2⟩
  · obtain ⟨ob, us, g1, g2⟩ := m.frz ha h
    exact ⟨us, .inl (.inr ⟨ob, g1⟩), g2⟩
/-- a list's place, walked -/
theorem walk_ref {w : Walk} (h : walkSq hs (.ref n) = some w) : ∃ xs, w.items = xs ∧ (hs[n]? = some (.lst xs) ∨ hs[n]? = some (.frz xs)) ∧ ∀ h, w.ok h → h[n]? = some (.lst xs) ∨ h[n]? = some (.frz xs) := by
  simp only [walkSq] at h
  split at h
  · rename_i xs hx
    cases h
    exact ⟨xs, rfl, .inl hx, fun h k => .inl k⟩
  · rename_i xs hx
    cases h
    exact ⟨xs, rfl, .inr hx, fun h k => .inr k⟩
  · cases h
theorem wk_list {w : Walk} (ha : r[n]? = some a) (h : walkSq hs (.ref n) = some w) : WkR W r H w (Itl W.K a) := by
  obtain ⟨xs, e, _, k⟩ := walk_ref h
  obtain ⟨items, ok⟩ := w
  cases e
  exact wk_seq (vs := []) rfl (fun r1 H1 hs1 x m q => list_now m (x.at ha) q) k
theorem wk_tup {xs : List D} {vs : List V} (t : TupAt W r H a vs) (e : Rvs W r H xs vs) : WkR W r H ⟨xs, fun _ => True⟩ (Itt W.K a) := by
  intro r1 H1 hs1 x m _
  have t1 := t.mono x
  have e1 := e.mono x
  refine ⟨fun i hi => ?_, fun i hi => ⟨vs, t1.sq, by rw [e1.length]; exact hi⟩, fun i y H2 q d hd => ?_⟩
  · obtain ⟨v, hv, _⟩ := e1.get (List.getElem?_eq_getElem hi)
    exact ⟨vs, v, t1.sq, hv⟩
  · obtain ⟨rfl, q2⟩ := q
    obtain ⟨v, hv, rv⟩ := e1.get hd
    have e := q2 vs t1.sq
    rw [hv] at e
    cases e
    exact ⟨r1, Ext.refl _ _, m, rv⟩
theorem rangeL_len : ∀ (lo : Int) (n : Nat), (rangeL lo n).length = n
  | _, 0 => rfl
  | lo, n + 1 => by simp only [rangeL, List.length_cons, rangeL_len (lo + 1) n]
theorem rangeL_at : ∀ (lo : Int) (n i : Nat), i < n → (rangeL lo n)[i]? = some (.int (lo + i))
  | _, 0, _, h => by omega
  | lo, n + 1, 0, _ => by simp [rangeL]
  | lo, n + 1, i + 1, h => by
    simp only [rangeL, List.getElem?_cons_succ]
    rw [rangeL_at (lo + 1) n i (by omega)]
    congr 2
    omega
theorem rangeC_len : ∀ (lo c : Int) (n : Nat), (rangeC lo c n).length = n
  | _, _, 0 => rfl
  | lo, c, n + 1 => by simp only [rangeC, List.length_cons, rangeC_len (lo + c) c n]
theorem rangeC_at : ∀ (lo c : Int) (n i : Nat), i < n → (rangeC lo c n)[i]? = some (.int (lo + (i : Nat) * c))
  | _, _, 0, _, h => by omega
  | lo, c, n + 1, 0, _ => by simp [rangeC]
  | lo, c, n + 1, i + 1, h => by
    simp only [rangeC, List.getElem?_cons_succ]
    rw [rangeC_at (lo + c) c n i (by omega)]
    congr 2
    have : ((i + 1 : Nat) : Int) * c = (i : Nat) * c + c := by
      rw [show ((i + 1 : Nat) : Int) = (i : Int) + 1 by omega, Int.add_mul, Int.one_mul]
    rw [this]
    omega
theorem wk_rng (lo : Int) (n : Nat) : WkR W r H ⟨rangeL lo n, fun _ => True⟩ (Itr lo n) := by
  intro r1 H1 hs1 x m _
  simp only [rangeL_len]
  refine ⟨fun i hi => hi, fun i hi => hi, fun i y H2 q d hd => ?_⟩
  obtain ⟨rfl, rfl⟩ := q
  by_cases hi : i < n
  · rw [rangeL_at _ _ _ hi] at hd
    cases hd
    exact ⟨r1, Ext.refl _ _, m, .int _⟩
  · rw [List.getElem?_eq_none (by rw [rangeL_len]; omega)] at hd
    cases hd
theorem wk_rngC (lo c : Int) (n : Nat) : WkR W r H ⟨rangeC lo c n, fun _ => True⟩ (Itc lo c n) := by
  intro r1 H1 hs1 x m _
  simp only [rangeC_len]
  refine ⟨fun i hi => hi, fun i hi => hi, fun i y H2 q d hd => ?_⟩
  obtain ⟨rfl, rfl⟩ := q
  by_cases hi : i < n
  · rw [rangeC_at _ _ _ _ hi] at hd
    cases hd
    exact ⟨r1, Ext.refl _ _, m, .int _⟩
  · rw [List.getElem?_eq_none (by rw [rangeC_len]; omega)] at hd
    cases hd
theorem enumL_len : ∀ (n : Nat) (xs : List D), (enumL n xs).length = xs.length
  | _, [] => rfl
  | n, x :: xs => by simp only [enumL, List.length_cons, enumL_len (n + 1) xs]
theorem enumL_at : ∀ (n : Nat) (xs : List D) (i : Nat) (d : D), (enumL n xs)[i]? = some d → ∃ e, xs[i]? = some e ∧ d = .tup [.int ((n + i : Nat) : Int), e]
  | _, [], i, d, h => by simp [enumL] at h
  | n, x :: xs, 0, d, h => by
    simp only [enumL, List.getElem?_cons_zero, Option.some.injEq] at h
    exact ⟨x, rfl, by rw [← h]; simp⟩
  | n, x :: xs, i + 1, d, h => by
    simp only [enumL, List.getElem?_cons_succ] at h
    obtain ⟨e, h1, h2⟩ := enumL_at (n + 1) xs i d h
    exact ⟨e, by simpa using h1, by rw [h2]; congr 3; omega⟩
theorem zipL_len : ∀ (xs ys : List D), (zipL xs ys).length = min xs.length ys.length
  | [], _ => by simp [zipL]
  | _ :: _, [] => by simp [zipL]
  | x :: xs, y :: ys => by simp only [zipL, List.length_cons, zipL_len xs ys]; omega
theorem zipL_at : ∀ (xs ys : List D) (i : Nat) (d : D), (zipL xs ys)[i]? = some d → ∃ x y, xs[i]? = some x ∧ ys[i]? = some y ∧ d = .tup [x, y]
  | [], _, i, d, h => by simp [zipL] at h
  | _ :: _, [], i, d, h => by simp [zipL] at h
  | x :: xs, y :: ys, 0, d, h => by
    simp only [zipL, List.getElem?_cons_zero, Option.some.injEq] at h
    exact ⟨x, y, rfl, rfl, h.symm⟩
  | x :: xs, y :: ys, i + 1, d, h => by
    simp only [zipL, List.getElem?_cons_succ] at h
    obtain ⟨e, f, h1, h2, h3⟩ := zipL_at xs ys i d h
    exact ⟨e, f, by simpa using h1, by simpa using h2, h3⟩
/-- a pair just made -/
theorem pair_new (m : Mt W r H hs) {T : Addr} (hT : H T = none) {d e : D} {v u : V} (x : Rv W r H d v) (y : Rv W r H e u) : ∃ r', Ext r H r' (upd H T (.tup [v, u])) ∧ Mt W r' (upd H T (.tup [v, u])) hs ∧ Rv W r' (upd H T (.tup [v, u])) (.tup [d, e]) (.ref T) :=
  ⟨r, ext_new hT _, m.new hT _, .tup (.inl ⟨upd_same, m.notNew hT⟩) (.cons (x.mono (ext_new hT _)) (.cons (y.mono (ext_new hT _)) .nil))⟩
theorem wk_enum {w : Walk} (ha : r[n]? = some a) (h : walkSq hs (.ref n) = some w) : WkR W r H ⟨enumL 0 w.items, w.ok⟩ (Ite W.K a) := by
  obtain ⟨xs, e, _, k⟩ := walk_ref h
  obtain ⟨items, ok⟩ := w
  cases e
  intro r1 H1 hs1 x m q
  obtain ⟨us, g1, g2⟩ := list_now m (x.at ha) (k _ q)
  simp only [enumL_len]
  refine ⟨fun i hi => ?_, fun i hi => ⟨us, g1, by rw [g2.length]; exact hi⟩, fun i y H2 q d hd => ?_⟩
  · obtain ⟨v, hv, _⟩ := g2.get (List.getElem?_eq_getElem hi)
    exact ⟨us, v, g1, hv⟩
  · obtain ⟨T, z, rfl, hT, rfl, q2⟩ := q
    obtain ⟨e, h1, rfl⟩ := enumL_at _ _ _ _ hd
    obtain ⟨v, hv, rv⟩ := g2.get h1
    have e2 := q2 us g1
    rw [hv] at e2
    cases e2
    rw [Nat.zero_add]
    exact pair_new m hT (.int _) rv
theorem wk_zip {w u : Walk} {n2 : Nat} {a2 : Addr} (ha : r[n]? = some a) (h : walkSq hs (.ref n) = some w) (ha2 : r[n2]? = some a2) (h2 : walkSq hs (.ref n2) = some u) : WkR W r H ⟨zipL w.items u.items, fun h => w.ok h ∧ u.ok h⟩ (Itz W.K a a2) := by
  obtain ⟨xs, e, _, k⟩ := walk_ref h
  obtain ⟨ys, e2, _, k2⟩ := walk_ref h2
  obtain ⟨items, ok⟩ := w
  obtain ⟨items2, ok2⟩ := u
  cases e
  cases e2
  intro r1 H1 hs1 x m q
  obtain ⟨us, g1, g2⟩ := list_now m (x.at ha) (k _ q.1)
  obtain ⟨us2, f1, f2⟩ := list_now m (x.at ha2) (k2 _ q.2)
  simp only [zipL_len]
  refine ⟨fun i hi => ?_, fun i (hi : min items.length items2.length ≤ i) => ⟨us, us2, g1, f1, by
    have e1 : us.length = items.length := g2.length
    have e2 : us2.length = items2.length := f2.length
    omega⟩, fun i y H2 q d hd => ?_⟩
  · have hi : i < min items.length items2.length := hi
    obtain ⟨v, hv, _⟩ := g2.get (List.getElem?_eq_getElem (show i < items.length by omega))
    obtain ⟨v2, hv2, _⟩ := f2.get (List.getElem?_eq_getElem (show i < items2.length by omega))
    exact ⟨us, us2, v, v2, g1, f1, hv, hv2⟩
  · obtain ⟨T, z, z2, rfl, hT, rfl, q2, q3⟩ := q
    obtain ⟨e, e', h1, h1', rfl⟩ := zipL_at _ _ _ _ hd
    obtain ⟨v, hv, rv⟩ := g2.get h1
    obtain ⟨v2, hv2, rv2⟩ := f2.get h1'
    have e2 := q2 us g1
    rw [hv] at e2
    cases e2
    have e3 := q3 us2 f1
    rw [hv2] at e3
    cases e3
    exact pair_new m hT rv rv2
theorem wk_zipT {xs ys : List D} {vs us : List V} {a2 : Addr} (t : TupAt W r H a vs) (e : Rvs W r H xs vs) (t2 : TupAt W r H a2 us) (e2 : Rvs W r H ys us) : WkR W r H ⟨zipL xs ys, fun _ => True⟩ (RZ.ItzT W.K a a2) := by
  intro r1 H1 hs1 x m _
  have t1 := t.mono x
  have e1 := e.mono x
  have t3 := t2.mono x
  have e3 := e2.mono x
  simp only [zipL_len]
  refine ⟨fun i hi => ?_, fun i hi => ⟨vs, us, t1.sq, t3.sq, by rw [e1.length, e3.length]; omega⟩, fun i y H2 q d hd => ?_⟩
  · obtain ⟨v, hv, _⟩ := e1.get (List.getElem?_eq_getElem (show i < xs.length by omega))
    obtain ⟨v2, hv2, _⟩ := e3.get (List.getElem?_eq_getElem (show i < ys.length by omega))
    exact ⟨vs, us, v, v2, t1.sq, t3.sq, hv, hv2⟩
  · obtain ⟨T, z, z2, rfl, hT, rfl, q2, q3⟩ := q
    obtain ⟨e, e', h1, h1', rfl⟩ := zipL_at _ _ _ _ hd
    obtain ⟨v, hv, rv⟩ := e1.get h1
    obtain ⟨v2, hv2, rv2⟩ := e3.get h1'
    have z1 := q2 vs t1.sq
    rw [hv] at z1
    cases z1
    have z3 := q3 us t3.sq
    rw [hv2] at z3
    cases z3
    exact pair_new m hT rv rv2
end
end Q

/-! enumerate over a tuple -/
namespace Q
open PySem PySem.Spec PyProof.Rows L2
open Sem (wp)
open AutoSeq1 (wpAny_loadPart')

theorem meets_enum_tup (l : Addr) (items : Array Value) (n : Nat) (dct : Option Addr) (sl : Array (Option Value)) :
    Meets (Builtin.«enumerate.__new__» ⟨[.type "enumerate", .ref l], []⟩) (fun _ R s => s.heap.get? l = some { cls := .type "tuple", dict := dct, data := .seq items n, slots := sl } ∧
      R (.ok (.ret (.ref (s.heap.push { cls := .type "tuple_iterator", data := .fields #[.ref l, .int 0 0] }).objs.size)))
        { s with heap := (s.heap.push { cls := .type "tuple_iterator", data := .fields #[.ref l, .int 0 0] }).push { cls := .type "enumerate", data := .fields #[.none, .bool false, .ref s.heap.objs.size, rawInt 0, .none, .none] } }) :=
  .of_wp fun prog w A R s h => by
    obtain ⟨hp, g, d, tk, os⟩ := s; obtain ⟨hl, h⟩ := h
    have hsub := sub_enumerate
    have hL : Heap.IsTuple (Shared.heap ⟨hp, g, d, tk, os⟩) l items := ⟨_, hl, rfl, n, rfl⟩
    wp_walk using wpAny_loadPart' hl
    refine wpAny_stack_any fun st => wpAny_pure ?_
    split
    · rename_i c _ _ _ _ _
      cases (c == Value.type "enumerate")
      · wp_walk using wpAny_loadPart' hl, wpAny_pyIter_tuple hL
        exact ⟨_, rfl, h⟩
      · wp_walk using wpAny_loadPart' hl, wpAny_pyIter_tuple hL
        exact ⟨_, rfl, h⟩
    · wp_walk using wpAny_loadPart' hl, wpAny_pyIter_tuple hL
      exact ⟨_, rfl, h⟩

theorem call_enum_tup {prog : Program} {w : World} {A : Around} {E : Value → Shared → Prop} {s : Shared} {l : Addr} {items : Array Value} {Q : Value → Shared → Prop} (hL : s.heap.IsTuple l items)
    (h : ∀ h', IsEnum h' (s.heap.objs.size + 1) s.heap.objs.size 0 .none → h'.IsTupleIter s.heap.objs.size l 0 → h'.objs.size = s.heap.objs.size + 2 →
      (∀ b o, s.heap.get? b = some o → h'.get? b = some o) → Q (.ref (s.heap.objs.size + 1)) { s with heap := h' }) :
    wpAny (model prog w) A (PySem.call (.type "enumerate") [.ref l]) Q E s := by
  obtain ⟨⟨c, dct, dt, sl⟩, hl, hc, n, hd⟩ := hL
  replace hc : c = .type "tuple" := hc
  replace hd : dt = .seq items n := hd
  subst hc hd
  refine callType_new F.called_enumerate (by decide) (F.typeCall_enumerate_1 _) (F.newCall_enumerate_1 _) (fun obj => F.args_object_init_2 obj _) F.entry_enumerate_new
    (meets_enum_tup l items n dct sl) ⟨hl, ?_⟩
  have hz : (s.heap.push { cls := .type "tuple_iterator", data := .fields #[.ref l, .int 0 0] }).objs.size = s.heap.objs.size + 1 := Heap.size_push ..
  show _ ∧ _
  rw [hz]
  have he : IsEnum ((s.heap.push { cls := .type "tuple_iterator", data := .fields #[.ref l, .int 0 0] }).push
      { cls := .type "enumerate", data := .fields #[.none, .bool false, .ref s.heap.objs.size, rawInt 0, .none, .none] }) (s.heap.objs.size + 1) s.heap.objs.size 0 .none := by
    have := Heap.get?_push_size (s.heap.push { cls := .type "tuple_iterator", data := .fields #[.ref l, .int 0 0] })
      (o := { cls := .type "enumerate", data := .fields #[.none, .bool false, .ref s.heap.objs.size, rawInt 0, .none, .none] }) rfl
    rw [hz] at this; exact this
  refine ⟨⟨_, he, rfl⟩, h _ he ⟨_, Heap.get?_push_of_some _ (Heap.get?_push_size _ rfl), rfl, rfl⟩ (by rw [Heap.size_push, hz]) fun b o x => Heap.get?_push_of_some _ (Heap.get?_push_of_some _ x)⟩

theorem enum_end_tup {prog : Program} {w : World} {A : Around} {E : Value → Shared → Prop} {s : Shared} {e it l : Addr} {i : Nat} {items : Array Value} {old : Value} {Q : Option Value → Shared → Prop} (hh : A.handled = none)
    (he : IsEnum s.heap e it i old) (hit : s.heap.IsTupleIter it l i) (hl : s.heap.IsTuple l items) (hx : items[i]? = none)
    (hQ : ∀ h', Heap.ExtBut it s.heap h' → Q none { s with heap := h' }) : wpAny (model prog w) A (pyNext (.ref e)) Q E s := by
  have hT : s.TypeIs (.ref e) "enumerate" := ⟨_, he, rfl⟩
  unfold pyNext
  refine wpAny_bind (wpAny_attempt (wpAny_callSpecial?_slot (name := Str.ofString "__next__") hT F.slot_enumerate_next
    (wpAny_call_entry F.slot_enumerate_next hT F.entry_enumerate_next ?_ (F.args_enumerate_next_1 _))))
  show wpAny _ _ (field (.ref e) 2 >>= _) _ _ _
  refine wpAny_bind (wpAny_field he rfl (x := .ref it) rfl ?_)
  refine wpAny_bind (wpAny_nextOf_tuple_end hh hit hl hx fun h' x he' hx' => ?_)
  obtain ⟨o, ho, hc⟩ := hx'
  refine wpAny_bind (wpAny_isInstance (T := "StopIteration") (b := true) ⟨o, ho, hc⟩ isSubtype_stop ?_)
  exact wpAny_pure (hQ _ he')

/-- the tuple at a, each item in a new pair -/
def IteT (K : PySem.W.Frag) (a : Addr) : L2.It :=
  ⟨fun i H => ∃ (xs : List V) (x : V), SqT K H a xs ∧ xs[i]? = some x, fun i H v H' => ∃ T x, v = .ref T ∧ H T = none ∧ H' = upd H T (.tup [.int (i : Nat), x]) ∧ ∀ xs, SqT K H a xs → xs[i]? = some x, fun i H => ∃ xs : List V, SqT K H a xs ∧ xs.length ≤ i⟩
theorem turn_enumT {P : Program} {w : World} {K : PySem.W.Frag} {elts : List Expr} {kk : Nat} {tpos : Pos} (a e it : Addr) :
    Turn P w K (.Tuple elts kk tpos) (IteT K a) [e, it] e (fun i h => (∃ old, IsEnum h e it ((i : Nat) : Int) old) ∧ h.IsTupleIter it a i ∧ e ≠ it ∧ a ≠ it ∧ e ≠ a) where
  mem := by simp
  obj := fun i h st b hb => by
    obtain ⟨⟨old, he⟩, ⟨o, ho, hc, hd⟩, _⟩ := st
    have e' : b = e ∨ b = it := by simpa using hb
    rcases e' with z | z
    · rw [z]; exact ⟨_, he, fun v q => nomatch q⟩
    · rw [z]; exact ⟨o, ho, fun v q => by rw [hd] at q; cases q⟩
  keep := fun i h h' st k => let ⟨⟨old, he⟩, hi, hne⟩ := st; ⟨⟨old, k e (by simp) _ he⟩, hi.at fun o q => k it (by simp) o q, hne⟩
  item := by
    intro X hP hw hK hc i pins s σ H E I hf st hg
    subst hP hw hK
    obtain ⟨⟨old, he⟩, hit, hne, hai, hea⟩ := st
    obtain ⟨xs, x, hq, hx⟩ := hg
    obtain ⟨its, rv, p, hz⟩ := I.tuple hq
    obtain ⟨u, hu, ru⟩ := rv.get hx
    have hel : e < s.heap.objs.size := Heap.lt_size he
    have hil : it < s.heap.objs.size := by obtain ⟨_, q, _⟩ := hit; exact Heap.lt_size q
    have hsz0 : i < its.toArray.size := by
      have : i < its.length := by
        rcases Nat.lt_or_ge i its.length with h | h
        · exact h
        · rw [List.getElem?_eq_none h] at hu; cases hu
      simpa using this
    refine wpAny_pyNext_enum_itemD (D := Draws.tuple (A := X.A.in1) (show X.A.in1.handled = none from I.ok.hd hc) it a hai its.toArray) he ⟨hit, show s.heap.IsTuple a its.toArray from p⟩ hsz0 hne (by simp [hne, hea]) fun x' h' tk hx' ho hst' hT hsz hk => ?_
    have hxu : x' = u := by
      have h1 : its[i]? = some x' := by simpa using hx'
      rw [hu] at h1; cases h1; rfl
    subst hxu
    refine ⟨_, rfl, wpAny_letOwnedTupleGo_enum (s := { s with heap := h', toks := tk + 1 }) ho fun h'' he' sb => ?_⟩
    have hT2 : h''.get? s.heap.objs.size = some { cls := .type "tuple", data := .seq #[.int i tk, x'] } := (sb.2 _ (Nat.ne_of_gt hel)).trans hT
    have new : ObjOk X.prog X.w (upd H s.heap.objs.size (.tup [.int (i : Nat), x])) h'' s.heap.objs.size (.tup [.int (i : Nat), x]) :=
      ⟨by show 2 ≤ sizeLine; decide, [.int i tk, x'], .cons ⟨_, rfl⟩ (.cons ru .nil), ⟨_, hT2, rfl, _, rfl⟩⟩
    have I1 : Inv X pins σ (upd H s.heap.objs.size (.tup [.int (i : Nat), x])) { s with heap := h'', toks := tk + 1 } :=
      I.turnedNew (ch := [e, it]) (fun b ob hb q => (sb.2 b (fun z => hb (by simp [z]))).trans (hk b ob (fun z => hb (by simp [z])) (fun z => hb (by simp [z])) q)) hf (Nat.le_refl _) new
    refine ⟨.ref s.heap.objs.size, _, I1, rfl, ⟨_, x, rfl, I.hok.fresh (Nat.le_refl _), rfl, fun ys hy => by rw [I.tuple_inj hy hq]; exact hx⟩, ⟨⟨x', ?_⟩, hst'.1.at fun o q => (sb.2 it (Ne.symm hne)).trans q, hne, hai, hea⟩, fun b hb => ?_⟩
    · have e1 : ((i + 1 : Nat) : Int) = (i : Int) + 1 := by omega
      rw [e1]; exact he'
    · have hb' : b < s.heap.objs.size := by
        have e' : b = e ∨ b = it := by simpa using hb
        rcases e' with z | z
        · rw [z]; exact hel
        · rw [z]; exact hil
      rw [upd_ne (Nat.ne_of_lt hb')]
      exact (hf b hb).1
  done := by
    intro X hP hw hK hc i pins s σ H E I hf st hg
    subst hP hw hK
    obtain ⟨⟨old, he⟩, hit, hne, hai, hea⟩ := st
    obtain ⟨xs, hq, hx⟩ := hg
    obtain ⟨its, rv, p, hz⟩ := I.tuple hq
    obtain ⟨f0, f1, f2, f3, f4, f5⟩ := hf it (by simp)
    have hl := rv.length
    have hle : its.length ≤ i := by omega
    have hit2 : s.heap.IsTupleIter it a i := hit
    exact enum_end_tup (I.ok.hd hc) he hit2 (show s.heap.IsTuple a its.toArray from p) (by simp; omega) fun h' eb => ⟨rfl, I.turned (t' := s.toks) (fun b o hb q => eb b o hb q) f0 f1 f3 f4 f5⟩
  self := fun A i s Q E st h => let ⟨⟨_, he⟩, _⟩ := st; wpAny_pyIter_enum he h
/-- enumerate over a list or a tuple -/
def iEnumU (K : PySem.W.Frag) (ta : TA) : TI := fun σ H R => ta σ H fun vs H1 => (∃ a xs, vs = [.ref a] ∧ SqL K H1 a xs ∧ R (Ite K a) H1) ∨ (∃ a xs, vs = [.ref a] ∧ SqT K H1 a xs ∧ R (IteT K a) H1)
theorem pi_enumU {X : Cx} {e : Expr} {ta : TA} {p pos tpos : Pos} {elts : List Expr} {kk : Nat} (hg : Gl X "enumerate") (hm : X.mg "enumerate" = none) (ha : PA X [e] ta) (hs : starEach [e] X.env = [(false, eval e X.env)] := by rfl) :
    PI X (.Tuple elts kk tpos) (.Call (.Name "enumerate" p) [e] [] pos) (iEnumU X.K ta) := by
  refine ⟨fun pins s σ H R I h => ?_⟩
  refine Call_ (ld_blt I hg hm boot_enumerate (PyProof.Rows.callWith_type1 (thn (ha.run pos pins s σ H _ I h) fun us s1 ⟨vs, H1, I1, r1, q1⟩ => ?_) hs rfl))
  have fp : ∀ {h' : Heap}, (∀ b o, s1.heap.get? b = some o → h'.get? b = some o) → ∀ (I2 : Inv X pins σ H1 { s1 with heap := h' }), ∀ b ∈ [s1.heap.objs.size + 1, s1.heap.objs.size], FpOk X pins H1 b := fun hk I2 b hb => by
    have e' : b = s1.heap.objs.size + 1 ∨ b = s1.heap.objs.size := by simpa using hb
    have hle : s1.heap.objs.size ≤ b := by
      rcases e' with z | z
      · rw [z]; exact Nat.le_add_right _ _
      · rw [z]; exact Nat.le_refl _
    exact I1.fpOk hle (I1.hok.fresh hle)
  rcases q1 with ⟨a, xs, ex, hq, q⟩ | ⟨a, xs, ex, hq, q⟩
  · subst ex
    cases r1 with
    | cons r rr =>
      cases rr
      cases r
      obtain ⟨its, rv, p', hz⟩ := I1.list hq
      refine call_enumerate_list p'.isList fun h' he hit hsz hk => wpAny_pyIter_enum he ?_
      have I2 : Inv X pins σ H1 { s1 with heap := h' } := I1.kept (t' := s1.toks) hk
      exact ⟨s1.heap.objs.size + 1, [s1.heap.objs.size + 1, s1.heap.objs.size], _, _, H1, rfl, I2, turn_enum a (s1.heap.objs.size + 1) s1.heap.objs.size, ⟨⟨.none, he⟩, hit, Nat.succ_ne_self _⟩, fp hk I2, q⟩
  · subst ex
    cases r1 with
    | cons r rr =>
      cases rr
      cases r
      obtain ⟨its, rv, p', hz⟩ := I1.tuple hq
      have hT : s1.heap.IsTuple a its.toArray := p'
      have hal : a < s1.heap.objs.size := by obtain ⟨_, y, _⟩ := hT; exact Heap.lt_size y
      refine call_enum_tup hT fun h' he hit hsz hk => wpAny_pyIter_enum he ?_
      have I2 : Inv X pins σ H1 { s1 with heap := h' } := I1.kept (t' := s1.toks) hk
      exact ⟨s1.heap.objs.size + 1, [s1.heap.objs.size + 1, s1.heap.objs.size], _, _, H1, rfl, I2, turn_enumT a (s1.heap.objs.size + 1) s1.heap.objs.size, ⟨⟨.none, he⟩, hit, Nat.succ_ne_self _, Nat.ne_of_lt hal, (Nat.ne_of_lt (Nat.lt_succ_of_lt hal)).symm⟩, fp hk I2, q⟩
theorem wk_enumT {W : Wd} {r : List Addr} {H : Hp} {a : Addr} {xs : List D} {vs : List V} (t : TupAt W r H a vs) (e : Rvs W r H xs vs) : WkR W r H ⟨enumL 0 xs, fun _ => True⟩ (IteT W.K a) := by
  intro r1 H1 hs1 x m _
  have t1 := t.mono x
  have e1 := e.mono x
  simp only [enumL_len]
  refine ⟨fun i hi => ?_, fun i hi => ⟨vs, t1.sq, by rw [e1.length]; exact hi⟩, fun i y H2 q d hd => ?_⟩
  · obtain ⟨v, hv, _⟩ := e1.get (List.getElem?_eq_getElem hi)
    exact ⟨vs, v, t1.sq, hv⟩
  · obtain ⟨T, z, rfl, hT, rfl, q2⟩ := q
    obtain ⟨e, h1, rfl⟩ := enumL_at _ _ _ _ hd
    obtain ⟨v, hv, rv⟩ := e1.get h1
    have e2 := q2 vs t1.sq
    rw [hv] at e2
    cases e2
    rw [Nat.zero_add]
    exact pair_new m hT (.int _) rv
end Q

/-! expressions: what mine computes is what the given text computes -/
namespace Q
open PySem PySem.Spec PyProof.Rows L2

abbrev wdo (X : Cx) (L : Wl) : Wd := ⟨X.K, L.C, L.has⟩
noncomputable abbrev clOf (L : Wl) (k : Nat) : Cl := ⟨L.T, Q.call L.T k⟩
def SE (L : Wl) (k : Nat) (e : Ex) : Prop := ∀ (c : Ck) (X : Cx) (Y : WX) (E : Expr), XOk L k c X → Takes X Y → chkE c e E = true →
  PE X E (rdE (wdo X L) Y (evE (clOf L k) e)) ∧ PT X E (rdT (wdo X L) Y (evT (clOf L k) e))
def SEs (L : Wl) (k : Nat) (es : Exs) : Prop := ∀ (c : Ck) (X : Cx) (Y : WX) (l : List Expr), XOk L k c X → Takes X Y → chkEs c es l = true →
  PA X l (rdA (wdo X L) Y (evs (clOf L k) es)) ∧ (l ≠ [] → ∀ pos : Pos,
    (PE X (.BoolOp .And l pos) (rdE (wdo X L) Y (evAnd (clOf L k) es)) ∧ PW X (.BoolOp .And l pos) (rdT (wdo X L) Y fun s h => (evAnd (clOf L k) es s h).bind truR)) ∧
    (PE X (.BoolOp .Or l pos) (rdE (wdo X L) Y (evOr (clOf L k) es)) ∧ PW X (.BoolOp .Or l pos) (rdT (wdo X L) Y fun s h => (evOr (clOf L k) es s h).bind truR)))
def SO (L : Wl) (k : Nat) (o : Eo) : Prop := ∀ (c : Ck) (X : Cx) (Y : WX) (E : Option Expr), XOk L k c X → Takes X Y → chkO c o E = true → PO X E (rd (fun _ _ (a b : Option Int) => a = b) (wdo X L) Y (evO (clOf L k) o))
def SC (L : Wl) (k : Nat) (o : Eo) : Prop := ∀ (c : Ck) (X : Cx) (Y : WX) (l : List Expr), XOk L k c X → Takes X Y → chkC c o l = true → PTs X l (rdT (wdo X L) Y (evC (clOf L k) o))
def SI (L : Wl) (k : Nat) (it : It) : Prop := ∀ (c : Ck) (X : Cx) (Y : WX) (T E : Expr), XOk L k c X → Takes X Y → chkI c it T E = true → PI X T E (rd (WkR (wdo X L)) (wdo X L) Y (walk (clOf L k) it))

section
variable {X : Cx} {W : Wd} {Y : WX} {σ : L2.St} {r : List Addr} {H : Hp} {hs : Hs} {s : Ev} {Q : VK} {d e : D} {v u : V}
theorem truR_post {P : Bool → Hp → Prop} (p : Post (fun _ _ (a b : Bool) => a = b) W Y σ r H (truR d hs) P) (m : Mt W r H hs) : ∃ c, tru hs d = some c ∧ P c H := by
  unfold truR at p
  split at p
  · rename_i c hc
    exact ⟨c, hc, p r H c (Ext.refl _ _) m rfl⟩
  · exact False.elim p
theorem pw_weak {E : Expr} {t t' : TT} (h : PW X E t) (w : ∀ σ H Q, t' σ H Q → t σ H Q) : PW X E t' := ⟨fun wh pins s σ H Q I q => h.run wh pins s σ H Q I (w σ H Q q)⟩
theorem po_weak {E : Option Expr} {t t' : TO} (h : PO X E t) (w : ∀ σ H Q, t' σ H Q → t σ H Q) : PO X E t' := ⟨fun pins s σ H Q I q => h.run pins s σ H Q I (w σ H Q q)⟩
theorem pts_weak {E : List Expr} {t t' : TT} (h : PTs X E t) (w : ∀ σ H Q, t' σ H Q → t σ H Q) : PTs X E t' := ⟨fun pins s σ H Q I q => h.run pins s σ H Q I (w σ H Q q)⟩
theorem pi_weak {tg E : Expr} {t t' : TI} (h : PI X tg E t) (w : ∀ σ H Q, t' σ H Q → t σ H Q) : PI X tg E t' := ⟨fun pins s σ H Q I q => h.run pins s σ H Q I (w σ H Q q)⟩
/-- truth asked of a value -/
theorem pt_of {E : Expr} {f : Ev → Hs → R D} (hv : valT E = true) (hW : W.K = X.K) (h : PE X E (rdE W Y f)) : PT X E (rdT W Y fun s h => (f s h).bind truR) := by
  refine pt_weak (pt_truth h (valT_ok hv)) fun σ H Q w => ?_
  obtain ⟨r, hs, s, m, en, p⟩ := w
  refine rd_bind m en p fun d r1 H1 hs1 v x m1 e1 rv _ p1 => ?_
  obtain ⟨c, hc, q⟩ := truR_post p1 m1
  exact ⟨c, hW ▸ q_tru m1 rv hc, q⟩
/-- a test whose value is a truth -/
theorem pd_bl {res : R D} {P : Bool → Hp → Prop} (hb : ∀ d h, res = .ok d h → ∃ b, d = .bl b) (p : Post (fun _ _ (a b : Bool) => a = b) W Y σ r H (res.bind truR) P) : PD W Y σ r H res fun x H => ∃ k, x = .bl k ∧ P k H := by
  cases res with
  | ok d h =>
    obtain ⟨b, rfl⟩ := hb d h rfl
    intro r' H' v x m rv
    cases rv
    exact ⟨b, rfl, p r' H' b x m rfl⟩
  | exc c fs h => exact p
  | bad => exact p
theorem cop_bl (o : Cop) (a b : D) (h : Hs) (d : D) (h' : Hs) (e : o.run a b h = .ok d h') : ∃ k, d = .bl k := by
  cases o <;> simp only [Cop.run] at e
  case eq => unfold opt at e; split at e <;> cases e; exact ⟨_, rfl⟩
  case ne => unfold opt at e; split at e <;> cases e; exact ⟨_, rfl⟩
  case isin => unfold opt at e; split at e <;> cases e; exact ⟨_, rfl⟩
  case notin => unfold opt at e; split at e <;> cases e; exact ⟨_, rfl⟩
  all_goals
    cases a <;> cases b <;> first | (cases e; done) | (cases e; exact ⟨_, rfl⟩)
theorem bind_assoc {α β γ : Type} (r : R α) (f : α → Hs → R β) (g : β → Hs → R γ) : (r.bind f).bind g = r.bind fun a h => (f a h).bind g := by cases r <;> rfl
theorem pt_if {c a b : Expr} {pos : Pos} {tc ta tb : TT} (hc : PT X c tc) (ha : PT X a ta) (hb : PT X b tb) : PT X (.IfExp c a b pos) (fun σ H Q => tc σ H fun k H1 => if k = true then ta σ H1 Q else tb σ H1 Q) := by
  refine ⟨fun pins s σ H Q I h => ?_⟩
  show wpAny _ _ (do if ← isTrue c X.env (eval c X.env) then isTrue a X.env (eval a X.env) else isTrue b X.env (eval b X.env)) _ _ _
  refine wpAny_bind (thn (hc.run pins s σ H _ I h) fun k s1 w => ?_)
  obtain ⟨H1, I1, q⟩ := w
  cases k with
  | true => exact ha.run pins s1 σ H1 Q I1 q
  | false => exact hb.run pins s1 σ H1 Q I1 q
theorem pd_list_dic (m : Mt W r H hs) (p : PD W Y σ r H (.ok (.ref hs.length) (hs ++ [.dic false []])) Q) : ∀ a, H a = none → Q (.ref a) (upd H a (.dK [])) := fun a n =>
  p (r ++ [a]) _ _ (ext_push m n _) (m.push n ⟨[], [], [], upd_same, rfl, rfl, ⟨by simp, fun _ h => nomatch h⟩, .nil⟩) (.ref (by rw [← m.len]; simp))
theorem chars_inj : ∀ {a b : List Char}, a.map Char.toNat = b.map Char.toNat → a = b
  | [], [], _ => rfl
  | [], _ :: _, h => by simp at h
  | _ :: _, [], h => by simp at h
  | x :: a, y :: b, h => by
    simp only [List.map_cons, List.cons.injEq] at h
    have := Char.toNat_inj.mp h.1
    rw [this, chars_inj h.2]
theorem fN_inj {a b : String} (h : fN a = fN b) : a = b := by
  unfold fN at h
  rw [Str.ofString_eq_toList, Str.ofString_eq_toList] at h
  have h2 : a.toList.map Char.toNat = b.toList.map Char.toNat := by
    have := congrArg (fun s : Str => s.cps.toList) h
    simpa using this
  exact String.toList_inj.mp (chars_inj h2)
theorem fld_lookup : ∀ {fs : List String} {ds : List D} {vs : List V} {f : String} {d : D}, fldOf fs ds f = some d → Rvs W r H ds vs → ∃ v, (zipF fs vs).lookup (fN f) = some v ∧ Rv W r H d v
  | [], _, _, _, _, h, _ => by cases h
  | _ :: _, [], _, _, _, h, _ => by cases h
  | g :: fs, e :: ds, _, f, d, h, .cons (v := v) (vs := vs) x t => by
    simp only [fldOf] at h
    simp only [zipF, List.lookup_cons]
    by_cases q : g = f
    · subst q
      rw [if_pos rfl] at h
      cases h
      exact ⟨v, by simp, x⟩
    · rw [if_neg q] at h
      have : (fN f == fN g) = false := by
        rw [beq_eq_false_iff_ne]
        exact fun z => q (fN_inj z).symm
      rw [this]
      exact fld_lookup h t
theorem lk_lookup {l : List (Str × V)} : ∀ {fs : List String} {ds : List D} {vs : List V} {f : String} {d : D}, fldOf fs ds f = some d → Rvs W r H ds vs → LkAll fs vs l → ∃ v, l.lookup (fN f) = some v ∧ Rv W r H d v
  | [], _, _, _, _, h, _, _ => by cases h
  | _ :: _, [], _, _, _, h, _, _ => by cases h
  | g :: fs, e :: ds, _, f, d, h, .cons (v := v) (vs := vs) x t, k => by
    simp only [fldOf] at h
    obtain ⟨k1, k2⟩ := k
    by_cases q : g = f
    · subst q
      rw [if_pos rfl] at h
      cases h
      exact ⟨v, k1, x⟩
    · rw [if_neg q] at h
      exact lk_lookup h t k2
theorem q_fld (ck : ClsOk W) (na : ∀ (d : Cn) (f : String), W.has d = true → fldKnown f = true → NoAttr W.K (W.C d) (fN f)) (m : Mt W r H hs) (x : Rv W r H d v) {f : String} (hf : fldKnown f = true) (p : PD W Y σ r H (fldD f d hs) Q) : RFld W.K (fN f) v H Q := by
  cases x <;> first | exact False.elim p | skip
  case obj c ds vs a dx pr xx h n l es =>
    simp only [fldD] at p
    obtain ⟨w, hw, p⟩ := pd_opt p
    obtain ⟨v, h1, h2⟩ := fld_lookup hw es
    exact .inl ⟨a, _, dx, _, v, rfl, h, (ck.own c pr xx).1, na c f pr hf, h1, pd_ok p m h2⟩
  case exc0 c a pr xx f0 h n =>
    simp only [fldD, f0] at p
    exact False.elim p
  case exc1 c ds vs a dx l pr xx h n hd nd es k ll =>
    simp only [fldD] at p
    obtain ⟨w, hw, p⟩ := pd_opt p
    obtain ⟨v, h1, h2⟩ := lk_lookup hw es k
    exact .inr ⟨a, _, dx, _, v, rfl, h, ck.exc c pr xx, na c f pr hf, hd, h1, pd_ok p m h2⟩
theorem evs_len {C : Cl} : ∀ {es : Exs} {s : Ev} {h : Hs} {ds : List D} {h' : Hs}, evs C es s h = .ok ds h' → ds.length = es.len
  | .nil, _, _, _, _, e => by cases e; rfl
  | .cons x es, s, h, ds, h', e => by
    simp only [evs] at e
    cases q : evE C x s h with
    | ok d h1 =>
      rw [q] at e
      cases q2 : evs C es s h1 with
      | ok ds2 h2 =>
        simp only [R.bind, q2] at e
        cases e
        simp only [List.length_cons, Exs.len, evs_len q2]
      | exc _ _ _ => simp only [R.bind, q2] at e; cases e
      | bad => simp only [R.bind, q2] at e; cases e
    | exc _ _ _ => rw [q] at e; cases e
    | bad => rw [q] at e; cases e
theorem chkEs_len {c : Ck} : ∀ {es : Exs} {l : List Expr}, chkEs c es l = true → es.len = l.length ∧ l.all noStar = true
  | .nil, l, h => by
    simp only [chkEs, List.isEmpty_iff] at h
    subst h
    exact ⟨rfl, rfl⟩
  | .cons x es, l, h => by
    simp only [chkEs] at h
    split at h
    · rename_i y r
      simp only [Bool.and_eq_true] at h
      obtain ⟨h1, h2, h3⟩ := h
      obtain ⟨k1, k2⟩ := chkEs_len h3
      exact ⟨by simp [Exs.len, k1], by simp [h1]; simpa using k2⟩
    · cases h
theorem calm_hd {L : Wl} {k : Nat} {c : Ck} (h : XOk L k c X) (hh : (!c.hot) = true) : X.calm = true ∧ Room (k + 2) X.A := h.calm (by simpa using hh)
end
end Q

/-! expressions, all of them -/
namespace Q
open PySem PySem.Spec PyProof.Rows L2

section
variable {X : Cx} {W : Wd} {Y : WX} {σ : L2.St} {r : List Addr} {H : Hp} {hs : Hs} {s : Ev} {Q : VK} {d e : D} {v u : V}
theorem side {D : Addr} {a b : List V} (m : Mt W r H hs) (h : H D = some (.lst a)) (n : D ∉ r) : Mt W r (upd H D (.lst b)) hs ∧ ExtK r H r (upd H D (.lst b)) := by
  have x : ExtK r H r (upd H D (.lst b)) := ⟨⟨[], by simp⟩, fun c o e n2 k => by
    have ne : c ≠ D := fun z => by rw [z, h] at e; cases e; exact k _ rfl
    exact ⟨by rw [upd_ne ne]; exact e, n2⟩⟩
  refine ⟨⟨m.len, m.nd, fun i c o h1 h2 => ?_⟩, x⟩
  have ne : c ≠ D := fun z => n (z ▸ List.mem_of_getElem? h1)
  exact (m.at_ i c o h1 h2).monoK x (by rw [upd_ne ne])
theorem compL_nil {ok : Hs → Prop} {g : D → Hs → R (Option D)} {h h2 : Hs} {l : List D} (e : compL ok g [] h = .ok l h2) : ok h ∧ l = [] ∧ h2 = h := by
  unfold compL at e
  split at e
  · rename_i k; cases e; exact ⟨k, rfl, rfl⟩
  · cases e
theorem compL_cons {ok : Hs → Prop} {g : D → Hs → R (Option D)} {d : D} {ds : List D} {h h2 : Hs} {l : List D} (e : compL ok g (d :: ds) h = .ok l h2) :
    ok h ∧ ∃ o h3 l2, g d h = .ok o h3 ∧ compL ok g ds h3 = .ok l2 h2 ∧ l = (match o with
      | some x => x :: l2
      | none => l2) := by
  unfold compL at e
  split at e
  · rename_i k
    refine ⟨k, ?_⟩
    split at e
    · rename_i o h3 hg
      split at e
      · rename_i l2 h4 hl
        cases e
        exact ⟨o, h3, l2, hg, hl, rfl⟩
      · cases e
    · cases e
  · cases e
def noX : WX := fun _ _ _ _ => False
theorem comp_some {w : Walk} {g : D → Hs → R (Option D)} {r1 : List Addr} {H1 : Hp} (p : PD W Y σ r1 H1 (compE w g hs) Q) : ∃ l h2, compL w.ok g w.items hs = .ok l h2 ∧ w.items.length ≤ SZ ∧ PD W Y σ r1 H1 (.ok (.ref h2.length) (h2 ++ [.lst l])) Q := by
  unfold compE at p
  split at p
  · rename_i l h2 hl
    split at p
    · rename_i hz
      exact ⟨l, h2, hl, hz, p⟩
    · exact False.elim p
  · exact False.elim p
theorem tg_own {i : Nat} {tg : Tg} {own : List Nat} (h : tgIn own tg = true) (k : tgHas i tg) : i ∈ own := by
  cases tg with
  | one j => cases k; simpa [tgIn] using h
  | many is =>
    simp only [tgIn, List.all_eq_true] at h
    simpa using h i k
theorem Ext.side {r1 r2 : List Addr} {H1 H2 : Hp} {D : Addr} {o : HO} (x : Ext r1 H1 r2 H2) (h : H1 D = none) : Ext r1 H1 r2 (upd H2 D o) := ⟨x.pre, fun a u e n => by
  have ne : a ≠ D := fun z => by rw [z, h] at e; cases e
  rw [upd_ne ne]
  exact x.keep a u e n⟩
theorem Ext.adopt {r1 r2 : List Addr} {H1 H2 : Hp} {D : Addr} (x : Ext r1 H1 r2 H2) (h : H1 D = none) : Ext r1 H1 (r2 ++ [D]) H2 := ⟨by obtain ⟨e, rfl⟩ := x.pre; exact ⟨e ++ [D], by simp⟩, fun a u e n => by
  have ne : a ≠ D := fun z => by rw [z, h] at e; cases e
  obtain ⟨k1, k2⟩ := x.keep a u e n
  exact ⟨k1, fun z => by
    rcases List.mem_append.mp z with z | z
    · exact k2 z
    · exact ne (List.mem_singleton.mp z)⟩⟩
theorem comp_ok {tg : Tg} {own : List Nat} {fw : Ev → Hs → R Walk} {fc : Ev → Hs → R Bool} {fe : Ev → Hs → R D} (ht : tgIn own tg = true)
    (w : rdE W Y (fun s h => (fw s h).bind fun w h => compE w (compG tg own (fun s h => fc s h) (fun s h => fe s h) s) h) σ H Q) :
    tLc (rd (WkR W) W Y fw) (tgG W.K tg) (rdT W noX fc) (rdE W noX fe) own σ H Q := by
  obtain ⟨r, hs, s, m, en, p⟩ := w
  refine rd_bind m en p fun w r1 H1 hs1 J x m1 e1 wk _ p1 => ?_
  intro D hD
  obtain ⟨l, h2, hl, hsz, p2⟩ := comp_some p1
  generalize hG : compG tg own (fun s h => fc s h) (fun s h => fe s h) s = G at hl
  refine ⟨fun i n H => ∃ r hs acc da l', Ext r1 H1 r H ∧ Mt W r H hs ∧ H D = some (.lst acc) ∧ D ∉ r ∧ Rvs W r H da acc ∧ da.length ≤ i ∧ compL w.ok G (w.items.drop i) hs = .ok l' h2 ∧ da ++ l' = l ∧ n + i = w.items.length,
    ⟨w.items.length, r1, hs1, [], [], l, ext_new hD _, m1.new hD _, upd_same, m1.notNew hD, .nil, Nat.le_refl _, by simpa using hl, rfl, rfl⟩, ?_⟩
  rintro i n H2 ⟨r2, hs2, acc, da, l', x2, m2, hacc, hDr, hda, hi, hc, hl2, hn⟩
  by_cases hil : i < w.items.length
  · refine .inr ?_
    rw [List.drop_eq_getElem_cons hil] at hc
    obtain ⟨hok, o, h3, l2, hg, hc2, hl3⟩ := compL_cons hc
    obtain ⟨wk1, wk2, wk3⟩ := wk r2 H2 hs2 x2 m2 hok
    refine ⟨wk1 i hil, fun H' => ∃ m', m' < n ∧ _, fun H' z => z, fun xv H3 hy => ?_⟩
    obtain ⟨r3, x3, m3, rv⟩ := wk3 i xv H3 hy _ (List.getElem?_eq_getElem hil)
    have x13 : Ext r1 H1 r3 H3 := x2.trans x3
    obtain ⟨hacc3, hDr3⟩ := x3.keep _ _ hacc hDr
    have hda3 := hda.mono x3
    have go : ∀ {r5 : List Addr} {H5 : Hp} {h5 : Hs}, Ext r3 H3 r5 H5 → Mt W r5 H5 h5 → H5 D = some (.lst acc) ∧ D ∉ r5 ∧ Rvs W r5 H5 da acc ∧ Ext r1 H1 r5 H5 := fun x5 _ => ⟨(x5.keep _ _ hacc3 hDr3).1, (x5.keep _ _ hacc3 hDr3).2, hda3.mono x5, x13.trans x5⟩
    rw [← hG] at hg
    simp only [compG] at hg
    cases hs2' : asg tg w.items[i] (_root_.Q.wipe s own) with
    | none => rw [hs2'] at hg; cases hg
    | some s2 =>
      rw [hs2'] at hg
      simp only at hg
      refine asg_ok (P := fun σ' => L2.wipe σ' own = L2.wipe σ own) hs2' rv ((e1.mono x13).wipe own) (wipe_twice own own σ fun _ z => z) (fun σ' j vv hj hP => ?_) (fun σ2 en2 hP => ⟨hP, ?_⟩)
      · show L2.wipe (σ'.set j vv) own = _
        rw [wipe_set_in (tg_own ht hj)]
        exact hP
      · refine ⟨r3, hs2, s2, m3, en2, ?_⟩
        cases hfc : fc s2 hs2 with
        | exc _ _ _ => rw [hfc] at hg; cases hg
        | bad => rw [hfc] at hg; cases hg
        | ok b h4 =>
          rw [hfc] at hg
          intro r4 H4 b' x4 m4 eb
          subst eb
          cases b with
          | false =>
            simp only [Bool.false_eq_true, if_false]
            simp only at hg
            cases hg
            obtain ⟨k1, k2, k3, k4⟩ := go x4 m4
            exact ⟨n - 1, by omega, r4, _, acc, da, l2, k4, m4, k1, k2, k3, by omega, hc2, by rw [← hl2, hl3], by omega⟩
          | true =>
            simp only [if_true]
            simp only at hg
            refine ⟨r4, h4, s2, m4, en2.mono x4, ?_⟩
            cases hfe : fe s2 h4 with
            | exc _ _ _ => rw [hfe] at hg; cases hg
            | bad => rw [hfe] at hg; cases hg
            | ok y h5 =>
              rw [hfe] at hg
              cases hg
              intro r5 H5 yv x5 m5 rv5
              obtain ⟨k1, k2, k3, k4⟩ := go (x4.trans x5) m5
              have sd := side (b := acc ++ [yv]) m5 k1 k2
              refine ⟨acc, k1, ?_, n - 1, by omega, r5, _, acc ++ [yv], da ++ [y], l2, k4.side hD, sd.1, upd_same, k2, (k3.append (.cons rv5 .nil)).monoK sd.2, ?_, hc2, ?_, by omega⟩
              · rw [sl_eq, hda.length]; omega
              · rw [List.length_append]; simp; omega
              · rw [← hl2, hl3]; simp
  · refine .inl ?_
    rw [List.drop_eq_nil_of_le (by omega)] at hc
    obtain ⟨hok, rfl, rfl⟩ := compL_nil hc
    obtain ⟨wk1, wk2, wk3⟩ := wk r2 H2 _ x2 m2 hok
    refine ⟨wk2 i (by omega), ?_⟩
    rw [List.append_nil] at hl2
    subst hl2
    exact p2 (r2 ++ [D]) H2 (.ref D) (x2.adopt hD) (m2.adopt hacc hDr hda) (.ref (by rw [← m2.len]; simp))
end
end Q

/-! expressions, one form after another -/
namespace Q
open PySem PySem.Spec PyProof.Rows L2

section
variable {L : Wl} {k : Nat}
theorem pe_bi {X : Cx} {c : Ck} (h : XOk L k c X) (hc : X.calm = true) {e : Expr} {es : List Expr} {t : TA} {p pos : Pos} (ha : PA X (e :: es) t) (hs : noStar e = true) (hss : es.all noStar = true) :
    ∀ f : Bi, f.ok = true → Gl X (Str.ofString f.val.1) → PE X (.Call (.Name (Str.ofString f.val.1) p) (e :: es) [] pos) (tCB (RBi X.K f) t)
  | .len, _, g => pe_callB (call_bi hc .len) g (h.blt "len" (by decide)) (by decide +kernel) ha (by decide +kernel) (by decide +kernel) (star_cons hs) (star_none hss)
  | .abs, _, g => pe_callB (call_bi hc .abs) g (h.blt "abs" (by decide)) (by decide +kernel) ha (by decide +kernel) (by decide +kernel) (star_cons hs) (star_none hss)
  | .min, _, g => pe_callB (call_bi hc .min) g (h.blt "min" (by decide)) (by decide +kernel) ha (by decide +kernel) (by decide +kernel) (star_cons hs) (star_none hss)
  | .max, _, g => pe_callB (call_bi hc .max) g (h.blt "max" (by decide)) (by decide +kernel) ha (by decide +kernel) (by decide +kernel) (star_cons hs) (star_none hss)
  | .int, _, g => pe_callTy (call_bi hc .int) g (h.blt "int" (by decide)) (by decide +kernel) ha (by decide +kernel) (by decide +kernel) (star_cons hs) (star_none hss)
  | .str, _, g => pe_callTy (call_bi hc .str) g (h.blt "str" (by decide)) (by decide +kernel) ha (by decide +kernel) (by decide +kernel) (star_cons hs) (star_none hss)
  | .tuple, _, g => pe_callTy (call_bi hc .tuple) g (h.blt "tuple" (by decide)) (by decide +kernel) ha (by decide +kernel) (by decide +kernel) (star_cons hs) (star_none hss)
  | .list, _, g => pe_callTy (call_bi hc .list) g (h.blt "list" (by decide)) (by decide +kernel) ha (by decide +kernel) (by decide +kernel) (star_cons hs) (star_none hss)
  | .sum, _, g => pe_callB (call_bi hc .sum) g (h.blt "sum" (by decide)) (by decide +kernel) ha (by decide +kernel) (by decide +kernel) (star_cons hs) (star_none hss)
  | .any, _, g => pe_callB (call_bi hc .any) g (h.blt "any" (by decide)) (by decide +kernel) ha (by decide +kernel) (by decide +kernel) (star_cons hs) (star_none hss)
  | .all, _, g => pe_callB (call_bi hc .all) g (h.blt "all" (by decide)) (by decide +kernel) ha (by decide +kernel) (by decide +kernel) (star_cons hs) (star_none hss)
  | .sortedset, q, _ => nomatch q
  | .sorted, q, _ => nomatch q
  | .lenset, q, _ => nomatch q
theorem post_E {Y : WX} {σ : L2.St} {W : Wd} {r : List Addr} {H : Hp} {res : R D} {Q : VK} (p : Post (Rv W) W Y σ r H res Q) : Post (Rv W) W (fun c d _ H => WE Y σ c d H) [] r H res Q := by
  cases res <;> exact p
theorem se_v (i : Nat) : SE L k (.v i) := by
  intro c X Y E h tk g
  simp only [chkE] at g
  split at g
  · rename_i x hx
    obtain ⟨p, rfl⟩ := asName_of hx
    rw [Bool.and_eq_true] at g
    obtain ⟨v1, v2, v3⟩ := visB_ok h g.2
    have e : PE X (.Name x p) (rdE (wdo X L) Y (evE (clOf L k) (.v i))) := by
      refine pe_weak (pe_var (atB_ok h g.1) v1 v2 v3) fun σ H Q w => ?_
      obtain ⟨r, hs, s, m, en, p⟩ := w
      simp only [evE, getV] at p
      split at p
      · rename_i d hd
        obtain ⟨v, h1, h2⟩ := en.2 i d hd
        exact ⟨v, h1, pd_ok p m h2⟩
      · exact False.elim p
    exact ⟨e, pt_of rfl rfl e⟩
  · cases g
theorem se_k (d : D) : SE L k (.k d) := by
  intro c X Y E h tk g
  simp only [chkE] at g
  split at g
  · rename_i q hq
    obtain ⟨j, p, rfl⟩ := asConst_of hq
    have gen : ∀ {v : V}, PE X (.Constant q j p) (tC v) → (∀ r H, Rv (wdo X L) r H d v) → PE X (.Constant q j p) (rdE (wdo X L) Y (evE (clOf L k) (.k d))) ∧ PT X (.Constant q j p) (rdT (wdo X L) Y (evT (clOf L k) (.k d))) := by
      intro v h1 h2
      have e : PE X (.Constant q j p) (rdE (wdo X L) Y (evE (clOf L k) (.k d))) := pe_weak h1 fun σ H Q w => by
        obtain ⟨r, hs, s, m, en, p⟩ := w
        simp only [evE] at p
        exact pd_ok p m (h2 _ _)
      exact ⟨e, pt_of rfl rfl e⟩
    cases d <;> cases q <;> first | (cases g; done) | skip
    case non.none => exact gen pe_non fun _ _ => .non
    case bl.bool a b =>
      simp only [cstB, beq_iff_eq] at g
      subst g
      exact gen pe_bl fun _ _ => .bl a
    case int.int a b =>
      simp only [cstB, beq_iff_eq] at g
      subst g
      exact gen pe_int fun _ _ => .int a
    case str.str a b =>
      simp only [cstB, Bool.and_eq_true, beq_iff_eq] at g
      obtain ⟨g1, g2⟩ := g
      subst g1
      exact gen pe_str fun _ _ => .str a g2
  · cases g
theorem se_g (y : String) : SE L k (.g y) := by
  intro c X Y E h tk g
  simp only [chkE] at g
  split at g
  · rename_i x hx
    obtain ⟨p, rfl⟩ := asName_of hx
    rw [Bool.and_eq_true] at g
    obtain ⟨g1, g2⟩ := glB_ok h g.1
    obtain ⟨d, v, u, h1, h2, h3, h4⟩ := h.con x y (beq_iff_eq.mp g.2)
    have e : PE X (.Name x p) (rdE (wdo X L) Y (evE (clOf L k) (.g y))) := pe_weak (C8.pe_gc g1 ⟨u, h2, h3⟩ g2) fun σ H Q w => by
      obtain ⟨r, hs, s, m, en, p⟩ := w
      simp only [evE, clOf, h1, opt] at p
      exact pd_ok p m (h4 _ _)
    exact ⟨e, pt_of rfl rfl e⟩
  · cases g
theorem se_tup {es : Exs} (ih : SEs L k es) : SE L k (.tup es) := by
  intro c X Y E h tk g
  simp only [chkE] at g
  split at g
  · rename_i l hl
    obtain ⟨j, p, rfl⟩ := asTup_of hl
    rw [Bool.and_eq_true, decide_eq_true_eq] at g
    have e : PE X (.Tuple l j p) (rdE (wdo X L) Y (evE (clOf L k) (.tup es))) := pe_weak (pe_tup (ih c X Y l h tk g.1).1) fun σ H Q w => by
      obtain ⟨r, hs, s, m, en, p⟩ := w
      simp only [evE] at p
      refine rd_bind m en p fun ds r1 H1 hs1 vs x m1 e1 rv q p1 => ⟨?_, pd_tup p1 m1 rv⟩
      rw [rv.length, evs_len q, (chkEs_len g.1).1, sl_eq]
      exact Nat.le_trans g.2 (by decide)
    exact ⟨e, pt_of rfl rfl e⟩
  · cases g
theorem se_lst {es : Exs} (ih : SEs L k es) : SE L k (.lst es) := by
  intro c X Y E h tk g
  simp only [chkE] at g
  split at g
  · rename_i l hl
    obtain ⟨p, rfl⟩ := asLst_of hl
    rw [Bool.and_eq_true, decide_eq_true_eq] at g
    have e : PE X (.List l p) (rdE (wdo X L) Y (evE (clOf L k) (.lst es))) := pe_weak (pe_lst (ih c X Y l h tk g.1).1) fun σ H Q w => by
      obtain ⟨r, hs, s, m, en, p⟩ := w
      simp only [evE] at p
      refine rd_bind m en p fun ds r1 H1 hs1 vs x m1 e1 rv q p1 => ⟨?_, pd_lst p1 m1 rv⟩
      rw [rv.length, evs_len q, (chkEs_len g.1).1, sl_eq]
      exact Nat.le_trans g.2 (by decide)
    exact ⟨e, pt_of rfl rfl e⟩
  · cases g
theorem se_dic (t : Bool) (es : Exs) : SE L k (.dic t es) := by
  intro c X Y E h tk g
  simp only [chkE] at g
  split at g
  · rename_i q hq
    obtain ⟨p, rfl⟩ := asDict_of hq
    obtain ⟨ks, vs⟩ := q
    simp only [Bool.and_eq_true, Bool.not_eq_true', List.isEmpty_iff] at g
    obtain ⟨g1, g2, g3, g4⟩ := g
    subst g1 g3 g4
    cases es with
    | cons _ _ => cases g2
    | nil =>
      have e : PE X (.Dict [] [] p) (rdE (wdo X L) Y (evE (clOf L k) (.dic false .nil))) := pe_weak pe_dnewK fun σ H Q w => by
        obtain ⟨r, hs, s, m, en, p⟩ := w
        simp only [evE, evs, R.bind, mkDic, newDic, putAll, List.map_nil, List.all_nil, if_true] at p
        exact pd_list_dic m p
      exact ⟨e, pt_of rfl rfl e⟩
  · cases g
theorem se_bin (o : Bop) {a b : Ex} (ha : SE L k a) (hb : SE L k b) : SE L k (.bin o a b) := by
  intro c X Y E h tk g
  simp only [chkE] at g
  split at g
  · rename_i q hq
    obtain ⟨p, rfl⟩ := asBin_of hq
    obtain ⟨oq, x, y⟩ := q
    simp only [Bool.and_eq_true, decide_eq_true_eq] at g
    obtain ⟨g1, g2, g3⟩ := g
    subst g1
    have e : PE X (.BinOp x o.op y p) (rdE (wdo X L) Y (evE (clOf L k) (.bin o a b))) := pe_weak (pe_op (op_bin o) (ha c X Y x h tk g2).1 (hb c X Y y h tk g3).1) fun σ H Q w => by
      obtain ⟨r, hs, s, m, en, p⟩ := w
      simp only [evE] at p
      refine rd_bind m en p fun d r1 H1 hs1 v x1 m1 e1 rv _ p1 => ?_
      refine rd_bind m1 e1 p1 fun d2 r2 H2 hs2 u x2 m2 e2 rv2 _ p2 => ?_
      exact q_bin m2 (rv.mono x2) rv2 o p2
    exact ⟨e, pt_of rfl rfl e⟩
  · cases g
theorem se_neg {a : Ex} (ha : SE L k a) : SE L k (.neg a) := by
  intro c X Y E h tk g
  simp only [chkE] at g
  split at g
  · rename_i x hx
    obtain ⟨p, rfl⟩ := asNeg_of hx
    have e : PE X (.UnaryOp .USub x p) (rdE (wdo X L) Y (evE (clOf L k) (.neg a))) := pe_weak (pe_un un_neg (ha c X Y x h tk g).1) fun σ H Q w => by
      obtain ⟨r, hs, s, m, en, p⟩ := w
      simp only [evE] at p
      refine rd_bind m en p fun d r1 H1 hs1 v x1 m1 e1 rv _ p1 => ?_
      cases d <;> first | exact False.elim p1 | skip
      cases rv
      exact ⟨_, rfl, pd_ok p1 m1 (.int _)⟩
    exact ⟨e, pt_of rfl rfl e⟩
  · cases g
theorem se_cmp (o : Cop) {a b : Ex} (ha : SE L k a) (hb : SE L k b) : SE L k (.cmp o a b) := by
  intro c X Y E h tk g
  simp only [chkE] at g
  split at g
  · rename_i q hq
    obtain ⟨p, rfl⟩ := asCmp1_of hq
    obtain ⟨oq, x, y⟩ := q
    simp only [Bool.and_eq_true, decide_eq_true_eq] at g
    obtain ⟨g1, g0, g2, g3⟩ := g
    subst g1
    have hu : X.A.units + 152 < cLine := by have := h.un; omega
    have h1 := (ha c X Y x h tk g2).1
    have h2 := (hb c X Y y h tk g3).1
    refine ⟨pe_weak (pe_cmpR (op_cmp hu o) h1 h2 (marks_ok g0)) fun σ H Q w => ?_, pt_weak (pt_cmpR (op_cmp hu o) h1 h2 (marks_ok g0)) fun σ H Q w => ?_⟩
    · obtain ⟨r, hs, s, m, en, p⟩ := w
      simp only [evE] at p
      refine rd_bind m en p fun d r1 H1 hs1 v x1 m1 e1 rv _ p1 => ?_
      refine rd_bind m1 e1 p1 fun d2 r2 H2 hs2 u x2 m2 e2 rv2 _ p2 => ?_
      exact q_cmp m2 (rv.mono x2) rv2 o p2
    · obtain ⟨r, hs, s, m, en, p⟩ := w
      simp only [evT, evE, bind_assoc] at p
      refine rd_bind m en p fun d r1 H1 hs1 v x1 m1 e1 rv _ p1 => ?_
      refine rd_bind m1 e1 p1 fun d2 r2 H2 hs2 u x2 m2 e2 rv2 _ p2 => ?_
      exact q_cmp m2 (rv.mono x2) rv2 o (pd_bl (fun d h e => cop_bl o _ _ _ d h e) p2)
  · cases g
theorem opt_nx {α : Type} (o : Option α) (f : α → D) (h : Hs) (c : Cn) (fs : List D) (h3 : Hs) : opt o f h ≠ .exc c fs h3 := by
  cases o <;> exact fun z => nomatch z
theorem cop_nx (o : Cop) (a b : D) (h : Hs) (c : Cn) (fs : List D) (h3 : Hs) : o.run a b h ≠ .exc c fs h3 := by
  cases o <;> simp only [Cop.run]
  case eq => exact opt_nx _ _ _ _ _ _
  case ne => exact opt_nx _ _ _ _ _ _
  case isin => exact opt_nx _ _ _ _ _ _
  case notin => exact opt_nx _ _ _ _ _ _
  all_goals (cases a <;> cases b <;> exact fun z => nomatch z)
/-- the first comparison of a chain -/
theorem q_chn {W : Wd} {Y : WX} {σ : L2.St} {r : List Addr} {H : Hp} {hs : Hs} {α β : Type} {rel : List Addr → Hp → α → β → Prop} {Q : β → Hp → Prop} {d e : D} {v u : V} {o : Cop} {f : D → Hs → R α} {P : VK} (m : Mt W r H hs) (x : Rv W r H d v) (y : Rv W r H e u)
    (p : Post rel W Y σ r H ((o.run d e hs).bind f) Q) (k : ∀ b r3 H3 h3, Ext r H r3 H3 → Mt W r3 H3 h3 → Post rel W Y σ r3 H3 (f (.bl b) h3) Q → P (.bl b) H3) (kx : ∀ c fs h3, o.run d e hs ≠ .exc c fs h3) : RC W.K o v u H P := by
  refine q_cmp (σ := σ) (Y := Y) m x y o ?_
  cases hq : o.run d e hs with
  | ok w h3 =>
    obtain ⟨b, rfl⟩ := cop_bl o _ _ _ _ _ hq
    rw [hq] at p
    intro r' H' z x' m' rz
    cases rz
    exact k b r' H' h3 x' m' (Post.mono (σ := σ) p x' fun _ _ z => z)
  | exc c fs h3 => exact absurd hq (kx c fs h3)
  | bad =>
    rw [hq] at p
    exact p
theorem se_chn (o o2 : Cop) {a b d : Ex} (ha : SE L k a) (hb : SE L k b) (hd : SE L k d) : SE L k (.chn o o2 a b d) := by
  intro c X Y E h tk g
  simp only [chkE] at g
  split at g
  · rename_i q hq
    obtain ⟨p, rfl⟩ := asCmp2_of hq
    obtain ⟨oq, oq2, x, y, z⟩ := q
    simp only [Bool.and_eq_true, decide_eq_true_eq] at g
    obtain ⟨g1, g2, g0, g3, g4, g5⟩ := g
    subst g1 g2
    have hu : X.A.units + 152 < cLine := by have := h.un; omega
    have h1 := (ha c X Y x h tk g3).1
    have h2 := (hb c X Y y h tk g4).1
    have h3 := (hd c X Y z h tk g5).1
    have hm : lastMarks [o.op, o2.op] [y, z] = false := marks_ok g0
    refine ⟨pe_weak (pe_chain (op_cmp hu o) (op_cmp hu o2) h1 h2 h3 hm) fun σ H Q w => ?_, pt_weak (pt_chain (op_cmp hu o) (op_cmp hu o2) h1 h2 h3 hm) fun σ H Q w => ?_⟩
    · obtain ⟨r, hs, s, m, en, p⟩ := w
      simp only [evE] at p
      refine rd_bind m en p fun d1 r1 H1 hs1 v x1 m1 e1 rv _ p1 => ?_
      refine rd_bind m1 e1 p1 fun d2 r2 H2 hs2 u x2 m2 e2 rv2 _ p2 => ?_
      refine q_chn m2 (rv.mono x2) rv2 p2 (fun b r3 H3 h3 x3 m3 p3 => ⟨b, rfl, ?_⟩) (cop_nx o _ _ _)
      cases b with
      | false => exact pd_ok p3 m3 (.bl false)
      | true =>
        refine rd_bind m3 (e2.mono x3) p3 fun d4 r4 H4 hs4 u4 x4 m4 e4 rv4 _ p4 => ?_
        exact q_cmp m4 (rv2.mono (x3.trans x4)) rv4 o2 p4
    · obtain ⟨r, hs, s, m, en, p⟩ := w
      simp only [evT, evE, bind_assoc] at p
      refine rd_bind m en p fun d1 r1 H1 hs1 v x1 m1 e1 rv _ p1 => ?_
      refine rd_bind m1 e1 p1 fun d2 r2 H2 hs2 u x2 m2 e2 rv2 _ p2 => ?_
      refine q_chn m2 (rv.mono x2) rv2 p2 (fun b r3 H3 h3 x3 m3 p3 => ⟨b, rfl, ?_⟩) (cop_nx o _ _ _)
      cases b with
      | false => exact ⟨false, rfl, p3 r3 H3 false (Ext.refl _ _) m3 rfl⟩
      | true =>
        simp only [chnD, bind_assoc] at p3
        refine rd_bind m3 (e2.mono x3) p3 fun d4 r4 H4 hs4 u4 x4 m4 e4 rv4 _ p4 => ?_
        exact q_cmp m4 (rv2.mono (x3.trans x4)) rv4 o2 (pd_bl (fun d h e => cop_bl o2 _ _ _ d h e) p4)
  · cases g
end
end Q

/-! expressions, further forms -/
namespace Q
open PySem PySem.Spec PyProof.Rows L2

section
variable {L : Wl} {k : Nat}
theorem non_iff {W : Wd} {r : List Addr} {H : Hp} {d : D} {v : V} (x : Rv W r H d v) : decide (v = .non) = isN d := by
  cases x <;> rfl
theorem se_isn (n : Bool) {a : Ex} (ha : SE L k a) : SE L k (.isn a n) := by
  intro c X Y E h tk g
  simp only [chkE] at g
  split at g
  · rename_i q hq
    obtain ⟨p, rfl⟩ := asCmp1_of hq
    obtain ⟨oq, x, y⟩ := q
    simp only [Bool.and_eq_true, decide_eq_true_eq] at g
    obtain ⟨g1, g2, g3⟩ := g
    obtain ⟨j, p2, rfl⟩ := asConst_of g2
    subst g1
    have hx := (ha c X Y x h tk g3).1
    have w1 : ∀ (b : Bool) σ H Q, rdE (wdo X L) Y (evE (clOf L k) (.isn a b)) σ H Q → rdE (wdo X L) Y (evE (clOf L k) a) σ H fun x H1 => Q (.bl (decide (x = .non) != b)) H1 := by
      intro b σ H Q w
      obtain ⟨r, hs, s, m, en, p⟩ := w
      simp only [evE] at p
      refine rd_bind m en p fun d r1 H1 hs1 v x1 m1 e1 rv _ p1 => ?_
      rw [non_iff rv]
      exact pd_ok p1 m1 (.bl _)
    have w2 : ∀ (b : Bool) σ H (Q : Bool → Hp → Prop), rdT (wdo X L) Y (evT (clOf L k) (.isn a b)) σ H Q → rdE (wdo X L) Y (evE (clOf L k) a) σ H fun x H1 => Q (decide (x = .non) != b) H1 := by
      intro b σ H Q w
      obtain ⟨r, hs, s, m, en, p⟩ := w
      simp only [evT, evE, bind_assoc] at p
      refine rd_bind m en p fun d r1 H1 hs1 v x1 m1 e1 rv _ p1 => ?_
      rw [non_iff rv]
      exact p1 r1 H1 _ (Ext.refl _ _) m1 rfl
    cases n with
    | false =>
      refine ⟨pe_weak (pe_cmp (pc_isN hx)) fun σ H Q w => ?_, pt_weak (pt_cmp (pc_isN hx)) fun σ H Q w => ?_⟩
      · have := w1 false σ H Q w
        simpa [tIsN] using this
      · have := w2 false σ H Q w
        obtain ⟨r, hs, s, m, en, p⟩ := this
        refine ⟨r, hs, s, m, en, p.mono (Ext.refl _ _) fun v H z => ⟨_, rfl, by simpa using z⟩⟩
    | true =>
      refine ⟨pe_weak (pe_cmp (pc_notN hx)) fun σ H Q w => ?_, pt_weak (pt_cmp (pc_notN hx)) fun σ H Q w => ?_⟩
      · have := w1 true σ H Q w
        obtain ⟨r, hs, s, m, en, p⟩ := this
        refine ⟨r, hs, s, m, en, p.mono (Ext.refl _ _) fun v H z => by simpa using z⟩
      · have := w2 true σ H Q w
        obtain ⟨r, hs, s, m, en, p⟩ := this
        refine ⟨r, hs, s, m, en, p.mono (Ext.refl _ _) fun v H z => ⟨_, rfl, by simpa using z⟩⟩
  · cases g
/-- a test, then one of two -/
theorem test_then {W : Wd} {Y : WX} {σ : L2.St} {r : List Addr} {H : Hp} {hs : Hs} {s : Ev} {α β : Type} {rel : List Addr → Hp → α → β → Prop} {P : β → Hp → Prop} {f : Ev → Hs → R D} {g : D → Bool → Hs → R α} {K : Bool → Hp → Prop} (m : Mt W r H hs) (en : EnvR W r H s σ)
    (p : Post rel W Y σ r H ((f s hs).bind fun x h => match tru h x with
      | some b => g x b h
      | none => .bad) P) (kk : ∀ d b r1 H1 hs1, Ext r H r1 H1 → Mt W r1 H1 hs1 → EnvR W r1 H1 s σ → tru hs1 d = some b → Post rel W Y σ r1 H1 (g d b hs1) P → K b H1) : rdT W Y (fun s h => (f s h).bind truR) σ H K := by
  refine ⟨r, hs, s, m, en, ?_⟩
  show Post _ _ _ _ _ _ ((f s hs).bind truR) _
  cases q : f s hs with
  | ok d h1 =>
    rw [q] at p
    have p : Post rel W Y σ r H (match tru h1 d with
      | some b => g d b h1
      | none => .bad) P := p
    show Post _ _ _ _ _ _ (truR d h1) _
    unfold truR
    cases q2 : tru h1 d with
    | none => rw [q2] at p; exact False.elim p
    | some b =>
      rw [q2] at p
      intro r' H' b' x' m' e
      subst e
      exact kk d b r' H' h1 x' m' (en.mono x') q2 (p.mono x' fun _ _ z => z)
  | exc _ _ _ => rw [q] at p; exact p
  | bad => rw [q] at p; exact False.elim p
theorem iteD_eq (x : D) (f g : Hs → R D) (h : Hs) : iteD x f g h = match tru h x with
    | some b => (if b then f h else g h)
    | none => .bad := by
  unfold iteD
  cases tru h x with
  | none => rfl
  | some b => cases b <;> rfl
theorem orvD_eq (x : D) (f : Hs → R D) (h : Hs) : orvD x f h = match tru h x with
    | some b => (if b then .ok x h else f h)
    | none => .bad := by
  unfold orvD
  cases tru h x with
  | none => rfl
  | some b => cases b <;> rfl
theorem bad_match {α β : Type} (o : Option Bool) (g : Bool → R α) (f : α → Hs → R β) : (match o with
    | some b => g b
    | none => .bad).bind f = match o with
    | some b => (g b).bind f
    | none => .bad := by cases o <;> rfl
theorem opt_eq (o : Option Bool) (f : Bool → D) (h : Hs) : opt o f h = match o with
    | some b => .ok (f b) h
    | none => .bad := by cases o <;> rfl
theorem se_not {a : Ex} (ha : SE L k a) : SE L k (.not a) := by
  intro c X Y E h tk g
  simp only [chkE] at g
  split at g
  · rename_i x hx
    obtain ⟨p, rfl⟩ := asNot_of hx
    obtain ⟨h1, h2⟩ := ha c X Y x h tk g
    refine ⟨pe_weak (pe_notT h1) fun σ H Q w => ?_, pt_weak (pt_not h2) fun σ H Q w => ?_⟩
    · obtain ⟨r, hs, s, m, en, p⟩ := w
      simp only [evE] at p
      refine rd_bind m en p fun d r1 H1 hs1 v x1 m1 e1 rv _ p1 => ?_
      obtain ⟨b, hb, p1⟩ := pd_opt p1
      exact ⟨b, q_tru m1 rv hb, pd_ok p1 m1 (.bl _)⟩
    · obtain ⟨r, hs, s, m, en, p⟩ := w
      simp only [evT, evE, bind_assoc, opt_eq, bad_match] at p
      exact test_then m en p fun d b r1 H1 hs1 x1 m1 e1 _ p1 => p1 r1 H1 _ (Ext.refl _ _) m1 rfl
  · cases g
theorem se_and {es : Exs} (ih : SEs L k es) : SE L k (.and es) := by
  intro c X Y E h tk g
  simp only [chkE] at g
  split at g
  · rename_i l hl
    obtain ⟨p, rfl⟩ := asAnd_of hl
    simp only [Bool.and_eq_true, Bool.not_eq_true'] at g
    have ne : l ≠ [] := fun z => by rw [z] at g; cases g.2
    obtain ⟨⟨h1, h2⟩, _⟩ := (ih c X Y l h tk g.1).2 ne p
    exact ⟨pe_weak h1 fun σ H Q w => w, pt_weak h2.pt fun σ H Q w => w⟩
  · cases g
theorem se_or {es : Exs} (ih : SEs L k es) : SE L k (.or es) := by
  intro c X Y E h tk g
  simp only [chkE] at g
  split at g
  · rename_i l hl
    obtain ⟨p, rfl⟩ := asOr_of hl
    simp only [Bool.and_eq_true, Bool.not_eq_true'] at g
    have ne : l ≠ [] := fun z => by rw [z] at g; cases g.2
    obtain ⟨_, h1, h2⟩ := (ih c X Y l h tk g.1).2 ne p
    exact ⟨pe_weak h1 fun σ H Q w => w, pt_weak h2.pt fun σ H Q w => w⟩
  · cases g
theorem se_ite {q a b : Ex} (hq : SE L k q) (ha : SE L k a) (hb : SE L k b) : SE L k (.ite q a b) := by
  intro c X Y E h tk g
  simp only [chkE] at g
  split at g
  · rename_i r hr
    obtain ⟨p, rfl⟩ := asIf_of hr
    obtain ⟨x, y, z⟩ := r
    simp only [Bool.and_eq_true] at g
    obtain ⟨g1, g2, g3⟩ := g
    have h1 := hq c X Y x h tk g1
    have h2 := ha c X Y y h tk g2
    have h3 := hb c X Y z h tk g3
    refine ⟨pe_weak (pe_ifExp h1.2 h2.1 h3.1) fun σ H Q w => ?_, pt_weak (pt_if h1.2 h2.2 h3.2) fun σ H Q w => ?_⟩
    · obtain ⟨r, hs, s, m, en, p⟩ := w
      simp only [evE, iteD_eq] at p
      refine test_then m en p fun d b r1 H1 hs1 x1 m1 e1 _ p1 => ?_
      cases b with
      | true => exact ⟨r1, hs1, s, m1, e1, p1⟩
      | false => exact ⟨r1, hs1, s, m1, e1, p1⟩
    · obtain ⟨r, hs, s, m, en, p⟩ := w
      simp only [evT, evE, iteD_eq, bind_assoc, bad_match] at p
      refine test_then m en p fun d b r1 H1 hs1 x1 m1 e1 _ p1 => ?_
      cases b with
      | true => exact ⟨r1, hs1, s, m1, e1, p1⟩
      | false => exact ⟨r1, hs1, s, m1, e1, p1⟩
  · cases g
theorem se_orv {a b : Ex} (ha : SE L k a) (hb : SE L k b) : SE L k (.orv a b) := by
  intro c X Y E h tk g
  simp only [chkE] at g
  split at g
  · rename_i x y hr
    obtain ⟨p, rfl⟩ := asOr_of hr
    simp only [Bool.and_eq_true] at g
    have h1 := ha c X Y x h tk g.1
    have h2 := hb c X Y y h tk g.2
    refine ⟨pe_weak (pe_orT h1.1 (pe_one h2.1)) fun σ H Q w => ?_, pt_weak (pw_or h1.2 (pw_or1 h2.2)).pt fun σ H Q w => ?_⟩
    · obtain ⟨r, hs, s, m, en, p⟩ := w
      simp only [evE] at p
      refine rd_bind m en p fun d r1 H1 hs1 v x1 m1 e1 rv _ p1 => ?_
      rw [orvD_eq] at p1
      cases q2 : tru hs1 d with
      | none => rw [q2] at p1; exact False.elim p1
      | some t =>
        rw [q2] at p1
        refine ⟨t, q_tru m1 rv q2, ?_⟩
        cases t with
        | true => exact pd_ok p1 m1 rv
        | false => exact ⟨r1, hs1, s, m1, e1, p1⟩
    · obtain ⟨r, hs, s, m, en, p⟩ := w
      simp only [evT, evE, orvD_eq, bind_assoc, bad_match] at p
      refine test_then m en p fun d b r1 H1 hs1 x1 m1 e1 hb p1 => ?_
      cases b with
      | true =>
        have p2 : Post _ _ _ _ _ _ (truR d hs1) _ := p1
        unfold truR at p2
        rw [hb] at p2
        exact p2 r1 H1 _ (Ext.refl _ _) m1 rfl
      | false => exact ⟨r1, hs1, s, m1, e1, p1⟩
  · cases g
theorem se_sub {a i : Ex} (ha : SE L k a) (hi : SE L k i) : SE L k (.sub a i) := by
  intro c X Y E h tk g
  simp only [chkE] at g
  split at g
  · rename_i q hq
    obtain ⟨p, rfl⟩ := asSub_of hq
    obtain ⟨x, y⟩ := q
    simp only [Bool.and_eq_true] at g
    obtain ⟨g1, g2, g3⟩ := g
    have hu : X.A.units + 1 < cLine := by have := h.un; omega
    have e : PE X (.Subscript x y p) (rdE (wdo X L) Y (evE (clOf L k) (.sub a i))) := pe_weak (pe_ix (ix_U hu) (ha c X Y x h tk g2).1 (hi c X Y y h tk g3).1 (slice_ok g1)) fun σ H Q w => by
      obtain ⟨r, hs, s, m, en, p⟩ := w
      simp only [evE] at p
      refine rd_bind m en p fun d r1 H1 hs1 v x1 m1 e1 rv _ p1 => ?_
      refine rd_bind m1 e1 p1 fun d2 r2 H2 hs2 u x2 m2 e2 rv2 _ p2 => ?_
      exact q_ix m2 (rv.mono x2) rv2 p2
    exact ⟨e, pt_of rfl rfl e⟩
  · cases g
theorem se_slc {a : Ex} {lo hi : Eo} (ha : SE L k a) (hl : SO L k lo) (hu : SO L k hi) : SE L k (.slc a lo hi) := by
  intro c X Y E h tk g
  simp only [chkE] at g
  split at g
  · rename_i q hq
    obtain ⟨p, rfl⟩ := asSub_of hq
    obtain ⟨x, y⟩ := q
    simp only at g
    split at g
    · rename_i q2 hq2
      obtain ⟨p2, rfl⟩ := asSlc_of hq2
      simp only [Bool.and_eq_true] at g
      obtain ⟨g1, g2, g3⟩ := g
      have e : PE X (.Subscript x (.Slice q2.1 q2.2 none p2) p) (rdE (wdo X L) Y (evE (clOf L k) (.slc a lo hi))) := pe_weak (pe_slice sl_U (ha c X Y x h tk g1).1 (hl c X Y _ h tk g2) (hu c X Y _ h tk g3)) fun σ H Q w => by
        obtain ⟨r, hs, s, m, en, p⟩ := w
        simp only [evE] at p
        refine rd_bind m en p fun d r1 H1 hs1 v x1 m1 e1 rv _ p1 => ?_
        refine rd_bind m1 e1 p1 fun d2 r2 H2 hs2 u x2 m2 e2 rv2 _ p2 => ?_
        refine rd_bind m2 e2 p2 fun d3 r3 H3 hs3 u3 x3 m3 e3 rv3 _ p3 => ?_
        subst rv2 rv3
        exact q_slice m3 (rv.mono (x2.trans x3)) p3
      exact ⟨e, pt_of rfl rfl e⟩
    · cases g
  · cases g
theorem se_fld {a : Ex} (f : String) (ha : SE L k a) : SE L k (.fld a f) := by
  intro c X Y E h tk g
  simp only [chkE] at g
  split at g
  · rename_i q hq
    obtain ⟨p, rfl⟩ := asAttr_of hq
    obtain ⟨x, y⟩ := q
    simp only [Bool.and_eq_true, beq_iff_eq] at g
    obtain ⟨g1, g2, g3, g4⟩ := g
    subst g1
    have e : PE X (.Attribute x (fN f) p) (rdE (wdo X L) Y (evE (clOf L k) (.fld a f))) := pe_weak (pe_fldU (ha c X Y x h tk g4).1 g3) fun σ H Q w => by
      obtain ⟨r, hs, s, m, en, p⟩ := w
      simp only [evE] at p
      refine rd_bind m en p fun d r1 H1 hs1 v x1 m1 e1 rv _ p1 => ?_
      exact q_fld h.cls h.noat m1 rv g2 p1
    exact ⟨e, pt_of rfl rfl e⟩
  · cases g
theorem pe_callS0 {X : Cx} {CX : CXT} {k : Nat} {f : Addr} {fd : FuncData} {ps : List Str} {sp : Sp} {E : L2.St → XK} {x : Str} {p pos : Pos} (F : FnOk X.prog X.w X.K X.mg X.base CX k f fd ps sp) (hr : Room k X.A) (hg : Gl X x) (hm : X.mg x = some (.ref f)) (hk : PySem.W.keepIn X.K (.ref f) = true) (hb : Binds X.K fd ps []) (hx : ∀ σ, PassesAt CX X σ (E σ))
    (hdb : (x == ("__debug__" : Str)) = false) : PE X (.Call (.Name x p) [] [] pos) (fun σ H Q => sp [] H Q (E σ)) := by
  refine ⟨fun pins s σ H Q I h => ?_⟩
  refine wpAny_Call_Name_kw (ld_glob I hg hm ?_ hdb)
  exact PySem.W.callWith_K0 I.kIn hk (run_fnSD (us := []) (dvs := []) (ds := []) F hr hb .nil (hx σ) I .nil h)
theorem se_call (f : String) {es : Exs} (ih : SEs L k es) : SE L k (.call f es) := by
  intro c X Y E h tk g
  simp only [chkE] at g
  split at g
  · rename_i q hq
    obtain ⟨p, p2, rfl⟩ := asCall_of hq
    obtain ⟨x, l⟩ := q
    simp only [Bool.and_eq_true, beq_iff_eq] at g
    obtain ⟨⟨g1, g2, g3⟩, g4⟩ := g
    obtain ⟨hc, hr⟩ := calm_hd h g1
    obtain ⟨k1, k2⟩ := glB_ok h g2
    obtain ⟨a, fd, ps, m1, m2, m3, m4⟩ := h.fns x f g3
    cases l with
    | nil =>
      cases es with
      | cons e0 es0 => simp only [chkEs] at g4; cases g4
      | nil =>
        have e : PE X (.Call (.Name x p) [] [] p2) (rdE (wdo X L) Y (evE (clOf L k) (.call f .nil))) := pe_weak (pe_callS0 m3 hr k1 m1 m2 m4 (E := WE Y) (passAt tk) k2) fun σ H Q w => by
          obtain ⟨r, hs, s, m, en, p⟩ := w
          simp only [evE, evs, R.bind_ok] at p
          exact ⟨r, hs, [], m, .nil, post_E p⟩
        exact ⟨e, pt_of rfl rfl e⟩
    | cons y l =>
      have hst := (chkEs_len g4).2
      rw [List.all_cons, Bool.and_eq_true] at hst
      have e : PE X (.Call (.Name x p) (y :: l) [] p2) (rdE (wdo X L) Y (evE (clOf L k) (.call f es))) := pe_weak (pe_callS m3 hr k1 m1 m2 m4 (E := WE Y) (passAt tk) (ih c X Y (y :: l) h tk g4).1 k2 (star_cons hst.1) (star_none hst.2)) fun σ H Q w => by
        obtain ⟨r, hs, s, m, en, p⟩ := w
        simp only [evE] at p
        refine rd_bind m en p fun ds r1 H1 hs1 vs x1 m1 e1 rv _ p1 => ?_
        exact ⟨r1, hs1, ds, m1, rv, post_E p1⟩
      exact ⟨e, pt_of rfl rfl e⟩
  · cases g
theorem se_b (f : Bi) {es : Exs} (ih : SEs L k es) : SE L k (.b f es) := by
  intro c X Y E h tk g
  simp only [chkE] at g
  split at g
  · rename_i q hq
    obtain ⟨p, p2, rfl⟩ := asCall_of hq
    obtain ⟨x, l⟩ := q
    simp only [Bool.and_eq_true, beq_iff_eq] at g
    obtain ⟨⟨g1, g0, g2, g3⟩, g4, g5⟩ := g
    obtain ⟨hc, hr⟩ := calm_hd h g1
    obtain ⟨k1, k2⟩ := glB_ok h g2
    subst g3
    cases l with
    | nil => cases g5
    | cons y l =>
      have hst := (chkEs_len g4).2
      rw [List.all_cons, Bool.and_eq_true] at hst
      have e : PE X (.Call (.Name (Str.ofString f.val.1) p) (y :: l) [] p2) (rdE (wdo X L) Y (evE (clOf L k) (.b f es))) := pe_weak (pe_bi h hc (ih c X Y (y :: l) h tk g4).1 hst.1 hst.2 f g0 k1) fun σ H Q w => by
        obtain ⟨r, hs, s, m, en, p⟩ := w
        simp only [evE] at p
        refine rd_bind m en p fun ds r1 H1 hs1 vs x1 m1 e1 rv _ p1 => ?_
        exact q_bi m1 rv f p1
      exact ⟨e, pt_of rfl rfl e⟩
  · cases g
theorem bmD_some {α : Type} {f : Bm} {x : D} {g : Hs → R α} {h : Hs} {W : Wd} {Y : WX} {σ : L2.St} {r : List Addr} {H : Hp} {β : Type} {rel : List Addr → Hp → α → β → Prop} {Q : β → Hp → Prop} (p : Post rel W Y σ r H (bmD f x g h) Q) : bmK f x h = true ∧ Post rel W Y σ r H (g h) Q := by
  unfold bmD at p
  split at p
  · rename_i hk; exact ⟨hk, p⟩
  · exact False.elim p
theorem few_ok {X : Cx} {l : List Expr} {pos : Pos} (h1 : l.all noStar = true) (h2 : few l = true) : ((backTo pos (starEach l X.env)).all (fun x => !x.1) && (backToKw pos (keywordEach [] X.env)).all (fun x => x.1.isSome)
      && decide (l.length + ([] : List Keyword).length + (if ([] : List Keyword).isEmpty then 0 else 1) < 30)) = true := by
  rw [star_few h1]
  have h3 : l.length ≤ 20 := of_decide_eq_true h2
  have h4 : decide (l.length + ([] : List Keyword).length + (if ([] : List Keyword).isEmpty then 0 else 1) < 30) = true := decide_eq_true (by simp; omega)
  rw [h4]
  rfl
theorem se_bm (f : Bm) {a : Ex} {es : Exs} (ha : SE L k a) (ih : SEs L k es) : SE L k (.bm f a es) := by
  intro c X Y E h tk g
  simp only [chkE] at g
  split at g
  · rename_i q hq
    obtain ⟨p, p2, rfl, hln⟩ := asMeth_of hq
    obtain ⟨x, nm, l⟩ := q
    simp only [Bool.and_eq_true, beq_iff_eq] at g
    obtain ⟨⟨g1, g2⟩, g3, g4, g5⟩ := g
    subst g1
    have hu : X.A.units + 152 < cLine := by have := h.un; omega
    obtain ⟨s1, s2, s3⟩ := bm_slot f
    have hx := (ha c X Y x h tk g3).1
    have hl := (ih c X Y l h tk g4).1
    have hst := (chkEs_len g4).2
    have e : PE X (.Call (.Attribute x (Str.ofString f.name) p) l [] p2) (rdE (wdo X L) Y (evE (clOf L k) (.bm f a es))) := by
      cases l with
      | nil =>
        refine pe_weak (pe_bm0 s1 s2 s3 (mt_bm hu f) hx (plainB_ok g2) hln) fun σ H Q w => ?_
        obtain ⟨r, hs, s, m, en, p⟩ := w
        simp only [evE] at p
        refine rd_bind m en p fun d r1 H1 hs1 v x1 m1 e1 rv _ p1 => ?_
        obtain ⟨hk, p1⟩ := bmD_some p1
        refine ⟨q_bm_ty m1 rv f hk, ?_⟩
        cases es with
        | cons _ _ => simp [chkEs] at g4
        | nil => exact q_bm m1 rv .nil f p1
      | cons y l =>
        have hst2 := hst
        rw [List.all_cons, Bool.and_eq_true] at hst2
        refine pe_weak (pe_bm s1 s2 s3 (mt_bm hu f) hx hl (plainB_ok g2) (few_ok hst g5) hln (star_cons hst2.1) (star_none hst2.2)) fun σ H Q w => ?_
        obtain ⟨r, hs, s, m, en, p⟩ := w
        simp only [evE] at p
        refine rd_bind m en p fun d r1 H1 hs1 v x1 m1 e1 rv _ p1 => ?_
        obtain ⟨hk, p1⟩ := bmD_some p1
        refine ⟨q_bm_ty m1 rv f hk, ?_⟩
        refine rd_bind m1 e1 p1 fun ds r2 H2 hs2 vs x2 m2 e2 rv2 _ p2 => ?_
        exact q_bm m2 (rv.mono x2) rv2 f p2
    exact ⟨e, pt_of rfl rfl e⟩
  · cases g
end
end Q

/-! expressions: isinstance, comprehensions, lists of them, walks; the theorem -/
namespace Q
open PySem PySem.Spec PyProof.Rows L2

section
variable {L : Wl} {k : Nat}
theorem tyB1_ok {X : Cx} {c : Ck} (h : XOk L k c X) {t : Ty} {e : Expr} (g : tyB1 c t e = true) : PE X e (tC (t.v (wdo X L))) ∧ tyOk (wdo X L) t := by
  unfold tyB1 at g
  split at g
  · rename_i x hx
    obtain ⟨p, rfl⟩ := asName_of hx
    rw [Bool.and_eq_true] at g
    obtain ⟨k1, k2⟩ := glB_ok h g.1
    have g2 := g.2
    cases t <;> simp only [beq_iff_eq] at g2 <;> first | subst g2 | skip
    case tint => exact ⟨pe_bltn k1 (h.blt "int" (by decide)) (by decide +kernel) (v := .ty "int") (u := .type "int") rfl (by decide +kernel) k2, trivial⟩
    case tbool => exact ⟨pe_bltn k1 (h.blt "bool" (by decide)) (by decide +kernel) (v := .ty "bool") (u := .type "bool") rfl (by decide +kernel) k2, trivial⟩
    case tstr => exact ⟨pe_bltn k1 (h.blt "str" (by decide)) (by decide +kernel) (v := .ty "str") (u := .type "str") rfl (by decide +kernel) k2, trivial⟩
    case ttuple => exact ⟨pe_bltn k1 (h.blt "tuple" (by decide)) (by decide +kernel) (v := .ty "tuple") (u := .type "tuple") rfl (by decide +kernel) k2, trivial⟩
    case tlist => exact ⟨pe_bltn k1 (h.blt "list" (by decide)) (by decide +kernel) (v := .ty "list") (u := .type "list") rfl (by decide +kernel) k2, trivial⟩
    case tval => exact ⟨pe_bltn k1 (h.blt "ValueError" (by decide)) (by decide +kernel) (v := .ty "ValueError") (u := .type "ValueError") rfl (by decide +kernel) k2, trivial⟩
    case own d => exact ⟨pe_glob k1 (h.cns x d g2).2.1 (v := .ref (L.C d)) rfl k2, (h.cns x d g2).1⟩
  · cases g
def tTys (W : Wd) (ts : List Ty) : TA := fun _ H Q => Q (ts.map fun t => t.v W) H
theorem tyBs_ok {X : Cx} {c : Ck} (h : XOk L k c X) : ∀ {ts : List Ty} {es : List Expr}, tyBs c ts es = true → PA X es (tTys (wdo X L) ts) ∧ ts.length = es.length ∧ ∀ y ∈ ts, tyOk (wdo X L) y
  | [], [], _ => ⟨pa_weak pa_nil fun _ _ _ w => w, rfl, fun _ h => nomatch h⟩
  | [], _ :: _, g => nomatch g
  | _ :: _, [], g => nomatch g
  | t :: ts, e :: es, g => by
    simp only [tyBs, Bool.and_eq_true] at g
    obtain ⟨g1, g2, g3⟩ := g
    obtain ⟨r1, r2, r3⟩ := tyBs_ok h g3
    exact ⟨pa_weak (pa_cons (tyB1_ok h g2).1 r1 (star_cons g1)) fun _ _ _ w => w, by simp [r2], fun y hy => by
      rcases List.mem_cons.mp hy with e | e
      · subst e; exact (tyB1_ok h g2).2
      · exact r3 y e⟩
theorem se_isi {a : Ex} (ts : List Ty) (ha : SE L k a) : SE L k (.isi a ts) := by
  intro c X Y E h tk g
  simp only [chkE] at g
  split at g
  · rename_i x e t hq
    obtain ⟨p, p2, rfl⟩ := asCall_of hq
    simp only [Bool.and_eq_true, beq_iff_eq] at g
    obtain ⟨⟨g1, g2⟩, ⟨g3, g4⟩, g5, g6⟩ := g
    obtain ⟨k1, k2⟩ := glB_ok h g1
    subst g2
    have hx := (ha c X Y e h tk g5).1
    have mk : ∀ {tt : TE}, PE X t tt → PE X (.Call (.Name ("isinstance" : Str) p) [e, t] [] p2) (tCB (RIsi X.K) (tCons (rdE (wdo X L) Y (evE (clOf L k) a)) (tCons tt tNil))) := fun ht =>
      pe_callB call_isiU k1 (h.blt "isinstance" (by decide)) (by decide +kernel) (pa_cons hx (pa_cons ht pa_nil (star_cons g4)) (star_cons g3)) (by decide +kernel) k2 (star_cons g3) (star_none (by simp [g4]))
    have e : PE X (.Call (.Name ("isinstance" : Str) p) [e, t] [] p2) (rdE (wdo X L) Y (evE (clOf L k) (.isi a ts))) := by
      by_cases h1 : ∃ y, ts = [y]
      · obtain ⟨y, rfl⟩ := h1
        simp only [tyB] at g6
        refine pe_weak (mk (tyB1_ok h g6).1) fun σ H Q w => ?_
        obtain ⟨r, hs, s, m, en, p⟩ := w
        simp only [evE] at p
        refine rd_bind m en p fun d r1 H1 hs1 v x1 m1 e1 rv _ p1 => ?_
        obtain ⟨b, hb, p1⟩ := pd_opt p1
        obtain ⟨tv, t1, t2⟩ := ty_at h.cls m1 rv (fun ds z => by subst z; cases rv)
        simp only [isTys] at hb
        split at hb
        · rename_i a1 c1 ha1 hc1
          cases hb
          cases hc1
          rw [Bool.or_false] at p1
          exact .inl ⟨v, y.v _, tv, y.val _, a1, rfl, y.cls _, t1, t2 y a1 (tyB1_ok h g6).2 ha1, pd_ok p1 m1 (.bl _)⟩
        · cases hb
      · have g7 : (match asTup t with
          | some l => tyBs c ts l && decide (l.length ≤ 100)
          | none => false) = true := by
          unfold tyB at g6
          split at g6
          · rename_i y; exact absurd ⟨y, rfl⟩ h1
          · exact g6
        split at g7
        · rename_i l hl
          obtain ⟨j, p3, rfl⟩ := asTup_of hl
          rw [Bool.and_eq_true, decide_eq_true_eq] at g7
          obtain ⟨q1, q2, q3⟩ := tyBs_ok h g7.1
          refine pe_weak (mk (pe_tup q1)) fun σ H Q w => ?_
          obtain ⟨r, hs, s, m, en, p⟩ := w
          simp only [evE] at p
          refine rd_bind m en p fun d r1 H1 hs1 v x1 m1 e1 rv _ p1 => ?_
          obtain ⟨b, hb, p1⟩ := pd_opt p1
          refine ⟨by rw [List.length_map, q2, sl_eq]; exact Nat.le_trans g7.2 (by decide), fun tp hp => ?_⟩
          have xn := ext_new (r := r1) hp (.tup (ts.map fun t => t.v (wdo X L)))
          have mn := m1.new hp (.tup (ts.map fun t => t.v (wdo X L)))
          obtain ⟨tv, t1, t2⟩ := ty_at h.cls mn (rv.mono xn) (fun ds z => by subst z; cases rv)
          exact .inr ⟨v, tp, _, tv, _, b, rfl, upd_same, paired_cls _ ts, t1, isTys_kit t2 q3 hb, p1 r1 _ _ xn mn (.bl b)⟩
        · cases g7
    exact ⟨e, pt_of rfl rfl e⟩
  · cases g
theorem pe_comp {e : Ex} {tg : Tg} {it : It} {q : Eo} {own : List Nat} (he : SE L k e) (hi : SI L k it) (hq : SC L k q) {c : Ck} {X : Cx} {Y : WX} {elt T iter : Expr} {ifs : List Expr} {sc : Scope} (h : XOk L k c X) (tk : Takes X Y)
    (g : ((!c.hot && (noSet iter && (blkB c sc own && tgIn own tg))) && (chkI c it T iter && (tgB (c.blk sc) tg T && (chkC (c.blk sc) q ifs && chkE (c.blk sc) e elt)))) = true) :
    (X.calm = true ∧ tgIn own tg = true) ∧ PI X T iter (rd (WkR (wdo X L)) (wdo X L) Y (walk (clOf L k) it)) ∧ BlkOk X.N X.env.scope sc (ownL c own) ∧
    (∀ (s : Shared) (H : Hp) (C : Addr) (cl : List (Str × Addr)) (fp : List Addr), PG (X.blk s H sc (compEnvC sc cl C X.env) fp) T (tgG X.K tg)) ∧
    (∀ (s : Shared) (H : Hp) (C : Addr) (cl : List (Str × Addr)) (fp : List Addr), PTs (X.blk s H sc (compEnvC sc cl C X.env) fp) ifs (rdT (wdo X L) noX (evC (clOf L k) q))) ∧
    (∀ (s : Shared) (H : Hp) (C : Addr) (cl : List (Str × Addr)) (fp : List Addr), PE (X.blk s H sc (compEnvC sc cl C X.env) fp) elt (rdE (wdo X L) noX (evE (clOf L k) e))) ∧ ∀ x, foldedSetIterable iter X.env x = pure x := by
  simp only [Bool.and_eq_true] at g
  obtain ⟨⟨g1, g2, g3, g4⟩, g5, g6, g7, g8⟩ := g
  obtain ⟨hc, _⟩ := calm_hd h g1
  exact ⟨⟨hc, g4⟩, hi c X Y T iter h tk g5, blkB_ok h g3, fun s H C cl fp => tgB_ok (X := X.blk s H sc (compEnvC sc cl C X.env) fp) (blk_ok h) hc g6,
    fun s H C cl fp => hq (c.blk sc) (X.blk s H sc (compEnvC sc cl C X.env) fp) noX ifs (blk_ok h) takes0 g7, fun s H C cl fp => (he (c.blk sc) (X.blk s H sc (compEnvC sc cl C X.env) fp) noX elt (blk_ok h) takes0 g8).1, folded_ok g2⟩
theorem own_snd (c : Ck) : ∀ own : List Nat, (ownL c own).map (·.2) = own := by
  intro own
  unfold ownL
  rw [List.map_map]
  exact List.map_id own
theorem se_comp {e : Ex} {tg : Tg} {it : It} {q : Eo} {own : List Nat} (he : SE L k e) (hi : SI L k it) (hq : SC L k q) : SE L k (.comp e tg it q own) := by
  intro c X Y E h tk g
  simp only [chkE] at g
  split at g
  · rename_i r hr
    obtain ⟨p, rfl⟩ := asLc_of hr
    obtain ⟨elt, T, iter, ifs, sc⟩ := r
    obtain ⟨⟨hc, ht⟩, h1, h2, h3, h4, h5, h6⟩ := pe_comp he hi hq h tk g
    have e0 := pe_lc (pos := p) hc h.nd h1 h2 h3 h4 h5 h6
    rw [own_snd] at e0
    have e : PE X (.ListComp elt [⟨T, iter, ifs, 0⟩] sc p) (rdE (wdo X L) Y (evE (clOf L k) (.comp e tg it q own))) := pe_weak e0 fun σ H Q w => by
      simp only [evE] at w
      exact comp_ok ht w
    exact ⟨e, pt_of rfl rfl e⟩
  · cases g

/-! ### lists of expressions -/
theorem ses_nil : SEs L k .nil := by
  intro c X Y l h tk g
  simp only [chkEs, List.isEmpty_iff] at g
  subst g
  refine ⟨pa_weak pa_nil fun σ H Q w => ?_, fun z => absurd rfl z⟩
  obtain ⟨r, hs, s, m, en, p⟩ := w
  simp only [evs] at p
  exact p r H [] (Ext.refl _ _) m .nil
theorem andD_bad {α : Type} (x : D) (f : Hs → R D) (g : D → Hs → R α) (h : Hs) : (andD x f h).bind g = match x with
    | .bl true => (f h).bind g
    | .bl false => g (.bl false) h
    | _ => .bad := by
  cases x <;> first | rfl | (rename_i b; cases b <;> rfl)
theorem orD_bad {α : Type} (x : D) (f : Hs → R D) (g : D → Hs → R α) (h : Hs) : (orD x f h).bind g = match x with
    | .bl true => g (.bl true) h
    | .bl false => (f h).bind g
    | _ => .bad := by
  cases x <;> first | rfl | (rename_i b; cases b <;> rfl)
/-- a truth, then one of two -/
theorem bl_then {W : Wd} {Y : WX} {σ : L2.St} {r : List Addr} {H : Hp} {hs : Hs} {s : Ev} {α β : Type} {rel : List Addr → Hp → α → β → Prop} {P : β → Hp → Prop} {f : Ev → Hs → R D} {g : Bool → Hs → R α} {K : Bool → Hp → Prop} (m : Mt W r H hs) (en : EnvR W r H s σ)
    (p : Post rel W Y σ r H ((f s hs).bind fun x h => match x with
      | .bl true => g true h
      | .bl false => g false h
      | _ => .bad) P) (kk : ∀ b r1 H1 hs1, Ext r H r1 H1 → Mt W r1 H1 hs1 → EnvR W r1 H1 s σ → Post rel W Y σ r1 H1 (g b hs1) P → K b H1) : rdT W Y (fun s h => (f s h).bind truR) σ H K := by
  refine test_then (rel := rel) (P := P) (g := fun x b h => match x with
    | .bl true => g true h
    | .bl false => g false h
    | _ => .bad) m en ?_ fun d b r1 H1 hs1 x1 m1 e1 hb p1 => ?_
  · cases q : f s hs with
    | ok d h1 =>
      rw [q] at p
      have p : Post rel W Y σ r H (match (generalizing := false) d with
        | .bl true => g true h1
        | .bl false => g false h1
        | _ => .bad) P := p
      show Post rel W Y σ r H (match (generalizing := false) tru h1 d with
        | some b => (match (generalizing := false) d with
          | .bl true => g true h1
          | .bl false => g false h1
          | _ => .bad)
        | none => .bad) P
      cases d <;> first | exact False.elim p | exact p
    | exc _ _ _ => rw [q] at p; exact p
    | bad => rw [q] at p; exact False.elim p
  · cases d <;> first | exact False.elim p1 | skip
    rename_i t
    cases hb
    refine kk _ r1 H1 hs1 x1 m1 e1 ?_
    cases b <;> exact p1
theorem andD_id (x : D) (f : Hs → R D) (h : Hs) : andD x f h = match x with
    | .bl true => f h
    | .bl false => .ok (.bl false) h
    | _ => .bad := by
  cases x <;> first | rfl | (rename_i b; cases b <;> rfl)
theorem orD_id (x : D) (f : Hs → R D) (h : Hs) : orD x f h = match x with
    | .bl true => .ok (.bl true) h
    | .bl false => f h
    | _ => .bad := by
  cases x <;> first | rfl | (rename_i b; cases b <;> rfl)
theorem ses_cons {e : Ex} {es : Exs} (he : SE L k e) (ih : SEs L k es) : SEs L k (.cons e es) := by
  intro c X Y l h tk g
  cases l with
  | nil => cases g
  | cons x l =>
    simp only [chkEs, Bool.and_eq_true] at g
    obtain ⟨g1, g2, g3⟩ := g
    obtain ⟨h1, h2⟩ := he c X Y x h tk g2
    obtain ⟨i1, i2⟩ := ih c X Y l h tk g3
    refine ⟨pa_weak (pa_cons h1 i1 (star_cons g1)) fun σ H Q w => ?_, fun _ pos => ?_⟩
    · obtain ⟨r, hs, s, m, en, p⟩ := w
      simp only [evs] at p
      refine rd_bind m en p fun d r1 H1 hs1 v x1 m1 e1 rv _ p1 => ?_
      refine rd_bind m1 e1 p1 fun ds r2 H2 hs2 vs x2 m2 e2 rv2 _ p2 => ?_
      exact p2 r2 H2 _ (Ext.refl _ _) m2 (.cons (rv.mono x2) rv2)
    · cases es with
      | nil =>
        simp only [chkEs, List.isEmpty_iff] at g3
        subst g3
        exact ⟨⟨pe_one (pe_weak h1 fun σ H Q w => w), pw_and1 (pt_weak h2 fun σ H Q w => w)⟩, pe_one (pe_weak h1 fun σ H Q w => w), pw_or1 (pt_weak h2 fun σ H Q w => w)⟩
      | cons f fs =>
        cases l with
        | nil => cases g3
        | cons y l =>
          obtain ⟨⟨j1, j2⟩, j3, j4⟩ := i2 (fun z => nomatch z) pos
          refine ⟨⟨pe_weak (pe_and h1 j1) fun σ H Q w => ?_, pw_weak (pw_and h2 j2) fun σ H Q w => ?_⟩, pe_weak (pe_or h1 j3) fun σ H Q w => ?_, pw_weak (pw_or h2 j4) fun σ H Q w => ?_⟩
          · obtain ⟨r, hs, s, m, en, p⟩ := w
            simp only [evAnd] at p
            refine rd_bind m en p fun d r1 H1 hs1 v x1 m1 e1 rv _ p1 => ?_
            cases d <;> first | exact False.elim p1 | skip
            rename_i b _
            cases rv
            cases b with
            | true => exact ⟨true, rfl, r1, hs1, s, m1, e1, p1⟩
            | false => exact ⟨false, rfl, pd_ok p1 m1 (.bl false)⟩
          · obtain ⟨r, hs, s, m, en, p⟩ := w
            simp only [evAnd, bind_assoc, andD_bad] at p
            refine bl_then (rel := fun _ _ (a b : Bool) => a = b) (P := Q) (g := fun b h => if b then (evAnd (clOf L k) (.cons f fs) s h).bind truR else truR (.bl false) h) m en ?_ fun b r1 H1 hs1 x1 m1 e1 p1 => ?_
            · exact p
            · cases b with
              | true => exact ⟨r1, hs1, s, m1, e1, p1⟩
              | false => exact p1 r1 H1 _ (Ext.refl _ _) m1 rfl
          · obtain ⟨r, hs, s, m, en, p⟩ := w
            simp only [evOr] at p
            refine rd_bind m en p fun d r1 H1 hs1 v x1 m1 e1 rv _ p1 => ?_
            cases d <;> first | exact False.elim p1 | skip
            rename_i b _
            cases rv
            cases b with
            | true => exact ⟨true, rfl, pd_ok p1 m1 (.bl true)⟩
            | false => exact ⟨false, rfl, r1, hs1, s, m1, e1, p1⟩
          · obtain ⟨r, hs, s, m, en, p⟩ := w
            simp only [evOr, bind_assoc, orD_bad] at p
            refine bl_then (rel := fun _ _ (a b : Bool) => a = b) (P := Q) (g := fun b h => if b then truR (.bl true) h else (evOr (clOf L k) (.cons f fs) s h).bind truR) m en ?_ fun b r1 H1 hs1 x1 m1 e1 p1 => ?_
            · exact p
            · cases b with
              | true => exact p1 r1 H1 _ (Ext.refl _ _) m1 rfl
              | false => exact ⟨r1, hs1, s, m1, e1, p1⟩
/-! ### parts, tests, walks -/
theorem so_none : SO L k .none := by
  intro c X Y E h tk g
  simp only [chkO, Option.isNone_iff_eq_none] at g
  subst g
  refine po_weak po_none fun σ H Q w => ?_
  obtain ⟨r, hs, s, m, en, p⟩ := w
  simp only [evO] at p
  exact p r H _ (Ext.refl _ _) m rfl
theorem so_some {e : Ex} (he : SE L k e) : SO L k (.some e) := by
  intro c X Y E h tk g
  cases E with
  | none => cases g
  | some x =>
    refine po_weak (po_some (he c X Y x h tk g).1) fun σ H Q w => ?_
    obtain ⟨r, hs, s, m, en, p⟩ := w
    simp only [evO] at p
    refine rd_bind m en p fun d r1 H1 hs1 v x1 m1 e1 rv _ p1 => ?_
    cases d <;> first | exact False.elim p1 | skip
    cases rv
    exact ⟨_, rfl, p1 r1 H1 _ (Ext.refl _ _) m1 rfl⟩
theorem sc_none : SC L k .none := by
  intro c X Y l h tk g
  simp only [chkC, List.isEmpty_iff] at g
  subst g
  refine pts_weak pts_nil fun σ H Q w => ?_
  obtain ⟨r, hs, s, m, en, p⟩ := w
  simp only [evC] at p
  exact p r H _ (Ext.refl _ _) m rfl
theorem sc_some {e : Ex} (he : SE L k e) : SC L k (.some e) := by
  intro c X Y l h tk g
  simp only [chkC] at g
  split at g
  · rename_i x
    exact pts_weak (pts_one (he c X Y x h tk g).2) fun σ H Q w => w
  · cases g
theorem walkOf_some {X : Cx} {W : Wd} {Y : WX} {σ : L2.St} {r : List Addr} {H : Hp} {hs : Hs} {o : Option Walk} {Q : L2.It → Hp → Prop} (p : Post (WkR W) W Y σ r H (walkOf o hs) Q) : ∃ w, o = some w ∧ Post (WkR W) W Y σ r H (.ok w hs) Q := by
  cases o with
  | none => exact False.elim p
  | some w => exact ⟨w, rfl, p⟩
theorem si_sq {e : Ex} (he : SE L k e) : SI L k (.sq e) := by
  intro c X Y T E h tk g
  simp only [chkI] at g
  refine pi_weak (pi_sq (he c X Y E h tk g).1) fun σ H Q w => ?_
  obtain ⟨r, hs, s, m, en, p⟩ := w
  simp only [walk] at p
  refine rd_bind m en p fun d r1 H1 hs1 v x1 m1 e1 rv _ p1 => ?_
  obtain ⟨w, hw, p2⟩ := walkOf_some (X := X) p1
  cases d <;> first | (cases hw; done) | skip
  case tup ds =>
    cases rv with | tup t es =>
    cases hw
    exact ⟨_, rfl, .inr ⟨_, t.sq, p2 r1 H1 _ (Ext.refl _ _) m1 (wk_tup t es)⟩⟩
  case ref n =>
    cases rv with | ref ha =>
    obtain ⟨xs, _, h1, _⟩ := walk_ref hw
    obtain ⟨us, g1, g2⟩ := list_now m1 ha h1
    exact ⟨_, rfl, .inl ⟨us, g1, p2 r1 H1 _ (Ext.refl _ _) m1 (wk_list ha hw)⟩⟩
section
variable {W : Wd} {Y : WX} {σ : L2.St} {r : List Addr} {H : Hp} {hs : Hs} {Q : L2.It → Hp → Prop}
theorem rng1_some {d : D} (p : Post (WkR W) W Y σ r H (rng1 d hs) Q) : ∃ j, d = .int j ∧ small j ∧ Post (WkR W) W Y σ r H (.ok ⟨rangeL 0 j.toNat, fun _ => True⟩ hs) Q := by
  unfold rng1 at p
  split at p
  · rename_i j
    split at p
    · rename_i hj; exact ⟨j, rfl, hj, p⟩
    · exact False.elim p
  · exact False.elim p
theorem rng2_some {d e : D} (p : Post (WkR W) W Y σ r H (rng2 d e hs) Q) : ∃ i j, d = .int i ∧ e = .int j ∧ (small i ∧ small j) ∧ Post (WkR W) W Y σ r H (.ok ⟨rangeL i (j - i).toNat, fun _ => True⟩ hs) Q := by
  unfold rng2 at p
  split at p
  · rename_i i j
    split at p
    · rename_i hj; exact ⟨i, j, rfl, rfl, hj, p⟩
    · exact False.elim p
  · exact False.elim p
theorem rng3_some {d e f : D} (p : Post (WkR W) W Y σ r H (rng3 d e f hs) Q) : ∃ i j c, d = .int i ∧ e = .int j ∧ f = .int c ∧ (small i ∧ small j ∧ 0 < c ∧ c < 1000) ∧ Post (WkR W) W Y σ r H (.ok ⟨rangeC i c ((j - i + c - 1) / c).toNat, fun _ => True⟩ hs) Q := by
  unfold rng3 at p
  split at p
  · rename_i i j c
    split at p
    · rename_i hj; exact ⟨i, j, c, rfl, rfl, rfl, hj, p⟩
    · exact False.elim p
  · exact False.elim p
end
theorem si_r1 {a : Ex} (ha : SE L k a) : SI L k (.r1 a) := by
  intro c X Y T E h tk g
  simp only [chkI] at g
  split at g
  · rename_i x q hq
    obtain ⟨p, p2, rfl⟩ := asCall_of hq
    simp only [Bool.and_eq_true, beq_iff_eq] at g
    obtain ⟨⟨g1, g2⟩, g3, g4⟩ := g
    subst g2
    refine pi_weak (pi_range1 (glB_ok h g1).1 (h.blt "range" (by decide)) (pa_cons (ha c X Y q h tk g4).1 pa_nil (star_cons g3)) (star_cons g3)) fun σ H Q w => ?_
    obtain ⟨r, hs, s, m, en, p⟩ := w
    simp only [walk] at p
    refine rd_bind m en p fun d r1 H1 hs1 v x1 m1 e1 rv _ p1 => ?_
    obtain ⟨j, rfl, hj, p2⟩ := rng1_some p1
    cases rv
    exact ⟨j, rfl, hj.1, hj.2, p2 r1 H1 _ (Ext.refl _ _) m1 (wk_rng 0 _)⟩
  · cases g
theorem si_r2 {a b : Ex} (ha : SE L k a) (hb : SE L k b) : SI L k (.r2 a b) := by
  intro c X Y T E h tk g
  simp only [chkI] at g
  split at g
  · rename_i x q q2 hq
    obtain ⟨p, p2, rfl⟩ := asCall_of hq
    simp only [Bool.and_eq_true, beq_iff_eq] at g
    obtain ⟨⟨g1, g2⟩, ⟨g3, g4⟩, g5, g6⟩ := g
    subst g2
    have hs1 : starEach [q, q2] X.env = [(false, eval q X.env), (false, eval q2 X.env)] := by rw [star_cons g3, star_cons g4]; rfl
    refine pi_weak (pi_range2 (glB_ok h g1).1 (h.blt "range" (by decide)) (pa_cons (ha c X Y q h tk g5).1 (pa_cons (hb c X Y q2 h tk g6).1 pa_nil (star_cons g4)) (star_cons g3)) hs1 (star_cons g4)) fun σ H Q w => ?_
    obtain ⟨r, hs, s, m, en, p⟩ := w
    simp only [walk] at p
    refine rd_bind m en p fun d r1 H1 hs1 v x1 m1 e1 rv _ p1 => ?_
    refine rd_bind m1 e1 p1 fun d2 r2 H2 hs2 v2 x2 m2 e2 rv2 _ p2 => ?_
    obtain ⟨i, j, rfl, rfl, hj, p3⟩ := rng2_some p2
    cases rv; cases rv2
    exact ⟨i, j, rfl, ⟨hj.1.1, hj.1.2, hj.2.1, hj.2.2⟩, p3 r2 H2 _ (Ext.refl _ _) m2 (wk_rng i _)⟩
  · cases g
theorem rangeC_size {i j c : Int} (h : 0 < c) : Builtin.Range.rangeSize i j c = (((j - i + c - 1) / c).toNat : Int) := by
  unfold Builtin.Range.rangeSize
  rw [if_pos h]
  by_cases l : i < j
  · rw [if_pos l]
    have e : j - i + c - 1 = (j - i - 1) + 1 * c := by omega
    rw [e, Int.add_mul_ediv_right _ _ (by omega)]
    have := Int.ediv_nonneg (show 0 ≤ j - i - 1 by omega) (show 0 ≤ c by omega)
    omega
  · rw [if_neg l]
    by_cases z : j - i + c - 1 < 0
    · have := Int.ediv_neg_of_neg_of_pos z h
      omega
    · have := Int.ediv_eq_zero_of_lt (show 0 ≤ j - i + c - 1 by omega) (show j - i + c - 1 < c by omega)
      omega
theorem rgC_of {i j c : Int} (hi : small i) (hj : small j) (h : 0 < c) (h2 : c < 1000) : RgC i j c ((j - i + c - 1) / c).toNat := by
  refine ⟨by omega, by omega, ?_, rangeC_size h⟩
  obtain ⟨i0, i1⟩ := hi
  obtain ⟨j0, j1⟩ := hj
  unfold Builtin.Range.small
  rw [rangeC_size h]
  have b : ((j - i + c - 1) / c).toNat ≤ (j - i + c - 1).toNat := by
    by_cases z : j - i + c - 1 < 0
    · have := Int.ediv_neg_of_neg_of_pos z h
      omega
    · have := Int.ediv_le_self c (show 0 ≤ j - i + c - 1 by omega)
      omega
  have b2 : j - i ≤ 0 → ((j - i + c - 1) / c).toNat = 0 := fun q => by
    by_cases z : j - i + c - 1 < 0
    · have := Int.ediv_neg_of_neg_of_pos z h
      omega
    · have := Int.ediv_eq_zero_of_lt (show 0 ≤ j - i + c - 1 by omega) (show j - i + c - 1 < c by omega)
      omega
  have b3 : 0 < j - i → ((j - i + c - 1) / c) ≤ j - i := fun q => by
    apply Int.le_of_lt_add_one
    apply Int.ediv_lt_of_lt_mul h
    have : 0 ≤ (j - i) * (c - 1) := Int.mul_nonneg (by omega) (by omega)
    rw [Int.mul_sub, Int.mul_one] at this
    rw [Int.add_mul, Int.one_mul]
    omega
  generalize (j - i + c - 1) / c = q at *
  simp only [Builtin.Range.rangeFitsLong, Bool.and_eq_true, Bool.or_eq_true, decide_eq_true_eq, beq_iff_eq, gt_iff_lt, h, if_true]
  by_cases z : j - i ≤ 0
  · have := b2 z
    omega
  · have := b3 (by omega)
    omega
theorem si_r3 {a b d : Ex} (ha : SE L k a) (hb : SE L k b) (hd : SE L k d) : SI L k (.r3 a b d) := by
  intro c X Y T E h tk g
  simp only [chkI] at g
  split at g
  · rename_i x q q2 q3 hq
    obtain ⟨p, p2, rfl⟩ := asCall_of hq
    simp only [Bool.and_eq_true, beq_iff_eq] at g
    obtain ⟨⟨g1, g2⟩, ⟨g3, g4, g5⟩, g6, g7, g8⟩ := g
    subst g2
    refine pi_weak (pi_range3 (glB_ok h g1).1 (h.blt "range" (by decide)) (pa_cons (ha c X Y q h tk g6).1 (pa_cons (hb c X Y q2 h tk g7).1 (pa_cons (hd c X Y q3 h tk g8).1 pa_nil (star_cons g5)) (star_cons g4)) (star_cons g3)) (star_cons g3) (star_none (by simp [g4, g5]))) fun σ H Q w => ?_
    obtain ⟨r, hs, s, m, en, p⟩ := w
    simp only [walk] at p
    refine rd_bind m en p fun d r1 H1 hs1 v x1 m1 e1 rv _ p1 => ?_
    refine rd_bind m1 e1 p1 fun d2 r2 H2 hs2 v2 x2 m2 e2 rv2 _ p2 => ?_
    refine rd_bind m2 e2 p2 fun d3 r3 H3 hs3 v3 x3 m3 e3 rv3 _ p3 => ?_
    obtain ⟨i, j, f, rfl, rfl, rfl, hj, p4⟩ := rng3_some p3
    cases rv; cases rv2; cases rv3
    exact ⟨i, j, f, _, rfl, rgC_of hj.1 hj.2.1 hj.2.2.1 hj.2.2.2, p4 r3 H3 _ (Ext.refl _ _) m3 (wk_rngC i f _)⟩
  · cases g
end
end Q

/-! expressions: things made, methods called -/
namespace Q
open PySem PySem.Spec PyProof.Rows L2
theorem zipF_none : ∀ {fs : List String} {vs : List V} {m : String}, (∀ f ∈ fs, f ≠ m) → (zipF fs vs).lookup (fN m) = none
  | [], _, _, _ => by simp [zipF]
  | _ :: _, [], _, _ => by simp [zipF]
  | f :: fs, v :: vs, m, h => by
    unfold zipF
    rw [List.lookup_cons]
    have e : (fN m == fN f) = false := by
      rw [beq_eq_false_iff_ne]
      intro e
      exact h f List.mem_cons_self (fN_inj e).symm
    rw [e]
    exact zipF_none fun g hg => h g (List.mem_cons_of_mem _ hg)
theorem flds_known (c : Cn) : ∀ f ∈ c.flds, fldKnown f = true := by
  cases c <;> simp [Cn.flds, fldKnown]
theorem fN_ne {a b : String} (h : a ≠ b) : (fN a = fN b) = False := by
  simp only [eq_iff_iff, iff_false]
  exact fun e => h (fN_inj e)
theorem putAll_zip (c : Cn) (us : List V) (h : us.length = c.flds.length) : putAllF c.flds us [] = zipF c.flds us := by
  cases c <;> simp only [Cn.flds] at h ⊢ <;> (first
    | (have e : us = [] := List.eq_nil_of_length_eq_zero h
       subst e; rfl)
    | (obtain ⟨v, rfl⟩ := List.length_eq_one_iff.mp h
       rfl)
    | (obtain ⟨v, w, rfl⟩ : ∃ v w, us = [v, w] := by
         match us, h with
         | [v, w], _ => exact ⟨v, w, rfl⟩
       simp [putAllF, putF, zipF, fN_ne]))
section
variable {L : Wl} {k : Nat}
/-- a thing is made of its values -/
def tmMk (C : Addr) (flds : List String) (vs : List V) (H : Hp) (Q : VK) : Prop := vs.length = flds.length ∧ ∀ x dx, H x = none → H dx = none → dx ≠ x → Q (.ref x) (upd (upd H dx (.own x)) x (.ins C dx (zipF flds vs)))
theorem run_mk {X : Cx} {c : Ck} {d : Cn} {pins : List (Addr × Obj)} {σ : L2.St} {H : Hp} {s : Shared} {Q : VK} {us : List Value} {vs : List V} (h : XOk L k c X) (hr : Room (k + 2) X.A) (hi : IniOk X.K (L.C d) d) (hc : d.isExc = false) (hh : L.has d = true)
    (I : Inv X pins σ H s) (r : Vals vs us) (t : tmMk (L.C d) d.flds vs H Q) : wpAny (model X.prog X.w) X.A (PySem.call (.ref (L.C d)) us) (EP X pins σ Q) X.xe s := by
  obtain ⟨hl, q⟩ := t
  rcases hi with ⟨e, M⟩ | ⟨a, fd, nm, qual, st, N, M, F, hf⟩
  · rw [e] at hl q
    have ev : vs = [] := List.eq_nil_of_length_eq_zero hl
    subst ev
    cases r
    exact run_make0 M I q
  · obtain ⟨F1, B1⟩ := init_fn (P := X.prog) (w := X.w) (mg := X.mg) (base := X.base) F hf 0
    refine run_makeS (E := fun _ _ _ _ => False) M F1 (hr.mono (by omega)) B1 (fun pins H s e s' I z => passL pins σ H s e s' I z) I r fun x dx n1 n2 n3 => ?_
    refine ⟨x, L.C d, dx, vs, rfl, hl, upd_same, (h.cls.own d hh hc).1, fun f hf => h.noat d f hh (flds_known d f hf), rfl, ?_⟩
    rw [upd_upd, putAll_zip d vs hl]
    exact q x dx n1 n2 n3
theorem se_mk (d : Cn) {es : Exs} (ih : SEs L k es) : SE L k (.mk d es) := by
  intro c X Y E h tk g
  simp only [chkE] at g
  split at g
  · rename_i q hq
    obtain ⟨p, p2, rfl⟩ := asCall_of hq
    obtain ⟨x, l⟩ := q
    simp only [Bool.and_eq_true, beq_iff_eq, Bool.not_eq_true', decide_eq_true_eq] at g
    obtain ⟨⟨⟨g1, g2, g3⟩, g4, g5⟩, g6, g7⟩ := g
    obtain ⟨hc, hr⟩ := calm_hd h (by simpa using g1)
    obtain ⟨k1, k2⟩ := glB_ok h g2
    obtain ⟨m1, m2, m3⟩ := h.cns x d g3
    obtain ⟨_, i2, _⟩ := h.ini _ d g4
    have hmk : ∀ (pins : List (Addr × Obj)) (s : Shared) (σ : L2.St) (H : Hp) (us : List Value) (vs : List V) (Q : VK), Inv X pins σ H s → Vals vs us → tmMk (L.C d) d.flds vs H Q → wpAny (model X.prog X.w) X.A (PySem.call (.ref (L.C d)) us) (EP X pins σ Q) X.xe s :=
      fun pins s σ H us vs Q I r t => run_mk h hr (i2 g5) g5 m1 I r t
    have fin : ∀ {σ : L2.St} {Q : VK} {r1 : List Addr} {H1 : Hp} {hs1 : Hs} {ds : List D} {vs : List V}, Mt (wdo X L) r1 H1 hs1 → Rvs (wdo X L) r1 H1 ds vs → ds.length = d.flds.length → Post (Rv (wdo X L)) (wdo X L) Y σ r1 H1 (mkO d ds hs1) Q → tmMk (L.C d) d.flds vs H1 Q := by
      intro σ Q r1 H1 hs1 ds vs m rv hl p
      have p' : Post (Rv (wdo X L)) (wdo X L) Y σ r1 H1 (if ds.length = d.flds.length ∧ d.isExc = false then (.ok (.obj d ds) hs1 : R D) else .bad) Q ∨ d = .Desk := by
        cases d <;> first | (exact .inr rfl) | (cases g5; done) | (exact .inl p)
      rcases p' with p' | rfl
      · rw [if_pos ⟨hl, g5⟩] at p'
        refine ⟨by rw [rv.length]; exact hl, fun x dx n1 n2 n3 => ?_⟩
        have nx : (upd H1 dx (.own x)) x = none := by rw [upd_ne (Ne.symm n3)]; exact n1
        have m2 := m.new n2 (.own x)
        have m3 := m2.new nx (.ins (L.C d) dx (zipF d.flds vs))
        have x2 := (ext_new (r := r1) n2 (.own x)).trans (ext_new (r := r1) nx (.ins (L.C d) dx (zipF d.flds vs)))
        exact p' r1 _ (.ref x) x2 m3 (.obj m1 g5 upd_same (m.notNew n1) hl (rv.mono x2))
      · cases ds with
        | nil => simp [Cn.flds] at hl
        | cons _ _ => exact p.elim
    cases l with
    | nil =>
      cases es with
      | cons e0 es0 => simp only [chkEs] at g6; cases g6
      | nil =>
        have e : PE X (.Call (.Name x p) [] [] p2) (rdE (wdo X L) Y (evE (clOf L k) (.mk d .nil))) := pe_weak (pe_mk0 (tm := fun σ vs H Q => tmMk (L.C d) d.flds vs H Q) k1 m2 m3 k2 hmk) fun σ H Q w => by
          obtain ⟨r, hs, s, m, en, p⟩ := w
          simp only [evE, evs, R.bind_ok] at p
          exact fin m .nil (by simpa using g7) p
        exact ⟨e, pt_of rfl rfl e⟩
    | cons y l =>
      have hst := (chkEs_len g6).2
      rw [List.all_cons, Bool.and_eq_true] at hst
      have e : PE X (.Call (.Name x p) (y :: l) [] p2) (rdE (wdo X L) Y (evE (clOf L k) (.mk d es))) := pe_weak (pe_mk (tm := fun σ vs H Q => tmMk (L.C d) d.flds vs H Q) k1 m2 m3 (ih c X Y (y :: l) h tk g6).1 k2 hmk (star_cons hst.1) (star_none hst.2)) fun σ H Q w => by
        obtain ⟨r, hs, s, m, en, p⟩ := w
        simp only [evE] at p
        refine rd_bind m en p fun ds r1 H1 hs1 vs x1 m1 e1 rv q p1 => ?_
        exact fin m1 rv (by rw [evs_len q, (chkEs_len g6).1]; exact g7) p1
      exact ⟨e, pt_of rfl rfl e⟩
  · cases g
theorem mthD_some {α : Type} {C : Cl} {m : String} {d : D} {g : String → Hs → R α} {h : Hs} {W : Wd} {Y : WX} {σ : L2.St} {r : List Addr} {H : Hp} {β : Type} {rel : List Addr → Hp → α → β → Prop} {Q : β → Hp → Prop} (p : Post rel W Y σ r H (mthD C m d g h) Q) :
    ∃ c ds f, d = .obj c ds ∧ C.T.meth c m = some f ∧ Post rel W Y σ r H (g f h) Q := by
  unfold mthD at p
  split at p
  · rename_i c ds
    split at p
    · rename_i f hf; exact ⟨c, ds, f, rfl, hf, p⟩
    · exact p.elim
  · exact p.elim
theorem se_mth (m : String) {a : Ex} {es : Exs} (ha : SE L k a) (ih : SEs L k es) : SE L k (.mth a m es) := by
  intro c X Y E h tk g
  simp only [chkE] at g
  split at g
  · rename_i q hq
    obtain ⟨p, p2, rfl, hln⟩ := asMeth_of hq
    obtain ⟨x, nm, l⟩ := q
    simp only [Bool.and_eq_true, beq_iff_eq, Bool.not_eq_true'] at g
    obtain ⟨⟨⟨g1, g2⟩, g3, g4⟩, g5, g6, g7⟩ := g
    subst g2
    obtain ⟨hc, hr⟩ := calm_hd h (by simpa using g1)
    have hx := (ha c X Y x h tk g5).1
    have hl := (ih c X Y l h tk g6).1
    have hst := (chkEs_len g6).2
    have at_ : ∀ {σ : L2.St} {Q : VK} {r1 : List Addr} {H1 : Hp} {hs1 : Hs} {d : Cn} {ds : List D} {f : String} {v : V} {t : TA}, Rv (wdo X L) r1 H1 (.obj d ds) v → (clOf L k).T.meth d m = some f →
        (t σ H1 fun vs H2 => spF (wdo X L) L.T f k (v :: vs) H2 Q (WE Y σ)) → MthAt X (L2.CX X.prog X.w) (k + 2) (fN m) t (WE Y) σ Q v H1 := by
      intro σ Q r1 H1 hs1 d ds f v t rv hm ht
      obtain ⟨⟨h1, h2⟩, a, fd, ps, M, F, B⟩ := h.mts d m f hm
      cases rv with
      | obj pr xx hh n ll e =>
        have zn : ∀ g ∈ d.flds, g ≠ m := fun g hg z => by
          have w := flds_known d g hg
          rw [z, g4] at w
          exact Bool.noConfusion w
        exact ⟨_, _, _, a, _, fd, ps, _, rfl, hh, zipF_none zn, (h.cls.own d h1 h2).1, M, F, B, ht⟩
      | exc0 pr xx => rw [h2] at xx; cases xx
      | exc1 pr xx => rw [h2] at xx; cases xx
    have e : PE X (.Call (.Attribute x (fN m) p) l [] p2) (rdE (wdo X L) Y (evE (clOf L k) (.mth a m es))) := by
      cases l with
      | nil =>
        cases es with
        | cons e0 es0 => simp only [chkEs] at g6; cases g6
        | nil =>
          refine pe_weak (pe_mth0 hx hr (passAt tk) (meth_tree (plainB_ok g3) hln (few_ok hst g7))) fun σ H Q w => ?_
          obtain ⟨r, hs, s, mm, en, p⟩ := w
          simp only [evE] at p
          refine rd_bind mm en p fun d r1 H1 hs1 v x1 m1 e1 rv _ p1 => ?_
          obtain ⟨cc, ds, f, rfl, hf, p1⟩ := mthD_some p1
          simp only [evs, R.bind_ok] at p1
          exact at_ (hs1 := hs1) rv hf ⟨r1, hs1, _, m1, .cons rv .nil, post_E p1⟩
      | cons y l =>
        have hst2 := hst
        rw [List.all_cons, Bool.and_eq_true] at hst2
        refine pe_weak (pe_mth hx hr (passAt tk) hl (star_cons hst2.1) (star_none hst2.2) (meth_tree (plainB_ok g3) hln (few_ok hst g7))) fun σ H Q w => ?_
        obtain ⟨r, hs, s, mm, en, p⟩ := w
        simp only [evE] at p
        refine rd_bind mm en p fun d r1 H1 hs1 v x1 m1 e1 rv _ p1 => ?_
        obtain ⟨cc, ds, f, rfl, hf, p1⟩ := mthD_some p1
        refine at_ (hs1 := hs1) rv hf ?_
        refine rd_bind m1 e1 p1 fun es2 r2 H2 hs2 vs x2 m2 e2 rvs _ p2 => ?_
        exact ⟨r2, hs2, _, m2, .cons (rv.mono x2) rvs, post_E p2⟩
    exact ⟨e, pt_of rfl rfl e⟩
  · cases g
/-! ### is True, is False -/
theorem bl_same {x : V} {v : Value} (r : L2.RelV x v) (b : Bool) : (v == Value.bool b) = decide (x = .bl b) := by
  cases x with
  | non => cases r; rfl
  | bl c => cases r; cases b <;> cases c <;> rfl
  | int _ => obtain ⟨t, rfl⟩ := r; rfl
  | str _ => obtain ⟨t, rfl⟩ := r; rfl
  | byt _ => obtain ⟨t, rfl⟩ := r; rfl
  | flt _ => obtain ⟨t, rfl⟩ := r; rfl
  | ref _ => cases r; rfl
  | ty _ => cases r; rfl
theorem is_bool {M : Model} {A : Around} {E : Value → Shared → Prop} {s : Shared} {Q : Value → Shared → Prop} {x : V} {v : Value} (r : L2.RelV x v) (b : Bool) (h : Q (.bool (v == .bool b)) s) : wpAny M A (compareOp .Is v (.bool b)) Q E s := by
  cases x with
  | non => cases r; exact wpAny_pure h
  | bl c => cases r; exact wpAny_pure h
  | int _ => obtain ⟨t, rfl⟩ := r; exact wpAny_pure h
  | str _ => obtain ⟨t, rfl⟩ := r; exact wpAny_pure h
  | byt _ => obtain ⟨t, rfl⟩ := r; exact wpAny_pure h
  | flt _ => obtain ⟨t, rfl⟩ := r; exact wpAny_pure h
  | ref _ => cases r; exact wpAny_pure h
  | ty _ => cases r; exact wpAny_pure h
theorem isnot_bool {M : Model} {A : Around} {E : Value → Shared → Prop} {s : Shared} {Q : Value → Shared → Prop} {x : V} {v : Value} (r : L2.RelV x v) (b : Bool) (h : Q (.bool (!(v == .bool b))) s) : wpAny M A (compareOp .IsNot v (.bool b)) Q E s := by
  cases x with
  | non => cases r; exact wpAny_pure h
  | bl c => cases r; exact wpAny_pure h
  | int _ => obtain ⟨t, rfl⟩ := r; exact wpAny_pure h
  | str _ => obtain ⟨t, rfl⟩ := r; exact wpAny_pure h
  | byt _ => obtain ⟨t, rfl⟩ := r; exact wpAny_pure h
  | flt _ => obtain ⟨t, rfl⟩ := r; exact wpAny_pure h
  | ref _ => cases r; exact wpAny_pure h
  | ty _ => cases r; exact wpAny_pure h
theorem pc_isB {X : Cx} {a : Expr} {ta : TE} {b : Bool} {j pos'} (ha : PE X a ta) : PC X .Is a (.Constant (.bool b) j pos') (fun σ H Q => ta σ H fun x H1 => Q (.bl (decide (x = .bl b))) H1) := by
  refine ⟨fun pins s σ H Q I h => ?_⟩
  refine thn (ha.run pins s σ H _ I h) fun v s1 ⟨x, H1, I1, r1, q1⟩ => ?_
  exact Constant_bool (is_bool r1 b ⟨.bl _, H1, I1, by rw [bl_same r1]; rfl, q1⟩)
theorem pc_notB {X : Cx} {a : Expr} {ta : TE} {b : Bool} {j pos'} (ha : PE X a ta) : PC X .IsNot a (.Constant (.bool b) j pos') (fun σ H Q => ta σ H fun x H1 => Q (.bl (!decide (x = .bl b))) H1) := by
  refine ⟨fun pins s σ H Q I h => ?_⟩
  refine thn (ha.run pins s σ H _ I h) fun v s1 ⟨x, H1, I1, r1, q1⟩ => ?_
  exact Constant_bool (isnot_bool r1 b ⟨.bl _, H1, I1, by rw [bl_same r1]; rfl, q1⟩)
theorem bl_iff {W : Wd} {r : List Addr} {H : Hp} {d : D} {v : V} (b : Bool) (x : Rv W r H d v) : decide (v = .bl b) = isBl b d := by
  cases x <;> first | rfl | (rename_i c; cases b <;> cases c <;> rfl)
theorem se_ist (b n : Bool) {a : Ex} (ha : SE L k a) : SE L k (.ist a b n) := by
  intro c X Y E h tk g
  simp only [chkE] at g
  split at g
  · rename_i q hq
    obtain ⟨p, rfl⟩ := asCmp1_of hq
    obtain ⟨oq, x, y⟩ := q
    simp only [Bool.and_eq_true, decide_eq_true_eq] at g
    obtain ⟨g1, g2, g3⟩ := g
    obtain ⟨j, p2, rfl⟩ := asConst_of g2
    subst g1
    have hx := (ha c X Y x h tk g3).1
    have w1 : ∀ (z : Bool) σ H Q, rdE (wdo X L) Y (evE (clOf L k) (.ist a b z)) σ H Q → rdE (wdo X L) Y (evE (clOf L k) a) σ H fun x H1 => Q (.bl (decide (x = .bl b) != z)) H1 := by
      intro z σ H Q w
      obtain ⟨r, hs, s, m, en, p⟩ := w
      simp only [evE] at p
      refine rd_bind m en p fun d r1 H1 hs1 v x1 m1 e1 rv _ p1 => ?_
      rw [bl_iff b rv]
      exact pd_ok p1 m1 (.bl _)
    have w2 : ∀ (z : Bool) σ H (Q : Bool → Hp → Prop), rdT (wdo X L) Y (evT (clOf L k) (.ist a b z)) σ H Q → rdE (wdo X L) Y (evE (clOf L k) a) σ H fun x H1 => Q (decide (x = .bl b) != z) H1 := by
      intro z σ H Q w
      obtain ⟨r, hs, s, m, en, p⟩ := w
      simp only [evT, evE, bind_assoc] at p
      refine rd_bind m en p fun d r1 H1 hs1 v x1 m1 e1 rv _ p1 => ?_
      rw [bl_iff b rv]
      exact p1 r1 H1 _ (Ext.refl _ _) m1 rfl
    cases n with
    | false =>
      refine ⟨pe_weak (pe_cmp (pc_isB hx)) fun σ H Q w => ?_, pt_weak (pt_cmp (pc_isB hx)) fun σ H Q w => ?_⟩
      · have := w1 false σ H Q w
        simpa using this
      · have := w2 false σ H Q w
        obtain ⟨r, hs, s, m, en, p⟩ := this
        refine ⟨r, hs, s, m, en, p.mono (Ext.refl _ _) fun v H z => ⟨_, rfl, by simpa using z⟩⟩
    | true =>
      refine ⟨pe_weak (pe_cmp (pc_notB hx)) fun σ H Q w => ?_, pt_weak (pt_cmp (pc_notB hx)) fun σ H Q w => ?_⟩
      · have := w1 true σ H Q w
        obtain ⟨r, hs, s, m, en, p⟩ := this
        refine ⟨r, hs, s, m, en, p.mono (Ext.refl _ _) fun v H z => by simpa using z⟩
      · have := w2 true σ H Q w
        obtain ⟨r, hs, s, m, en, p⟩ := this
        refine ⟨r, hs, s, m, en, p.mono (Ext.refl _ _) fun v H z => ⟨_, rfl, by simpa using z⟩⟩
  · cases g
end
end Q

/-! expressions: the theorem -/
namespace Q
open PySem PySem.Spec PyProof.Rows L2

section
variable {L : Wl} {k : Nat}
theorem si_enum {e : Ex} (he : SE L k e) : SI L k (.enum e) := by
  intro c X Y T E h tk g
  simp only [chkI] at g
  split at g
  · rename_i l x q hl hq
    obtain ⟨j, p0, rfl⟩ := asTup_of hl
    obtain ⟨p, p2, rfl⟩ := asCall_of hq
    simp only [Bool.and_eq_true, beq_iff_eq] at g
    obtain ⟨⟨g1, g2⟩, g3, g4⟩ := g
    subst g2
    refine pi_weak (pi_enumU (glB_ok h g1).1 (h.blt "enumerate" (by decide)) (pa_cons (he c X Y q h tk g4).1 pa_nil (star_cons g3)) (star_cons g3)) fun σ H Q w => ?_
    obtain ⟨r, hs, s, m, en, p⟩ := w
    simp only [walk] at p
    refine rd_bind m en p fun d r1 H1 hs1 v x1 m1 e1 rv _ p1 => ?_
    obtain ⟨w, hw, p3⟩ := walkOf_some (X := X) p1
    unfold enumOf at hw
    split at hw
    · rename_i n
      cases rv with | ref ha =>
      obtain ⟨w', hw', rfl⟩ := Option.map_eq_some_iff.mp hw
      obtain ⟨xs, _, h1, _⟩ := walk_ref hw'
      obtain ⟨us, f1, f2⟩ := list_now m1 ha h1
      exact .inl ⟨_, us, rfl, f1, p3 r1 H1 _ (Ext.refl _ _) m1 (wk_enum ha hw')⟩
    · cases rv with | tup t e =>
      cases hw
      exact .inr ⟨_, _, rfl, t.sq, p3 r1 H1 _ (Ext.refl _ _) m1 (wk_enumT t e)⟩
    · cases hw
  · cases g
theorem si_zip {a b : Ex} (ha : SE L k a) (hb : SE L k b) : SI L k (.zip a b) := by
  intro c X Y T E h tk g
  simp only [chkI] at g
  split at g
  · rename_i l x q q2 hl hq
    obtain ⟨j, p0, rfl⟩ := asTup_of hl
    obtain ⟨p, p2, rfl⟩ := asCall_of hq
    simp only [Bool.and_eq_true, beq_iff_eq] at g
    obtain ⟨⟨g1, g2⟩, ⟨g3, g4⟩, g5, g6⟩ := g
    subst g2
    refine pi_weak (RZ.pi_zipA (glB_ok h g1).1 (h.blt "zip" (by decide)) (pa_cons (ha c X Y q h tk g5).1 (pa_cons (hb c X Y q2 h tk g6).1 pa_nil (star_cons g4)) (star_cons g3)) (star_cons g3) (star_none (by simp [g4]))) fun σ H Q w => ?_
    obtain ⟨r, hs, s, m, en, p⟩ := w
    simp only [walk] at p
    refine rd_bind m en p fun d r1 H1 hs1 v x1 m1 e1 rv _ p1 => ?_
    refine rd_bind m1 e1 p1 fun d2 r2 H2 hs2 v2 x2 m2 e2 rv2 _ p3 => ?_
    obtain ⟨w, hw, p4⟩ := walkOf_some (X := X) p3
    unfold zipOf at hw
    split at hw
    · rename_i n n2
      cases rv with | ref ha =>
      cases rv2 with | ref ha2 =>
      split at hw
      · rename_i w1 w2 hw1 hw2
        cases hw
        obtain ⟨xs, _, h1, _⟩ := walk_ref hw1
        obtain ⟨us, f1, f2⟩ := list_now m2 (x2.at ha) h1
        obtain ⟨xs2, _, h12, _⟩ := walk_ref hw2
        obtain ⟨us2, f12, f22⟩ := list_now m2 ha2 h12
        exact ⟨_, _, us, us2, rfl, .inl ⟨f1, f12, p4 r2 H2 _ (Ext.refl _ _) m2 (wk_zip (x2.at ha) hw1 ha2 hw2)⟩⟩
      · cases hw
    · cases rv with | tup t es =>
      cases rv2 with | tup t2 es2 =>
      cases hw
      have t1 := t.mono x2
      exact ⟨_, _, _, _, rfl, .inr ⟨t1.sq, t2.sq, p4 r2 H2 _ (Ext.refl _ _) m2 (wk_zipT t1 (es.mono x2) t2 es2)⟩⟩
    · cases hw
  · cases g
theorem se_no {e : Ex} (h : ∀ c E, chkE c e E = false) : SE L k e := fun c X Y E _ _ g => by rw [h] at g; cases g
theorem si_no {e : It} (h : ∀ c T E, chkI c e T E = false) : SI L k e := fun c X Y T E _ _ g => by rw [h] at g; cases g
mutual
theorem sE : ∀ e : Ex, SE L k e
  | .v i => se_v i
  | .k d => se_k d
  | .g y => se_g y
  | .tup es => se_tup (sEs es)
  | .lst es => se_lst (sEs es)
  | .dic t es => se_dic t es
  | .bin o a b => se_bin o (sE a) (sE b)
  | .neg a => se_neg (sE a)
  | .cmp o a b => se_cmp o (sE a) (sE b)
  | .chn o p a b d => se_chn o p (sE a) (sE b) (sE d)
  | .isn a n => se_isn n (sE a)
  | .ist a b n => se_ist b n (sE a)
  | .not a => se_not (sE a)
  | .and es => se_and (sEs es)
  | .or es => se_or (sEs es)
  | .orv a b => se_orv (sE a) (sE b)
  | .ite q a b => se_ite (sE q) (sE a) (sE b)
  | .sub a i => se_sub (sE a) (sE i)
  | .slc a lo hi => se_slc (sE a) (sO lo) (sO hi)
  | .fld a f => se_fld f (sE a)
  | .call f es => se_call f (sEs es)
  | .mk d es => se_mk d (sEs es)
  | .mth a m es => se_mth m (sE a) (sEs es)
  | .b f es => se_b f (sEs es)
  | .bm f a es => se_bm f (sE a) (sEs es)
  | .isi a ts => se_isi ts (sE a)
  | .gget _ _ => se_no fun _ _ => by simp only [chkE]
  | .gin _ _ _ => se_no fun _ _ => by simp only [chkE]
  | .comp e tg it q own => se_comp (sE e) (sI it) (sC q)
  | .jst _ => se_no fun _ _ => by simp only [chkE]
theorem sEs : ∀ es : Exs, SEs L k es
  | .nil => ses_nil
  | .cons e es => ses_cons (sE e) (sEs es)
theorem sO : ∀ o : Eo, SO L k o
  | .none => so_none
  | .some e => so_some (sE e)
theorem sC : ∀ o : Eo, SC L k o
  | .none => sc_none
  | .some e => sc_some (sE e)
theorem sI : ∀ it : It, SI L k it
  | .sq e => si_sq (sE e)
  | .r1 a => si_r1 (sE a)
  | .r2 a b => si_r2 (sE a) (sE b)
  | .r3 a b c => si_r3 (sE a) (sE b) (sE c)
  | .enum e => si_enum (sE e)
  | .zip a b => si_zip (sE a) (sE b)
  | .items _ => si_no fun _ _ _ => by simp only [chkI]
end
end
end Q

/-! statements -/
namespace Q
open PySem PySem.Spec PyProof.Rows L2

/-- what is wanted behind my statement's end -/
def PostS (D : Ends) (W : Wd) (Y : WX) (r : List Addr) (H : Hp) (res : SR) : Prop := match res with
  | .nx s h => ∀ r' H' σ, Ext r H r' H' → Mt W r' H' h → EnvR W r' H' s σ → D.nx σ H'
  | .bk s h => ∀ r' H' σ, Ext r H r' H' → Mt W r' H' h → EnvR W r' H' s σ → D.bk σ H'
  | .ct s h => ∀ r' H' σ, Ext r H r' H' → Mt W r' H' h → EnvR W r' H' s σ → D.ct σ H'
  | .rt d h => ∀ r' H' v, Ext r H r' H' → Mt W r' H' h → Rv W r' H' d v → D.rt v H'
  | .exc c fs s h => ∀ r' H' σ cls dx, Ext r H r' H' → Mt W r' H' h → EnvR W r' H' s σ → ExR W r' H' c fs cls dx → Y cls dx σ H'
  | .bad => False
def rdS (W : Wd) (Y : WX) (f : Ev → Hs → SR) : TS := fun D σ H => ∃ r hs s, Mt W r H hs ∧ EnvR W r H s σ ∧ PostS D W Y r H (f s hs)
theorem PostS.mono {D : Ends} {W : Wd} {Y : WX} {r r' : List Addr} {H H' : Hp} {res : SR} (p : PostS D W Y r H res) (x : Ext r H r' H') : PostS D W Y r' H' res := by
  cases res with
  | nx s h => exact fun r2 H2 σ x2 => p r2 H2 σ (x.trans x2)
  | bk s h => exact fun r2 H2 σ x2 => p r2 H2 σ (x.trans x2)
  | ct s h => exact fun r2 H2 σ x2 => p r2 H2 σ (x.trans x2)
  | rt d h => exact fun r2 H2 v x2 => p r2 H2 v (x.trans x2)
  | exc c fs s h => exact fun r2 H2 σ cls dx x2 => p r2 H2 σ cls dx (x.trans x2)
  | bad => exact p
theorem ps_weak {X : Cx} {S : Stmt} {t t' : TS} (h : PS X S t) (w : ∀ D σ H, t' D σ H → t D σ H) : PS X S t' := ⟨fun pins s σ H D I q => h.run pins s σ H D I (w D σ H q)⟩
theorem pss_weak {X : Cx} {S : List Stmt} {t t' : TS} (h : PSs X S t) (w : ∀ D σ H, t' D σ H → t D σ H) : PSs X S t' := ⟨fun pins s σ H D I q => h.run pins s σ H D I (w D σ H q)⟩

/-- a def's frame -/
structure FOk (X : Cx) : Prop where
  st : X.stack = X.env :: X.outer
  fr : X.env.frame = some X.env.locals
  ex : X.ex = []
  pass : PassesOwn (model X.prog X.w) X.A X.env X.xe
def SS (L : Wl) (k : Nat) (s : Sm) : Prop := ∀ (c : Ck) (X : Cx) (Y : WX) (S : Stmt), XOk L k c X → (c.hot = false → FOk X) → Takes X Y → chkS c s S = true → PS X S (rdS (wdo X L) Y (exS (clOf L k) s))
def SB (L : Wl) (k : Nat) (s : Bl) : Prop := ∀ (c : Ck) (X : Cx) (Y : WX) (S : List Stmt), XOk L k c X → (c.hot = false → FOk X) → Takes X Y → chkB c s S = true → PSs X S (rdS (wdo X L) Y (exB (clOf L k) s))
def SH (L : Wl) (k : Nat) (hs : Hds) : Prop := ∀ (c : Ck) (X : Cx) (Y : WX) (S : List ExceptHandler), XOk L k c X → c.hot = false → FOk X → Takes X Y → chkH c hs S = true → ∃ l, ClOk X S l ∧
  ∀ D d fs s h r H, PostS D (wdo X L) Y r H (exH (clOf L k) hs d fs s h) → ∀ r' H' σ' cls dx, Ext r H r' H' → Mt (wdo X L) r' H' h → EnvR (wdo X L) r' H' s σ' → ExR (wdo X L) r' H' d fs cls dx → wCl X.K Y D l cls dx σ' H'

section
variable {X : Cx} {W : Wd} {Y : WX} {σ : L2.St} {r : List Addr} {H : Hp} {hs : Hs} {s : Ev} {D : Ends}
/-- an expression within a statement -/
theorem st_bind {α β : Type} {rel : List Addr → Hp → α → β → Prop} {f : Ev → Hs → R α} {g : α → Hs → SR} {K : β → Hp → Prop} (m : Mt W r H hs) (e : EnvR W r H s σ) (p : PostS D W Y r H ((f s hs).st s g))
    (k : ∀ d r1 H1 hs1 v, Ext r H r1 H1 → Mt W r1 H1 hs1 → EnvR W r1 H1 s σ → rel r1 H1 d v → f s hs = .ok d hs1 → PostS D W Y r1 H1 (g d hs1) → K v H1) : rd rel W Y f σ H K := by
  refine ⟨r, hs, s, m, e, ?_⟩
  cases q : f s hs with
  | ok d hs1 =>
    rw [q] at p
    exact fun r' H' v x m' rv => k d r' H' hs1 v x m' (e.mono x) rv q (PostS.mono p x)
  | exc c fs hs1 =>
    rw [q] at p
    exact fun r' H' cls dx x m' ex => p r' H' σ cls dx x m' (e.mono x) ex
  | bad =>
    rw [q] at p
    exact p
end

section
variable {L : Wl} {k : Nat}
theorem ss_pass : SS L k .pass := by
  intro c X Y S h hf tk g
  cases S <;> first | (cases g; done) | skip
  refine ps_weak ps_pass fun D σ H w => ?_
  obtain ⟨r, hs, s, m, en, p⟩ := w
  simp only [exS] at p
  exact p r H σ (Ext.refl _ _) m en
theorem ss_brk : SS L k .brk := by
  intro c X Y S h hf tk g
  cases S <;> first | (cases g; done) | skip
  refine ps_weak ps_break fun D σ H w => ?_
  obtain ⟨r, hs, s, m, en, p⟩ := w
  simp only [exS] at p
  exact p r H σ (Ext.refl _ _) m en
theorem ss_cnt : SS L k .cnt := by
  intro c X Y S h hf tk g
  cases S <;> first | (cases g; done) | skip
  refine ps_weak ps_continue fun D σ H w => ?_
  obtain ⟨r, hs, s, m, en, p⟩ := w
  simp only [exS] at p
  exact p r H σ (Ext.refl _ _) m en
theorem ss_set (i : Nat) (e : Ex) : SS L k (.set i e) := by
  intro c X Y S h hf tk g
  simp only [chkS] at g
  split at g
  · rename_i q hq
    obtain ⟨p, rfl⟩ := asAsg_of hq
    obtain ⟨t, v⟩ := q
    simp only at g
    split at g
    · rename_i x hx
      obtain ⟨p2, rfl⟩ := asName_of hx
      simp only [Bool.and_eq_true, Bool.or_eq_true, Bool.not_eq_true'] at g
      obtain ⟨⟨g1, g2⟩, g3, g4⟩ := g
      obtain ⟨l1, l2⟩ := locB_ok h g2
      have done_ : ∀ D σ H, rdS (wdo X L) Y (exS (clOf L k) (.set i e)) D σ H → tAsg (rdE (wdo X L) Y (evE (clOf L k) e)) (gName i) D σ H := by
        intro D σ H w
        obtain ⟨r, hs, s, m, en, p⟩ := w
        simp only [exS] at p
        refine st_bind m en p fun d r1 H1 hs1 v x m1 e1 rv _ p1 => ?_
        exact p1 r1 H1 _ (Ext.refl _ _) m1 (e1.set rv i)
      cases hl : isLc v with
      | false =>
        exact ps_weak (ps_set h.nd (atB_ok h g1) l1 (sE e c X Y v h tk g3).1 (swaps_no hl) l2) done_
      | true =>
        rw [hl] at g4
        rcases g4 with g4 | g4
        · cases g4
        · cases e <;> first | (cases g4; done) | skip
          rename_i e' tg it q own
          have g5 := g3
          simp only [chkE] at g3
          split at g3
          · rename_i rr hr
            obtain ⟨p3, rfl⟩ := asLc_of hr
            obtain ⟨elt, T, iter, ifs, sc⟩ := rr
            have sw : swapsWith (.ListComp elt [⟨T, iter, ifs, 0⟩] sc p3) (some (.Name x p2)) p.line X.env = pure (X.env.blockKind == .function && X.env.kindOf x == some .local && p2.line == p3.line && !(sc.names.any fun (n, k) => n == x && (k == .local || k == .cell))) := rfl
            cases hb : (X.env.blockKind == .function && X.env.kindOf x == some .local && p2.line == p3.line && !(sc.names.any fun (n, k) => n == x && (k == .local || k == .cell))) with
            | false =>
              rw [hb] at sw
              exact ps_weak (ps_set h.nd (atB_ok h g1) l1 (sE _ c X Y _ h tk g5).1 sw l2) done_
            | true =>
              rw [hb] at sw
              have hxl : X.env.scope.names.lookup x = some .local := by
                simp only [Bool.and_eq_true] at hb
                exact beq_iff_eq.mp hb.1.1.2
              obtain ⟨⟨hc, ht⟩, h1, h2, h3, h4, h5, h6⟩ := pe_comp (sE e') (sI it) (sC q) h tk g3
              have e0 := ps_setLc (spos := p) hc h.nd (atB_ok h g1) hxl sw h1 h2 h3 h4 h5 h6
              rw [own_snd] at e0
              refine ps_weak e0 fun D σ H w => ?_
              have w2 := done_ D σ H w
              exact comp_ok ht w2
          · cases g3
    · cases g
  · cases g
theorem setAll_zip : ∀ (s : Ev) (is : List Nat) (ds : List D), setAll s is ds = (is.zip ds).foldl (fun s p => s.set p.1 (some p.2)) s
  | s, [], _ => by simp [setAll]
  | s, _ :: _, [] => by simp [setAll]
  | s, i :: is, d :: ds => by simp only [setAll, List.zip_cons_cons, List.foldl_cons, setAll_zip]
theorem pg_or {X : Cx} {T : Expr} {a b : TG} (h : PG X T a) (h2 : PG X T b) : PG X T (fun v σ H Q => a v σ H Q ∨ b v σ H Q) := ⟨fun pins s σ H v u Q I r w => by
  rcases w with w | w
  · exact h.run pins s σ H v u Q I r w
  · exact h2.run pins s σ H v u Q I r w⟩
theorem ss_setT (is : List Nat) (e : Ex) : SS L k (.setT is e) := by
  intro c X Y S h hf tk g
  simp only [chkS] at g
  split at g
  · rename_i q hq
    obtain ⟨p, rfl⟩ := asAsg_of hq
    obtain ⟨t, v⟩ := q
    simp only at g
    split at g
    · rename_i l hl
      obtain ⟨j, p2, rfl⟩ := asTup_of hl
      simp only [Bool.and_eq_true] at g
      obtain ⟨⟨g1, g2⟩, g3, g4⟩ := g
      obtain ⟨hc, _⟩ := calm_hd h g1
      obtain ⟨r1, r2, r3⟩ := namesB_ok h g2
      have hw : swappedStores [.Tuple l j p2] v X.env = pure none := by cases v <;> first | (cases g4; done) | rfl
      have hs : swapsWithSole [.Tuple l j p2] v p.line X.env = pure false := by cases v <;> rfl
      refine ps_weak (ps_asg (sE e c X Y v h tk g3).1 (pg_or (pg_tup (k := j) (pos := p2) hc r1 r2 r3) (pg_lst (k := j) (pos := p2) hc r1 r2 r3)) hs hw) fun D σ H w => ?_
      obtain ⟨r, hs, s, m, en, p⟩ := w
      simp only [exS] at p
      refine st_bind m en p fun d r1 H1 hs1 v x m1 e1 rv _ p1 => ?_
      unfold setTR unp at p1
      split at p1
      · rename_i ds hds
        split at hds
        · rename_i ds' hi
          split at hds
          · rename_i hlen
            cases hds
            obtain ⟨a, us, rfl, hq, es⟩ := items_at m1 rv hi
            have fin : tgG.gNames is us σ H1 D.nx := gNames_ok (P := fun _ => True) hlen.symm es e1 trivial (fun _ _ _ _ _ => trivial) fun σ' e2 _ => p1 r1 H1 σ' (Ext.refl _ _) m1 (by rw [setAll_zip]; exact e2)
            rcases hq with hq | hq
            · exact .inr ⟨a, us, rfl, hq, by rw [es.length, hlen], fin⟩
            · exact .inl ⟨a, us, rfl, hq, by rw [es.length, hlen], fin⟩
          · cases hds
        · cases hds
      · exact False.elim p1
    · cases g
  · cases g
theorem ss_setI (o i e : Ex) : SS L k (.setI o i e) := by
  intro c X Y S h hf tk g
  simp only [chkS] at g
  split at g
  · rename_i q hq
    obtain ⟨p, rfl⟩ := asAsg_of hq
    obtain ⟨t, v⟩ := q
    simp only at g
    split at g
    · rename_i q2 hq2
      obtain ⟨p2, rfl⟩ := asSub_of hq2
      obtain ⟨to, ti⟩ := q2
      simp only [Bool.and_eq_true] at g
      obtain ⟨g1, g2, g3, g4⟩ := g
      have hu : X.A.units + 1 < cLine := by have := h.un; omega
      have hw : swappedStores [.Subscript to ti p2] v X.env = pure none := by cases v <;> rfl
      have hs : swapsWithSole [.Subscript to ti p2] v p.line X.env = pure false := by cases v <;> rfl
      refine ps_weak (ps_asg (sE e c X Y v h tk g4).1 (pg_sub (pos := p2) (sE o c X Y to h tk g2).1 (sE i c X Y ti h tk g3).1 (set_U hu) (by
        intro v
        cases ti <;> first | (cases g1; done) | rfl)) hs hw) fun D σ H w => ?_
      obtain ⟨r, hs, s, m, en, p⟩ := w
      simp only [exS] at p
      refine st_bind m en p fun d r1 H1 hs1 v x m1 e1 rv _ p1 => ?_
      refine st_bind m1 e1 p1 fun d2 r2 H2 hs2 v2 x2 m2 e2 rv2 _ p2 => ?_
      refine st_bind m2 e2 p2 fun d3 r3 H3 hs3 v3 x3 m3 e3 rv3 _ p3 => ?_
      unfold setIR at p3
      split at p3
      · rename_i hs4 h4
        exact q_set m3 (rv2.mono x3) rv3 (rv.mono (x2.trans x3)) h4 fun H' x4 m4 => p3 r3 H' σ x4 m4 (e3.mono x4)
      · exact False.elim p3
    · cases g
  · cases g
theorem ss_ex (e : Ex) : SS L k (.ex e) := by
  intro c X Y S h hf tk g
  simp only [chkS] at g
  split at g
  · rename_i x hx
    obtain ⟨p, rfl⟩ := asExpr_of hx
    simp only [Bool.and_eq_true, Bool.not_eq_true'] at g
    refine ps_weak (ps_expr (sE e c X Y x h tk g.2).1 (swaps_no g.1)) fun D σ H w => ?_
    obtain ⟨r, hs, s, m, en, p⟩ := w
    simp only [exS] at p
    refine st_bind m en p fun d r1 H1 hs1 v x m1 e1 rv _ p1 => ?_
    exact p1 r1 H1 σ (Ext.refl _ _) m1 e1
  · cases g
theorem ss_ret (e : Ex) : SS L k (.ret e) := by
  intro c X Y S h hf tk g
  simp only [chkS] at g
  split at g
  · rename_i x hx
    obtain ⟨p, rfl⟩ := asRet_of hx
    refine ps_weak (ps_ret (sE e c X Y x h tk g).1) fun D σ H w => ?_
    obtain ⟨r, hs, s, m, en, p⟩ := w
    simp only [exS] at p
    refine st_bind m en p fun d r1 H1 hs1 v x m1 e1 rv _ p1 => ?_
    exact p1 r1 H1 v (Ext.refl _ _) m1 rv
  · cases g
theorem ss_retN : SS L k .retN := by
  intro c X Y S h hf tk g
  simp only [chkS] at g
  split at g
  · rename_i hx
    obtain ⟨p, rfl⟩ := asRet_of hx
    refine ps_weak ps_retN fun D σ H w => ?_
    obtain ⟨r, hs, s, m, en, p⟩ := w
    simp only [exS] at p
    exact p r H _ (Ext.refl _ _) m .non
  · cases g
theorem ss_ite (q : Ex) {a b : Bl} (ha : SB L k a) (hb : SB L k b) : SS L k (.ite q a b) := by
  intro c X Y S h hf tk g
  simp only [chkS] at g
  split at g
  · rename_i x hx
    obtain ⟨p, rfl⟩ := asIfS_of hx
    simp only [Bool.and_eq_true] at g
    obtain ⟨g1, g2, g3⟩ := g
    refine ps_weak (ps_if (sE q c X Y _ h tk g1).2 (ha c X Y _ h hf tk g2) (hb c X Y _ h hf tk g3)) fun D σ H w => ?_
    obtain ⟨r, hs, s, m, en, p⟩ := w
    simp only [exS] at p
    refine st_bind m en p fun t r1 H1 hs1 t' x m1 e1 rv _ p1 => ?_
    subst rv
    cases t with
    | true => exact ⟨r1, hs1, s, m1, e1, p1⟩
    | false => exact ⟨r1, hs1, s, m1, e1, p1⟩
  · cases g
theorem sb_nil : SB L k .nil := by
  intro c X Y S h hf tk g
  simp only [chkB, List.isEmpty_iff] at g
  subst g
  refine pss_weak pss_nil fun D σ H w => ?_
  obtain ⟨r, hs, s, m, en, p⟩ := w
  simp only [exB] at p
  exact p r H σ (Ext.refl _ _) m en
theorem sb_cons {x : Sm} {b : Bl} (hx : SS L k x) (hb : SB L k b) : SB L k (.cons x b) := by
  intro c X Y S h hf tk g
  cases S with
  | nil => cases g
  | cons y t =>
    simp only [chkB, Bool.and_eq_true] at g
    refine pss_weak (pss_cons (hx c X Y y h hf tk g.1) (hb c X Y t h hf tk g.2)) fun D σ H w => ?_
    obtain ⟨r, hs, s, m, en, p⟩ := w
    simp only [exB] at p
    refine ⟨r, hs, s, m, en, ?_⟩
    cases q : exS (clOf L k) x s hs with
    | nx s2 h2 =>
      rw [q] at p
      exact fun r' H' σ' x' m' e' => ⟨r', h2, s2, m', e', PostS.mono p x'⟩
    | rt d h2 => rw [q] at p; exact p
    | bk s2 h2 => rw [q] at p; exact p
    | ct s2 h2 => rw [q] at p; exact p
    | exc d fs s2 h2 => rw [q] at p; exact p
    | bad => rw [q] at p; exact p
end
end Q

/-! statements, further ones -/
namespace Q
open PySem PySem.Spec PyProof.Rows L2
section
variable {L : Wl} {k : Nat}
theorem swap_par {env : Env} {x y : Str} {px py pt pt2 : Pos} {kt k2} {a b : Expr} (hk : env.scope.kind = .function) (hx : env.kindOf x = some .local) (hy : env.kindOf y = some .local) (hl : (px.line == py.line) = true) (ha : noStar a = true) (hb : noStar b = true)
    (hf : [a, b].all (foldedForSure 8) = false) (hc : [a, b].all (constantsAlone 8) = false) (hxy : (x == y) = false) : swappedStores [.Tuple [.Name x px, .Name y py] kt pt] (.Tuple [a, b] k2 pt2) env = pure (some [x, y]) := by
  have bk : env.blockKind = .function := by
    unfold Env.blockKind
    rw [hk]
    rfl
  have st : ∀ f : Expr → Bool, (∀ e, noStar e = true → f e = false) → [a, b].any f = false := by
    intro f h
    simp only [List.any_cons, List.any_nil, Bool.or_false, h a ha, h b hb, Bool.or_self]
  have l2 : (py.line == px.line) = true := by rw [beq_iff_eq] at hl ⊢; exact hl.symm
  have fm : ∀ f : Expr → Option Str, f (.Name x px) = some x → f (.Name y py) = some y → [Expr.Name x px, .Name y py].filterMap f = [x, y] := by
    intro f h1 h2
    simp only [List.filterMap_cons, List.filterMap_nil, h1, h2]
  have ed : [x, y].eraseDups = [x, y] := by
    have : (y == x) = false := by rw [beq_eq_false_iff_ne] at hxy ⊢; exact Ne.symm hxy
    simp [List.eraseDups_cons, this]
  unfold swappedStores
  simp only [List.length_cons, List.length_nil, bk, List.head?_cons, Option.map_some, Option.getD_some, Expr.pos, hf, hc]
  rw [st _ (fun e h => by cases e <;> first | (cases h; done) | rfl), fm _ (if_pos (by rw [hx]; simp)) (if_pos (by rw [hy, l2]; simp)), ed]
  rfl
theorem parB_of {c : Ck} {i j : Nat} {T V : Expr} {q : Expr × Expr} (h : parB c i j T V = some q) : ∃ x y px py k1 p1 k2 p2, T = .Tuple [.Name x px, .Name y py] k1 p1 ∧ V = .Tuple [q.1, q.2] k2 p2 ∧
    (atB c i x = true ∧ atB c j y = true ∧ i ≠ j) ∧ (c.sc.names.lookup x = some .local ∧ c.sc.names.lookup y = some .local ∧ (px.line == py.line) = true) ∧ (noStar q.1 = true ∧ noStar q.2 = true) ∧ c.sc.kind = .function ∧
    [q.1, q.2].all (foldedForSure 8) = false ∧ [q.1, q.2].all (constantsAlone 8) = false ∧ (x == y) = false := by
  unfold parB at h
  split at h
  · rename_i x px y py k1 p1 a b k2 p2
    split at h
    · rename_i hc
      cases h
      simp only [Bool.and_eq_true, decide_eq_true_eq, Bool.not_eq_true', beq_iff_eq] at hc
      obtain ⟨h1, h2, h3, h4, h5, h6, h7⟩ := hc
      exact ⟨x, y, px, py, k1, p1, k2, p2, rfl, rfl, h1, ⟨h2.1, h2.2.1, by rw [beq_iff_eq]; exact h2.2.2⟩, h3, h4, h5, h6, h7⟩
    · cases h
  · cases h
theorem ss_par (i j : Nat) (a b : Ex) : SS L k (.par i j a b) := by
  intro c X Y S h hf tk g
  simp only [chkS] at g
  split at g
  · rename_i q hq
    obtain ⟨p, rfl⟩ := asAsg_of hq
    obtain ⟨t, v⟩ := q
    simp only at g
    split at g
    · rename_i q2 hq2
      obtain ⟨x, y, px, py, k1, p1, k2, p2, e1, e2, ⟨h1, h2, h3⟩, ⟨h4, h5, h6⟩, ⟨h7, h8⟩, h9, h10, h11, h12⟩ := parB_of hq2
      subst e1 e2
      simp only [Bool.and_eq_true] at g
      obtain ⟨g1, g2, g3⟩ := g
      obtain ⟨hc, _⟩ := calm_hd h g1
      have kx : X.env.kindOf x = some .local := by unfold Env.kindOf; rw [h.sc]; exact h4
      have ky : X.env.kindOf y = some .local := by unfold Env.kindOf; rw [h.sc]; exact h5
      have hw := swap_par (env := X.env) (pt := p1) (pt2 := p2) (kt := k1) (k2 := k2) (by rw [h.sc]; exact h9) kx ky h6 h7 h8 h10 h11 h12
      refine ps_weak (ps_par hc h.nd (atB_ok h h1) (atB_ok h h2) h3 kx ky (pa_cons (sE a c X Y q2.1 h tk g2).1 (pa_cons (sE b c X Y q2.2 h tk g3).1 pa_nil (star_cons h8)) (star_cons h7)) hw rfl) fun D σ H w => ?_
      obtain ⟨r, hs, s, m, en, p⟩ := w
      simp only [exS] at p
      refine st_bind m en p fun d r1 H1 hs1 v x m1 e1 rv _ p1 => ?_
      refine st_bind m1 e1 p1 fun d2 r2 H2 hs2 v2 x2 m2 e2 rv2 _ p2 => ?_
      exact ⟨v, v2, rfl, p2 r2 H2 _ (Ext.refl _ _) m2 ((e2.set (rv.mono x2) i).set rv2 j)⟩
    · cases g
  · cases g

/-! ### while -/
theorem whU_some {c : Ev → Hs → R Bool} {b : Ev → Hs → SR} {s : Ev} {h : Hs} (e : whU c b s h ≠ .bad) : ∃ n, whI c b n s h = some (whU c b s h) := by
  unfold whU at e ⊢
  split at e
  · rename_i H
    exact ⟨H.choose, by rw [dif_pos H]; exact H.choose_spec.choose_spec⟩
  · exact absurd rfl e
theorem PostS.nb {D : Ends} {W : Wd} {Y : WX} {r : List Addr} {H : Hp} {res : SR} (p : PostS D W Y r H res) : res ≠ .bad := fun e => by rw [e] at p; exact p
theorem ss_whl (q : Ex) {a : Bl} (ha : SB L k a) : SS L k (.whl q a) := by
  intro c X Y S h hf tk g
  simp only [chkS] at g
  split at g
  · rename_i x hx
    obtain ⟨p, rfl⟩ := asWhl_of hx
    simp only [Bool.and_eq_true, Bool.not_eq_true'] at g
    obtain ⟨g1, g2, g3⟩ := g
    refine ps_weak (ps_while (hf g1).pass (sE q c X Y _ h tk g2).2 (ha c X Y _ h hf tk g3)) fun D σ H w => ?_
    obtain ⟨r, hs, s, m, en, p⟩ := w
    simp only [exS] at p
    obtain ⟨n, hn⟩ := whU_some p.nb
    generalize whU (fun s h => evT (clOf L k) q s h) (fun s h => exB (clOf L k) a s h) s hs = res at p hn
    refine ⟨fun n σ H => ∃ r hs s res, Mt (wdo X L) r H hs ∧ EnvR (wdo X L) r H s σ ∧ whI (fun s h => evT (clOf L k) q s h) (fun s h => exB (clOf L k) a s h) n s hs = some res ∧ PostS D (wdo X L) Y r H res, ⟨n, r, hs, s, res, m, en, hn, p⟩, ?_⟩
    rintro n σ H ⟨r, hs, s, res, m, en, hn, p⟩
    cases n with
    | zero => cases hn
    | succ n =>
      unfold whI at hn
      refine ⟨r, hs, s, m, en, ?_⟩
      cases q1 : evT (clOf L k) q s hs with
      | ok t h1 =>
        rw [q1] at hn
        intro r1 H1 t' x1 m1 et
        subst et
        cases t with
        | false =>
          simp only at hn
          cases hn
          exact p r1 H1 σ x1 m1 (en.mono x1)
        | true =>
          simp only at hn
          simp only [if_true]
          refine ⟨fun σ' H' => ∃ m', m' < n + 1 ∧ _, fun σ' H' z => z, r1, h1, s, m1, en.mono x1, ?_⟩
          cases q2 : exB (clOf L k) a s h1 with
          | nx s2 h2 =>
            rw [q2] at hn
            exact fun r2 H2 σ2 x2 m2 e2 => ⟨n, Nat.lt_succ_self n, r2, h2, s2, res, m2, e2, hn, PostS.mono p (x1.trans x2)⟩
          | ct s2 h2 =>
            rw [q2] at hn
            exact fun r2 H2 σ2 x2 m2 e2 => ⟨n, Nat.lt_succ_self n, r2, h2, s2, res, m2, e2, hn, PostS.mono p (x1.trans x2)⟩
          | bk s2 h2 =>
            rw [q2] at hn
            cases hn
            exact fun r2 H2 σ2 x2 m2 e2 => p r2 H2 σ2 (x1.trans x2) m2 e2
          | rt d h2 =>
            rw [q2] at hn
            cases hn
            exact fun r2 H2 v x2 m2 e2 => p r2 H2 v (x1.trans x2) m2 e2
          | exc d fs s2 h2 =>
            rw [q2] at hn
            cases hn
            exact fun r2 H2 σ2 cls dx x2 => p r2 H2 σ2 cls dx (x1.trans x2)
          | bad =>
            rw [q2] at hn
            cases hn
            exact p
      | exc d fs h1 =>
        rw [q1] at hn
        cases hn
        exact fun r2 H2 cls dx x2 m2 ex => p r2 H2 σ cls dx x2 m2 (en.mono x2) ex
      | bad =>
        rw [q1] at hn
        cases hn
        exact p
  · cases g

/-! ### for -/
theorem ss_for (tg : Tg) (it : It) {a : Bl} (ha : SB L k a) : SS L k (.for tg it a) := by
  intro c X Y S h hf tk g
  simp only [chkS] at g
  split at g
  · rename_i x hx
    obtain ⟨p, rfl⟩ := asFor_of hx
    simp only [Bool.and_eq_true, Bool.not_eq_true'] at g
    obtain ⟨⟨g1, g2⟩, g3, g4, g5⟩ := g
    obtain ⟨hc, _⟩ := h.calm g1
    refine ps_weak (ps_for (hf g1).pass hc (sI it c X Y _ _ h tk g3) (tgB_ok h hc g4) (ha c X Y _ h hf tk g5) (folded_ok g2)) fun D σ H w => ?_
    obtain ⟨r, hs, s, m, en, p⟩ := w
    simp only [exS] at p
    refine st_bind m en p fun w r1 H1 hs1 J x1 m1 e1 wk _ p1 => ?_
    generalize hG : forG tg (fun s h => exB (clOf L k) a s h) = G at p1
    refine ⟨fun i n σ H => ∃ r hs s, Ext r1 H1 r H ∧ Mt (wdo X L) r H hs ∧ EnvR (wdo X L) r H s σ ∧ PostS D (wdo X L) Y r H (forL w.ok G (w.items.drop i) s hs) ∧ n + i = w.items.length,
      ⟨w.items.length, r1, hs1, s, Ext.refl _ _, m1, e1, by simpa using p1, rfl⟩, ?_⟩
    rintro i n σ2 H2 ⟨r2, hs2, s2, x2, m2, e2, p2, hn⟩
    by_cases hil : i < w.items.length
    · refine .inr ?_
      rw [List.drop_eq_getElem_cons hil] at p2
      unfold forL at p2
      split at p2
      · rename_i hok
        obtain ⟨wk1, wk2, wk3⟩ := wk r2 H2 hs2 x2 m2 hok
        refine ⟨wk1 i hil, fun σ' H' => ∃ m', m' < n ∧ _, fun σ' H' z => z, fun xv H3 hy => ?_⟩
        obtain ⟨r3, x3, m3, rv⟩ := wk3 i xv H3 hy _ (List.getElem?_eq_getElem hil)
        rw [← hG] at p2
        unfold forG at p2
        cases hs3 : asg tg w.items[i] s2 with
        | none => rw [hs3] at p2; exact False.elim p2
        | some s3 =>
          rw [hs3] at p2
          refine asg_ok (P := fun _ => True) hs3 rv (e2.mono x3) trivial (fun _ _ _ _ _ => trivial) fun σ3 e3 _ => ⟨r3, hs2, s3, m3, e3, ?_⟩
          simp only at p2
          have x13 := x2.trans x3
          cases q2 : exB (clOf L k) a s3 hs2 with
          | nx s4 h4 =>
            rw [q2] at p2
            exact fun r4 H4 σ4 x4 m4 e4 => ⟨n - 1, by omega, r4, h4, s4, x13.trans x4, m4, e4, hG ▸ PostS.mono p2 (x3.trans x4), by omega⟩
          | ct s4 h4 =>
            rw [q2] at p2
            exact fun r4 H4 σ4 x4 m4 e4 => ⟨n - 1, by omega, r4, h4, s4, x13.trans x4, m4, e4, hG ▸ PostS.mono p2 (x3.trans x4), by omega⟩
          | bk s4 h4 =>
            rw [q2] at p2
            exact fun r4 H4 σ4 x4 m4 e4 => p2 r4 H4 σ4 (x3.trans x4) m4 e4
          | rt d h4 =>
            rw [q2] at p2
            exact fun r4 H4 v x4 m4 e4 => p2 r4 H4 v (x3.trans x4) m4 e4
          | exc d fs s4 h4 =>
            rw [q2] at p2
            exact fun r4 H4 σ4 cls dx x4 => p2 r4 H4 σ4 cls dx (x3.trans x4)
          | bad => rw [q2] at p2; exact p2
      · exact False.elim p2
    · refine .inl ?_
      rw [List.drop_eq_nil_of_le (by omega)] at p2
      unfold forL at p2
      split at p2
      · rename_i hok
        exact ⟨(wk r2 H2 hs2 x2 m2 hok).2.1 i (by omega), p2 r2 H2 σ2 (Ext.refl _ _) m2 e2⟩
      · exact False.elim p2
  · cases g
end
end Q

/-! raise, try; the theorem -/
namespace Q
open PySem PySem.Spec PyProof.Rows L2
section
variable {L : Wl} {k : Nat}
theorem plain_facts {d : Cn} (h : d.plainExc = true) : d.isExc = true ∧ d.flds = [] := by
  cases d <;> first | (cases h; done) | exact ⟨rfl, rfl⟩
/-- an exception's fields, the last one first -/
theorem lk_zip (d : Cn) (vs : List V) (h : vs.length = d.flds.length) : LkAll d.flds vs ((d.flds.map fN).zip vs).reverse := by
  cases d <;> simp only [Cn.flds] at h ⊢ <;> (first
    | (have e : vs = [] := List.eq_nil_of_length_eq_zero h
       subst e; trivial)
    | (obtain ⟨v, rfl⟩ := List.length_eq_one_iff.mp h
       simp [LkAll])
    | (obtain ⟨v, w, rfl⟩ : ∃ v w, vs = [v, w] := by
         match vs, h with
         | [v, w], _ => exact ⟨v, w, rfl⟩
       simp only [LkAll, List.map_cons, List.map_nil, List.zip_cons_cons, List.zip_nil_right, List.reverse_cons, List.reverse_nil, List.nil_append, List.cons_append, List.lookup_cons]
       refine ⟨?_, ?_, trivial⟩
       · rw [show (fN _ == fN _) = false from by rw [beq_eq_false_iff_ne]; exact fun e => absurd (fN_inj e) (by decide)]
         simp
       · simp))
theorem own_end {K : PySem.W.Frag} {C a : Addr} {flds : List String} {vs : List V} {H1 : Hp} {Q : XK} (T : OexC K C) (hl : vs.length = flds.length) (hn : ∀ f ∈ flds, PySem.W.findIn K (.ref C) (fN f) = some none)
    (q : ∀ dx, H1 dx = none → Q (.ref C) (some dx) (upd H1 dx (.xd ((flds.map fN).zip vs).reverse))) (na : H1 a = none) :
    spX K flds (.ref a :: (vs ++ [])) (upd H1 a (exo a C none)) (fun v H2 => v = .non ∧ ∃ (d : Addr) (fs : List (Str × V)), H2 a = some (exo a C (some d)) ∧ H2 d = some (exd d fs) ∧ H1 d = none ∧ Q (.ref C) (some d) (upd (del H2 a) d (.xd fs))) (fun _ _ _ => False) := by
  refine ⟨a, C, vs, by rw [List.append_nil], hl, upd_same, T, hn, fun dx n1 n2 => ?_⟩
  have n3 : H1 dx = none := by rw [upd_ne n2] at n1; exact n1
  refine ⟨rfl, dx, ((flds.map fN).zip vs).reverse, by rw [upd_ne (Ne.symm n2), upd_same], upd_same, n3, ?_⟩
  have eu : upd (del (upd (upd (upd H1 a (exo a C none)) a (exo a C (some dx))) dx (exd dx ((flds.map fN).zip vs).reverse)) a) dx (.xd ((flds.map fN).zip vs).reverse) = upd H1 dx (.xd ((flds.map fN).zip vs).reverse) := by
    funext b
    by_cases hb : b = dx
    · rw [hb, upd_same, upd_same]
    · rw [upd_ne hb, upd_ne hb]
      by_cases hb2 : b = a
      · rw [hb2, del_same, na]
      · rw [del_ne hb2, upd_ne hb, upd_ne hb2, upd_ne hb2]
  rw [eu]
  exact q dx n3
theorem ss_raise (d : Cn) (es : Exs) : SS L k (.raise d es) := by
  intro c X Y S h hf tk g
  simp only [chkS] at g
  split at g
  · rename_i e he
    obtain ⟨p, rfl⟩ := asRaise_of he
    split at g
    · rename_i q hq
      obtain ⟨p1, p2, rfl⟩ := asCall_of hq
      obtain ⟨x, l⟩ := q
      simp only [Bool.and_eq_true, beq_iff_eq, decide_eq_true_eq] at g
      obtain ⟨⟨⟨g1, g2⟩, g3, g4⟩, g5, g6, g7⟩ := g
      obtain ⟨hc, hr⟩ := calm_hd h g1
      obtain ⟨k1, k2⟩ := glB_ok h g3
      obtain ⟨m1, m2, m3⟩ := h.cns x d g4
      cases gp : d.plainExc with
      | false =>
        rw [gp, Bool.false_or] at g2
        simp only [Bool.and_eq_true, beq_iff_eq] at g2
        obtain ⟨f1, f2, f3⟩ := g2
        obtain ⟨_, _, i3⟩ := h.ini _ d f2
        obtain ⟨ai, fd, nm, qual, st, N, T, j1, j2, F, hf, hS⟩ := i3 f1
        obtain ⟨F1, B1⟩ := initx_fn (P := X.prog) (w := X.w) (base := X.base) F hf 0 hS
        cases l with
        | nil => cases g6
        | cons y l =>
          have hst := (chkEs_len g5).2
          rw [List.all_cons, Bool.and_eq_true] at hst
          refine ps_weak (ps_raise hc tk (pmk_oex (dvs := []) (ds := []) T j1 j2 F1 (hr.mono (by omega)) B1 .nil passL k1 m2 (sEs es c X Y (y :: l) h tk g5).1 k2 (star_cons hst.1) (star_none hst.2))) fun D σ H w => ?_
          obtain ⟨r, hs, s, m, en, p⟩ := w
          simp only [exS] at p
          refine st_bind m en p fun ds r1 H1 hs1 vs x1 m1' e1 rv q p1 => ?_
          unfold raiseR excO at p1
          rw [gp, if_neg (by decide)] at p1
          split at p1
          · rename_i fs hfs
            split at hfs
            · rename_i hl
              cases hfs
              have hlv : vs.length = d.flds.length := by rw [rv.length]; exact hl.2
              refine ⟨by rw [rv.length, evs_len q, (chkEs_len g5).1]; exact g7, fun a na => own_end (Q := fun cls d H' => Y cls d σ H') T hlv (fun f hf => h.noat d f m1 (flds_known d f hf)) (fun dx n1 => ?_) na⟩
              have m2' := m1'.new n1 (.xd ((d.flds.map fN).zip vs).reverse)
              have x2 := ext_new (r := r1) n1 (.xd ((d.flds.map fN).zip vs).reverse)
              exact p1 r1 _ σ _ (some dx) x2 m2' (e1.mono x2) ⟨⟨f1, m1⟩, rfl, .inr ⟨dx, _, vs, rfl, upd_same, m1'.notNew n1, rv.mono x2, lk_zip d vs hlv, hl.2⟩⟩
            · cases hfs
          · exact False.elim p1
      | true =>
      obtain ⟨bmB, B, newId, initId, F, q1, q2⟩ := h.pex d m1 gp
      obtain ⟨f1, f2⟩ := plain_facts gp
      have g2 := gp
      cases l with
      | nil => cases g6
      | cons y l =>
        have hst := (chkEs_len g5).2
        rw [List.all_cons, Bool.and_eq_true] at hst
        refine ps_weak (ps_raise hc tk (pmk_ownA F q1 m2 m3 q2 k1 (sEs es c X Y (y :: l) h tk g5).1 k2 (star_cons hst.1) (star_none hst.2))) fun D σ H w => ?_
        obtain ⟨r, hs, s, m, en, p⟩ := w
        simp only [exS] at p
        refine st_bind m en p fun ds r1 H1 hs1 vs x1 m1' e1 rv q p1 => ⟨?_, ?_⟩
        · rw [rv.length, evs_len q, (chkEs_len g5).1, sl_eq]
          exact Nat.le_trans g7 (by decide)
        · unfold raiseR excO at p1
          rw [if_pos g2] at p1
          split at p1
          · rename_i fs hfs
            split at hfs
            · cases hfs
              exact p1 r1 H1 σ _ none (Ext.refl _ _) m1' e1 ⟨⟨f1, m1⟩, rfl, .inl ⟨f2, rfl, rfl⟩⟩
            · cases hfs
          · exact False.elim p1
    · cases g
  · cases g
theorem suite_ok {c : Ck} {X : Cx} {a : Addr} {pn : List (Addr × Obj)} (h : XOk L k c X) : XOk L k { c with hot := true } (X.suite a pn) where
  sc := h.sc
  N := h.N
  nd := h.nd
  fn := h.fn
  calm := fun z => nomatch z
  un := h.un
  cls := h.cls
  noat := h.noat
  blt := h.blt
  fns := h.fns
  cns := h.cns
  exm := h.exm
  pex := h.pex
  con := h.con
  mts := h.mts
  ini := h.ini
theorem tr_ok {c : Ck} {X : Cx} {xe : Value → Shared → Prop} {pn : List (Addr × Obj)} (h : XOk L k c X) : XOk L k c (X.tr pn xe) where
  sc := h.sc
  N := h.N
  nd := h.nd
  fn := h.fn
  calm := h.calm
  un := h.un
  cls := h.cls
  noat := h.noat
  blt := h.blt
  fns := h.fns
  cns := h.cns
  exm := h.exm
  pex := h.pex
  con := h.con
  mts := h.mts
  ini := h.ini
/-- a caught exception, known -/
theorem exc_known {W : Wd} {r : List Addr} {H : Hp} {hs : Hs} {d : Cn} {fs : List D} {cls : Value} {dx : Option Addr} {a : Addr} (m : Mt W r H hs) (ha : H a = none) (e : ExR W r H d fs cls dx) : Rv W r (upd H a (exT a (W.C d) dx)) (.obj d fs) (.ref a) := by
  have x := ext_new (r := r) ha (exT a (W.C d) dx)
  have e2 := e.mono x
  obtain ⟨⟨h1, h2⟩, h3, h4⟩ := e2
  rcases h4 with ⟨f1, rfl, rfl⟩ | ⟨dd, l, vs, rfl, g1, g2, g3, g4, g5⟩
  · exact .exc0 h2 h1 f1 upd_same (m.notNew ha)
  · exact .exc1 h2 h1 upd_same (m.notNew ha) g1 g2 g3 g4 g5
theorem sh_nil : SH L k .nil := by
  intro c X Y S h hh hf tk g
  simp only [chkH, List.isEmpty_iff] at g
  subst g
  refine ⟨[], .nil, fun D d fs s h r H p r' H' σ' cls dx x m e ex => ?_⟩
  simp only [exH] at p
  exact p r' H' σ' cls dx x m e ex
def goneE (i : Option Nat) (s : Ev) : Ev := match i with
  | some i => s.set i none
  | none => s
def putE (i : Option Nat) (d : D) (s : Ev) : Ev := match i with
  | some i => s.set i (some d)
  | none => s
theorem suite_eq (i : Option Nat) (c : Cn) (fs : List D) (s : Ev) (b : Ev → Hs → SR) (h : Hs) : suite i c fs s b h = match b (putE i (.obj c fs) s) h with
    | .nx s h => .nx (goneE i s) h
    | .rt d h => .rt d h
    | _ => .bad := by
  cases i <;> rfl
theorem sh_cons (d : Cn) (i : Option Nat) {b : Bl} {r : Hds} (hb : SB L k b) (hr : SH L k r) : SH L k (.cons d i b r) := by
  intro c X Y S h hh hf tk g
  simp only [chkH] at g
  split at g
  · rename_i x p1 nm y t p2 l2
    simp only [Bool.and_eq_true, beq_iff_eq] at g
    obtain ⟨⟨⟨g1, g2⟩, g3, g4⟩, g5, g6⟩ := g
    obtain ⟨k1, k2⟩ := glB_ok h g1
    obtain ⟨m1, m2, m3⟩ := h.cns x d g2
    obtain ⟨l, hl, hw⟩ := hr c X Y l2 h hh hf tk g6
    have nms : Names X x (.ref (L.C d)) := ⟨k1, k2, .inl m2⟩
    have su : ∀ (a : Addr) (pn : List (Addr × Obj)), PSs (X.suite a pn) (y :: t) (rdS (wdo X L) noX (exB (clOf L k) b)) := fun a pn => hb { c with hot := true } (X.suite a pn) noX (y :: t) (suite_ok h) (fun z => nomatch z) takes0 g5
    refine ⟨⟨.ref (L.C d), i, rdS (wdo X L) noX (exB (clOf L k) b)⟩ :: l, ?_, fun D d' fs s hs r H p r' H' σ' cls dx x m e ex => ?_⟩
    · cases i with
      | none =>
        cases nm with
        | none => exact .plain nms su hl
        | some n => cases g4
      | some i =>
        cases nm with
        | none => cases g4
        | some n =>
          simp only [Bool.and_eq_true, beq_iff_eq] at g4
          exact .named nms (atB_ok h g4.1) (by unfold Env.kindOf; rw [h.sc]; exact g4.2) su hl
    · obtain ⟨⟨e1, e2⟩, e3, e4⟩ := id ex
      refine ⟨d'.under d, by rw [e3]; exact h.exm d' d e2 m1 e1 g3, fun hu => ⟨L.C d', e3, fun a ha => ?_⟩, fun hu => ?_⟩
      · simp only [exH, hu, if_true] at p
        rw [suite_eq] at p
        have xn := ext_new (r := r') ha (exT a (L.C d') dx)
        have rv := exc_known m ha ex
        refine ⟨r', hs, putE i (.obj d' fs) s, m.new ha _, ?_, ?_⟩
        · cases i with
          | none => exact e.mono xn
          | some i => exact (e.mono xn).set rv i
        · cases q : exB (clOf L k) b (putE i (.obj d' fs) s) hs with
          | nx s2 h2 =>
            rw [q] at p
            intro r2 H2 σ2 x2 m2 en2
            refine p r2 H2 _ (x.trans (xn.trans x2)) m2 ?_
            cases i with
            | none => exact en2
            | some i => exact en2.gone i
          | rt d h2 =>
            rw [q] at p
            exact fun r2 H2 v x2 m2 rv2 => p r2 H2 v (x.trans (xn.trans x2)) m2 rv2
          | bk s2 h2 => rw [q] at p; exact p.elim
          | ct s2 h2 => rw [q] at p; exact p.elim
          | exc d fs s2 h2 => rw [q] at p; exact p.elim
          | bad => rw [q] at p; exact p.elim
      · simp only [exH, hu] at p
        exact hw D d' fs s hs r H p r' H' σ' cls dx x m e ex
  · cases g
theorem ss_try {a : Bl} {hs : Hds} (ha : SB L k a) (hh : SH L k hs) : SS L k (.try a hs) := by
  intro c X Y S h hf tk g
  simp only [chkS] at g
  split at g
  · rename_i q hq
    obtain ⟨p, rfl⟩ := asTry_of hq
    obtain ⟨b, hds⟩ := q
    simp only [Bool.and_eq_true, Bool.not_eq_true'] at g
    obtain ⟨⟨g1, g2⟩, g3, g4⟩ := g
    have F := hf g1
    obtain ⟨l, hl, hw⟩ := hh c X Y hds h g1 F tk g4
    cases hds with
    | nil => cases g2
    | cons hd hds =>
      refine ps_weak (ps_tryU (tb := fun W => rdS (wdo X L) W (exB (clOf L k) a)) F.st F.fr F.ex h.nd tk (fun W pn xe tk2 pa => ha c (X.tr pn xe) W b (tr_ok h) (fun _ => ⟨F.st, F.fr, F.ex, pa⟩) tk2 g3) hl) fun D σ H w => ?_
      obtain ⟨r, hs', s, m, en, p⟩ := w
      simp only [exS] at p
      refine ⟨r, hs', s, m, en, ?_⟩
      cases q : exB (clOf L k) a s hs' with
      | nx s2 h2 => rw [q] at p; exact p
      | rt d h2 => rw [q] at p; exact p
      | bk s2 h2 => rw [q] at p; exact p
      | ct s2 h2 => rw [q] at p; exact p
      | exc d fs s2 h2 =>
        rw [q] at p
        exact fun r' H' σ' cls dx x m' e' ex => hw D d fs s2 h2 r H p r' H' σ' cls dx x m' e' ex
      | bad => rw [q] at p; exact p
  · cases g
mutual
theorem sS : ∀ s : Sm, SS L k s
  | .pass => ss_pass
  | .set i e => ss_set i e
  | .setT is e => ss_setT is e
  | .par i j a b => ss_par i j a b
  | .setI o i e => ss_setI o i e
  | .ex e => ss_ex e
  | .ret e => ss_ret e
  | .retN => ss_retN
  | .ite q a b => ss_ite q (sB a) (sB b)
  | .whl q a => ss_whl q (sB a)
  | .for tg it a => ss_for tg it (sB a)
  | .brk => ss_brk
  | .cnt => ss_cnt
  | .raise d es => ss_raise d es
  | .try a hs => ss_try (sB a) (sH hs)
theorem sB : ∀ b : Bl, SB L k b
  | .nil => sb_nil
  | .cons x r => sb_cons (sS x) (sB r)
theorem sH : ∀ hs : Hds, SH L k hs
  | .nil => sh_nil
  | .cons d i b r => sh_cons d i (sB b) (sH r)
end
end
end Q

/-! defs -/
namespace Q
open PySem PySem.Spec PyProof.Rows L2
/-- a def of the given text is mine -/
def fnB (G : List (Str × Gn)) (g : Fn) (N : List Str) (st : Stmt) : Bool := match plainOf (defArgs st) with
  | some as => (decide (as.length = g.np) && (N.take g.np == as.map (·.arg) && (decide (N.length = g.ns) && nodupB N))) &&
    ((decide ((defScope st).kind = .function) && (!(defScope st).isCoroutine && !(defScope st).isGenerator)) &&
    ((as.all (fun a => (defScope st).names.lookup a.arg == some .local || (defScope st).names.lookup a.arg == some .cell) && (defScope st).names.all (fun y => decide (y.2 ≠ .free))) &&
    chkB ⟨G, defScope st, N, fun _ => true, false⟩ g.body (defBody st)))
  | none => false
theorem fnB_ok {G : List (Str × Gn)} {g : Fn} {N : List Str} {st : Stmt} (h : fnB G g N st = true) : ∃ as, defArgs st = plainArgs as ∧ as.length = g.np ∧ N.length = g.ns ∧ FnScope N (as.map (·.arg)) (defScope st) ∧ (as.map (·.arg)).Nodup ∧ chkB ⟨G, defScope st, N, fun _ => true, false⟩ g.body (defBody st) = true := by
  unfold fnB at h
  split at h
  · rename_i as has
    simp only [Bool.and_eq_true, decide_eq_true_eq, beq_iff_eq, Bool.not_eq_true', List.all_eq_true, Bool.or_eq_true] at h
    obtain ⟨⟨h1, h2, h3, h4⟩, ⟨h5, h6, h7⟩, ⟨h8, h9⟩, h10⟩ := h
    have nd := nodupB_ok h4
    refine ⟨as, plainOf_of has, h1, h3, ⟨h5, h6, h7, nd, by rw [List.length_map, h1]; exact h2, fun x hx => ?_, h9⟩, by rw [← h2]; exact nd.sublist (List.take_sublist _ _), h10⟩
    obtain ⟨a, ha, rfl⟩ := List.mem_map.mp hx
    exact h8 a ha
  · cases h
/-- what stands behind the top: classes, constants, built-in names -/
structure SOk (L : Wl) (G : List (Str × Gn)) (K : PySem.W.Frag) (mg : Str → Option Value) : Prop where
  cls : ClsOk ⟨K, L.C, L.has⟩
  noat : ∀ (d : Cn) (f : String), L.has d = true → fldKnown f = true → NoAttr K (L.C d) (fN f)
  blt : ∀ x, x ∈ bltN → mg x = none
  cns : ∀ x d, G.lookup x = some (.cl d) → L.has d = true ∧ mg x = some (.ref (L.C d)) ∧ PySem.W.keepIn K (.ref (L.C d)) = true
  exm : ∀ d e : Cn, L.has d = true → L.has e = true → d.isExc = true → e.isExc = true → PySem.W.exmOne K (.ref (L.C d)) (.ref (L.C e)) = some (d.under e)
  pex : ∀ d : Cn, L.has d = true → d.plainExc = true → PlainX K (L.C d)
  con : ∀ x y, G.lookup x = some (.con y) → ∃ d v u, L.T.con y = some d ∧ mg x = some u ∧ L2.RelV v u ∧ ∀ r H, Rv ⟨K, L.C, L.has⟩ r H d v
  ini : ∀ x d, G.lookup x = some (.mk d) → IniS L G K mg d
/-- a def of the text -/
def DefAt (L : Wl) (G : List (Str × Gn)) (K : PySem.W.Frag) (f : String) (a : Addr) (fd : FuncData) (ps : List Str) : Prop :=
  ∃ (g : Fn) (nm qual : Str) (st : Stmt) (N : List Str), L.T.fn f = some g ∧ Fun K nm qual st a fd ∧ fnB G g N st = true ∧ ps = (defArgs st).args.map (·.arg)
theorem DefAt.facts {L : Wl} {G : List (Str × Gn)} {K : PySem.W.Frag} {f : String} {a : Addr} {fd : FuncData} {ps : List Str} (d : DefAt L G K f a fd ps) :
    PySem.W.keepIn K (.ref a) = true ∧ Binds K fd ps [] ∧ (∀ us : List Value, us.length = ps.length → bindArgs fd ⟨us, []⟩ = pure (ps.zip us)) ∧ ∃ g, L.T.fn f = some g ∧ ps.length = g.np := by
  obtain ⟨g, nm, qual, st, N, h1, h3, h4, rfl⟩ := d
  obtain ⟨as, e1, e2, e3, e4, e5, e6⟩ := fnB_ok h4
  have ea : (defArgs st).args = as := by rw [e1]; rfl
  rw [ea]
  refine ⟨h3.kp, h3.binds fun kV doc pm an cdv ct us hl => bind_plain e1 rfl (by simpa using hl) e5, fun us hl => ?_, g, h1, by simpa using e2⟩
  obtain ⟨oc, od, kV, doc, pm, an, cdv, ct, osl, rfl, _, _⟩ := h3.ex
  exact bind_plain e1 rfl (by simpa using hl) e5
/-- a def behind the top -/
def DefOk (L : Wl) (G : List (Str × Gn)) (K : PySem.W.Frag) (mg : Str → Option Value) (x : Str) (f : String) : Prop := ∃ a fd ps, mg x = some (.ref a) ∧ DefAt L G K f a fd ps
/-- a method of a class -/
def MtOk (L : Wl) (G : List (Str × Gn)) (K : PySem.W.Frag) (c : Cn) (m f : String) : Prop := (L.has c = true ∧ c.isExc = false) ∧ ∃ a fd ps, Meth K (L.C c) (fN m) a ∧ DefAt L G K f a fd ps
theorem start_env {W : Wd} {r : List Addr} {H : Hp} {ds : List D} {vs : List V} (t : Rvs W r H ds vs) {n : Nat} {N : List Str} (hN : N.length = n) : EnvR W r H (start n ds) (L2.start N vs) := by
  have hl := t.length
  unfold start L2.start
  refine ⟨by simp [hl, hN], fun i d h => ?_⟩
  by_cases hi : i < ds.length
  · rw [List.getElem?_append_left (by simpa using hi), List.getElem?_map] at h
    cases q : ds[i]? with
    | none => rw [q] at h; cases h
    | some e =>
      rw [q] at h
      cases h
      obtain ⟨v, h1, h2⟩ := t.get q
      refine ⟨v, ?_, h2⟩
      rw [List.getElem?_append_left (by simp [hl]; exact hi), List.getElem?_map, h1]
      rfl
  · rw [List.getElem?_append_right (by simp; omega), List.getElem?_replicate] at h
    split at h
    · cases h
    · cases h
theorem call_some {T : Tab} {k : Nat} {f : String} {g : Fn} {ds : List D} {hs : Hs} (hg : T.fn f = some g) (h : call T (k + 1) f ds hs ≠ .bad) : ds.length = g.np ∧ call T (k + 1) f ds hs = (exB ⟨T, call T k⟩ g.body (start g.ns ds) hs).fin := by
  simp only [call, hg] at h ⊢
  split
  · rename_i h1; exact ⟨h1, rfl⟩
  · rename_i h1; rw [if_neg h1] at h; exact absurd rfl h
theorem Post.nb {α β : Type} {rel : List Addr → Hp → α → β → Prop} {W : Wd} {X : WX} {σ : L2.St} {r : List Addr} {H : Hp} {res : R α} {Q : β → Hp → Prop} (p : Post rel W X σ r H res Q) : res ≠ .bad := fun e => by rw [e] at p; exact p
theorem fns_ok {L : Wl} {G : List (Str × Gn)} {P : Program} {w : World} {K : PySem.W.Frag} {mg : Str → Option Value} {base : Heap} (S : SOk L G K mg) (D : ∀ x f, G.lookup x = some (.fn f) → DefOk L G K mg x f) (MM : ∀ c m f, L.T.meth c m = some f → MtOk L G K c m f) :
    ∀ (k : Nat) (f : String) (a : Addr) (fd : FuncData) (ps : List Str), DefAt L G K f a fd ps → FnOk P w K mg base (L2.CX P w) (k + 2) a fd ps (spF ⟨K, L.C, L.has⟩ L.T f k)
  | 0, f, a, fd, ps, _ => by
    have no : ∀ {vs H Q E}, ¬ spF ⟨K, L.C, L.has⟩ L.T f 0 vs H Q E := fun ⟨r, hs, ds, _, _, p⟩ => p
    exact ⟨fun vs H Q E h => (no h).elim, fun _ _ _ _ _ _ _ _ _ _ _ _ _ h => (no h).elim⟩
  | k + 1, f, a, fd, ps, d => by
    obtain ⟨g, nm, qual, st, N, h1, h3, h4, rfl⟩ := d
    obtain ⟨as, e1, e2, e3, e4, e5, e6⟩ := fnB_ok h4
    have ea : (defArgs st).args = as := by rw [e1]; rfl
    rw [ea]
    refine h3.okX e4 (fun vs H Q E h => ?_) fun cdv A outer s H vs Q E hr h => ?_
    · obtain ⟨r, hs, ds, m, t, p⟩ := h
      rw [t.length, (call_some h1 p.nb).1, List.length_map, e2]
    · obtain ⟨r, hs, ds, m, t, p⟩ := h
      obtain ⟨q1, q2⟩ := call_some h1 p.nb
      rw [q2] at p
      let X : Cx := cxOf (L2.CX P w) P w K mg base N qual (defScope st) a cdv A outer s H E
      have XO : XOk L k ⟨G, defScope st, N, fun _ => true, false⟩ X := {
        sc := rfl
        N := rfl
        nd := e4.nd
        fn := fun _ _ => rfl
        calm := fun _ => ⟨rfl, hr⟩
        un := by have := hr.un; show (A.deeper _).units + 160 < cLine; omega
        cls := S.cls
        noat := S.noat
        blt := S.blt
        fns := fun x f hf => by
          obtain ⟨a, fd, ps, q1, q⟩ := D x f hf
          obtain ⟨q2, q3, _⟩ := q.facts
          exact ⟨a, fd, ps, q1, q2, fns_ok S D MM k f a fd ps q, q3⟩
        mts := fun c m f hf => by
          obtain ⟨h0, a, fd, ps, q1, q⟩ := MM c m f hf
          obtain ⟨q2, q3, _⟩ := q.facts
          exact ⟨h0, a, fd, ps, q1, fns_ok S D MM k f a fd ps q, q3⟩
        ini := S.ini
        cns := S.cns
        exm := S.exm
        pex := S.pex
        con := S.con }
      have FO : FOk X := ⟨rfl, rfl, rfl, passes_of rfl⟩
      refine ⟨_, sB g.body _ X (fun cls d _ H => E cls d H) (defBody st) XO (fun _ => FO) (takes_of rfl rfl rfl rfl) e6, r, hs, start g.ns ds, m, start_env t e3, ?_⟩
      show PostS _ _ _ _ _ (exB ⟨L.T, call L.T k⟩ g.body (start g.ns ds) hs)
      cases q : exB ⟨L.T, call L.T k⟩ g.body (start g.ns ds) hs with
      | nx s2 h2 => rw [q] at p; exact fun r' H' σ x m' _ => p r' H' .non x m' .non
      | rt d h2 => rw [q] at p; exact p
      | bk s2 h2 => rw [q] at p; exact p.elim
      | ct s2 h2 => rw [q] at p; exact p.elim
      | exc d fs s2 h2 => rw [q] at p; exact fun r' H' σ cls dx x m' _ ex => p r' H' cls dx x m' ex
      | bad => rw [q] at p; exact p.elim
end Q

/-! the head: what stands behind the top -/
namespace Q
open PySem PySem.Spec PyProof.Rows L2

/-- the part of the heap that the names reach, without its lists -/
def frN (g : Addr → Option Obj) (as : List Addr) : PySem.W.Frag := (He.frG g as).filter fun p => decide (p.2.cls ≠ .type "list")
theorem lookup_mem {α β : Type} [BEq α] [LawfulBEq α] : ∀ {l : List (α × β)} {a : α} {b : β}, l.lookup a = some b → (a, b) ∈ l
  | [], _, _, h => by cases h
  | (x, y) :: l, a, b, h => by
    rw [List.lookup_cons] at h
    cases e : a == x with
    | true =>
      rw [e] at h
      cases h
      rw [beq_iff_eq.mp e]
      exact List.mem_cons_self
    | false =>
      rw [e] at h
      exact List.mem_cons_of_mem _ (lookup_mem h)
theorem frG_mem {g : Addr → Option Obj} {as : List Addr} {a : Addr} {o : Obj} (h : (a, o) ∈ He.frG g as) : g a = some o := by
  unfold He.frG at h
  obtain ⟨b, hb, e⟩ := List.mem_filterMap.mp h
  cases q : g b with
  | none => rw [q] at e; cases e
  | some ob => rw [q] at e; cases e; exact q
theorem frN_in {h : Heap} {as : List Addr} : (frN h.get? as).In h := fun a o e => frG_mem (List.mem_filter.mp (lookup_mem e)).1
theorem frN_nl {g : Addr → Option Obj} {as : List Addr} {a : Addr} {o : Obj} (e : (frN g as).lookup a = some o) : o.cls ≠ .type "list" := by
  have h := (List.mem_filter.mp (lookup_mem e)).2
  simpa using h
abbrev AlQ : Type := Bool × List He.FnV
def obsQ (ck : PySem.W.Frag → Bool) (fn : List He.FnD) (K : PySem.W.Frag) : AlQ := (ck K && fn.all fun d => (He.Fa.code d.at_ d.qual).ok K, fn.map fun d => He.fnObs K d.at_)
def valQ (fn : List He.FnD) : AlQ := (true, fn.map He.FnD.val)
def SaysQ (ck : PySem.W.Frag → Bool) (fn : List He.FnD) (K : PySem.W.Frag) : Prop := obsQ ck fn K = valQ fn
def obsQG (n : Nat) (ck : PySem.W.Frag → Bool) (fn : List He.FnD) (g : Addr → Option Obj) : AlQ := obsQ ck fn (frN g (He.asG g n ++ [cStatics]))
def hookQ (n : Nat) (ck : PySem.W.Frag → Bool) (fn : List He.FnD) : PySem.W.Hook where
  α := AlQ
  obs := fun s => obsQG n ck fn s.heap.get?
  val := fun _ => valQ fn
  says := fun _ h => ∃ K : PySem.W.Frag, K.In h ∧ (∀ a o, K.lookup a = some o → o.cls ≠ .type "list") ∧ SaysQ ck fn K
  of := fun _ _ e => ⟨_, frN_in, fun _ _ z => frN_nl z, e⟩
  keeps := fun _ _ _ ⟨K, hK, hl, c⟩ k => ⟨K, PySem.W.Frag.In.keeps hK k, hl, c⟩
theorem obsQG_eq {n : Nat} {ck : PySem.W.Frag → Bool} {fn : List He.FnD} {g : Addr → Option Obj} {s : Shared} (h : ∀ a, g a = s.heap.get? a) : obsQG n ck fn g = (hookQ n ck fn).obs s := by
  have e : g = s.heap.get? := funext h
  rw [e] <;> rfl
theorem SaysQ.ck {ck : PySem.W.Frag → Bool} {fn : List He.FnD} {K : PySem.W.Frag} (c : SaysQ ck fn K) : ck K = true :=
  (He.ba (show (ck K && fn.all fun d => (He.Fa.code d.at_ d.qual).ok K) = true from congrArg (fun z : AlQ => z.1) c)).1
theorem SaysQ.def_ {ck : PySem.W.Frag → Bool} {fn : List He.FnD} {K : PySem.W.Frag} (c : SaysQ ck fn K) {d : He.FnD} (h : d ∈ fn) :
    ∃ oc od osl kV doc pm an cdv ct, K.lookup (He.fAd K d.at_) = some ⟨oc, od, .func (PySem.W.fnOf d.name d.qual d.params d.body d.scope .none kV doc pm an cdv ct), osl⟩ ∧ PySem.W.codeIn K cdv d.qual = true := by
  have c2 := (He.ba (show (ck K && fn.all fun d => (He.Fa.code d.at_ d.qual).ok K) = true from congrArg (fun z : AlQ => z.1) c)).2
  have e : fn.map (fun d => He.fnObs K d.at_) = fn.map He.FnD.val := congrArg (fun z : AlQ => z.2) c
  exact He.fn_ok (List.map_inj_left.mp e d h) (List.all_eq_true.mp c2 d h)

/-! ### a law's data -/
def cA (K : PySem.W.Frag) (c : Cn) : Addr := He.ga K (Str.ofString c.name)
/-- the j-th statement of a class -/
def inCls (s : Stmt) (j : Nat) : Stmt := match s with
  | .ClassDef (body := b) .. => b.getD j (.Pass ⟨0, 0, 0, 0⟩)
  | s => s
/-- one def of the given text: x a global's name, m a method's of the class x -/
structure DD where
  x : String
  m : Option String
  nm : String
  qual : String
  st : Stmt
  key : String
  g : Fn
  N : List Str
/-- an __init__ of the class x -/
structure DI where
  x : String
  qual : String
  st : Stmt
  N : List Str
def DI.at_ (d : DI) : Str × Option Str := (Str.ofString d.x, some "__init__")
def DD.at_ (d : DD) : Str × Option Str := (Str.ofString d.x, d.m.map fN)
/-- a law's world: its defs, its classes, its constants, its __init__s, the classes that are made (by whose __init__), the methods of the classes -/
structure Lw where
  ds : List DD
  cs : List Cn
  ks : List (String × String × D)
  is : List DI
  im : List (Cn × Option String)
  mt : List (Cn × String × String)
  dic : String → Option (List (Str × D))
def Lw.G (l : Lw) : List (Str × Gn) := ((l.ds.filter fun d => d.m.isNone).map fun d => (Str.ofString d.x, Gn.fn d.key)) ++ ((l.cs.map fun c => (Str.ofString c.name, Gn.cl c)) ++ ((l.ks.map fun k => (Str.ofString k.1, Gn.con k.2.1)) ++ l.im.map fun p => (mkN p.1, Gn.mk p.1)))
def Lw.T (l : Lw) : Tab := ⟨fun f => (l.ds.find? fun d => d.key == f).map (·.g), fun c m => (l.mt.find? fun p => p.1 == c && p.2.1 == m).map (·.2.2), fun y => (l.ks.find? fun k => k.2.1 == y).map (·.2.2), l.dic⟩
def Lw.W (l : Lw) (K : PySem.W.Frag) : Wl := ⟨cA K, fun c => l.cs.contains c, l.T⟩
def Lw.fn (l : Lw) : List He.FnD := (l.ds.map fun d => ⟨d.at_, Str.ofString d.nm, Str.ofString d.qual, defArgs d.st, defBody d.st, defScope d.st⟩) ++ l.is.map fun d => ⟨d.at_, "__init__", Str.ofString d.qual, defArgs d.st, defBody d.st, defScope d.st⟩
mutual
def conB (K : PySem.W.Frag) : D → Value → Bool
  | .int i, .int j _ => i == j
  | .str x, .str y _ => x == y && PyData.strOk x
  | .bl b, .bool c => b == c
  | .tup ds, .ref a => (match K.lookup a with
    | some o => decide (o.cls = .type "tuple") && (match o.data with
      | .seq its n => decide (its.size ≤ 1000) && conBs K ds its.toList
      | _ => false)
    | none => false)
  | _, _ => false
def conBs (K : PySem.W.Frag) : List D → List Value → Bool
  | [], [] => true
  | d :: ds, u :: us => conB K d u && conBs K ds us
  | _, _ => false
end
mutual
theorem conB_ok {W : Wd} : ∀ {d : D} {u : Value}, conB W.K d u = true → ∃ v, L2.RelV v u ∧ ∀ r H, Rv W r H d v
  | .int i, u, h => by
    cases u <;> first | (cases h; done) | skip
    simp only [conB, beq_iff_eq] at h
    subst h
    exact ⟨.int i, ⟨_, rfl⟩, fun _ _ => .int i⟩
  | .bl i, u, h => by
    cases u <;> first | (cases h; done) | skip
    simp only [conB, beq_iff_eq] at h
    subst h
    exact ⟨.bl i, rfl, fun _ _ => .bl i⟩
  | .str x, u, h => by
    cases u <;> first | (cases h; done) | skip
    simp only [conB, Bool.and_eq_true, beq_iff_eq] at h
    obtain ⟨h1, h2⟩ := h
    subst h1
    exact ⟨.str x, ⟨_, rfl⟩, fun _ _ => .str x h2⟩
  | .tup ds, u, h => by
    cases u <;> first | (cases h; done) | skip
    rename_i a
    simp only [conB] at h
    split at h
    · rename_i o ho
      rw [Bool.and_eq_true, decide_eq_true_eq] at h
      obtain ⟨h1, h2⟩ := h
      split at h2
      · rename_i its n hd
        rw [Bool.and_eq_true, decide_eq_true_eq] at h2
        obtain ⟨vs, g1, g2⟩ := conBs_ok h2.2
        exact ⟨.ref a, rfl, fun r H => .tup (.inr ⟨o, its, n, ho, h1, hd, by rw [sl_eq]; exact Nat.le_trans h2.1 (by decide), g1⟩) (g2 r H)⟩
      · cases h2
    · cases h
  | .non, u, h => by cases u <;> cases h
  | .obj _ _, u, h => by cases u <;> cases h
  | .ref _, u, h => by cases u <;> cases h
  | .lv _, u, h => by cases u <;> cases h
theorem conBs_ok {W : Wd} : ∀ {ds : List D} {us : List Value}, conBs W.K ds us = true → ∃ vs, Vals vs us ∧ ∀ r H, Rvs W r H ds vs
  | [], [], _ => ⟨[], .nil, fun _ _ => .nil⟩
  | [], _ :: _, h => nomatch h
  | _ :: _, [], h => nomatch h
  | d :: ds, u :: us, h => by
    simp only [conBs, Bool.and_eq_true] at h
    obtain ⟨v, g1, g2⟩ := conB_ok h.1
    obtain ⟨vs, f1, f2⟩ := conBs_ok h.2
    exact ⟨v :: vs, .cons g1 f1, fun r H => .cons (g2 r H) (f2 r H)⟩
end
def flds : List String := ["at", "word", "line", "name", "part", "one", "other", "kept"]
def baseTys : List Ty := [.tint, .tbool, .tstr, .ttuple, .tlist, .tval]
def tyB' (t : Ty) : Value := match t with
  | .tint => .type "int"
  | .tbool => .type "bool"
  | .tstr => .type "str"
  | .ttuple => .type "tuple"
  | .tlist => .type "list"
  | .tval => .type "ValueError"
  | .own _ => .none
def ckCls (K : PySem.W.Frag) (cs : List Cn) (c : Cn) : Bool :=
  (He.eqO (PySem.W.nsIn K mainGlobals (Str.ofString c.name)) (some (some (.ref (cA K c)))) && (PySem.W.keepIn K (.ref (cA K c)) && decide (PySem.W.mroIn K (cA K c) (.type "object") = some true))) &&
  ((He.eqO (PySem.W.findIn K (.ref (cA K c)) "__class__") (some (some (.builtin "object.__class__"))) && (if c.isExc then
    He.eqO (PySem.W.findIn K (.ref (cA K c)) "__getattribute__") (some (some (.builtin "BaseException.__getattribute__"))) && (He.eqO (PySem.W.findIn K (.ref (cA K c)) "__getattr__") (some none) && (decide (PySem.W.subIn K (.ref (cA K c)) (.type "BaseException") = some true) &&
      (PySem.W.hasDictIn K (cA K c) && (decide (PySem.W.typeIn K (.ref (cA K c)) = some (.type "type")) && ((!c.plainExc || PySem.W.excIn K (cA K c) He.veBase "ValueError.__new__") && cs.all fun d => !d.isExc || decide (PySem.W.exmOne K (.ref (cA K c)) (.ref (cA K d)) = some (c.under d)))))))
    else (He.Fa.cls (Str.ofString c.name)).ok K)) &&
  ((cs.all fun d => decide (PySem.W.kitOne K (.ref (cA K c)) (.ref (cA K d)) = some (c.under d))) && ((baseTys.all fun t => decide (PySem.W.kitOne K (.ref (cA K c)) (tyB' t) = some (isTyC c t))) &&
    ((tyN.all fun n => decide (PySem.W.kitOne K (.type n) (.ref (cA K c)) = some false)) && flds.all fun f => He.eqO (PySem.W.findIn K (.ref (cA K c)) (fN f)) (some none)))))
/-- what a class that is made must have -/
def ckIni (l : Lw) (K : PySem.W.Frag) (p : Cn × Option String) : Bool := l.cs.contains p.1 && (PySem.W.keepIn K (.ref (cA K p.1)) && (match p.2 with
  | none => (decide (p.1.flds = []) && !p.1.isExc) && (PySem.W.makesIn K (cA K p.1) && (He.eqO (PySem.W.findIn K (.ref (cA K p.1)) "__init__") (some (some (.builtin "object.__init__"))) && decide (PySem.W.mroIn K (cA K p.1) (.type "object") = some true)))
  | some x => match l.is.find? fun d => d.x == x with
    | none => false
    | some d => He.eqO (PySem.W.findIn K (.ref (cA K p.1)) "__init__") (some (some (.ref (He.fAd K d.at_)))) && (if p.1.isExc then (oexB K (cA K p.1) && (He.eqO (PySem.W.findIn K (.ref (cA K p.1)) "__setattr__") (some (some (.builtin "object.__setattr__"))) &&
        (decide (PySem.W.subIn K (.ref (cA K p.1)) (.type "BaseException") = some true) && decide (PySem.W.typeIn K (.ref (cA K p.1)) = some (.type "type"))))) && (decide (PySem.W.typeIn K (.ref (He.fAd K d.at_)) = some (.type "function")) && (l.cs.contains .SayError &&
        (decide (PySem.W.specialIn K (.ref (cA K .SayError)) "__getattribute__" = some (some (.builtin "type.__getattribute__"))) && (PySem.W.readsIn K (cA K .SayError) (.type "type") && (match PySem.W.findCls K (.ref (cA K .SayError)) (.type "type") "__init__" with
          | some (.val (.builtin i)) => i == "ValueError.__init__"
          | _ => false)))))
      else PySem.W.makesIn K (cA K p.1) && PySem.W.isFn K (.ref (He.fAd K d.at_)))))
def ckMt (l : Lw) (K : PySem.W.Frag) (p : Cn × String × String) : Bool := (l.cs.contains p.1 && !p.1.isExc) && (match l.ds.find? fun d => d.key == p.2.2 with
  | none => false
  | some d => He.eqO (PySem.W.findIn K (.ref (cA K p.1)) (fN p.2.1)) (some (some (.ref (He.fAd K d.at_)))) && (PySem.W.isFn K (.ref (He.fAd K d.at_)) && PySem.W.keepIn K (.ref (He.fAd K d.at_))))
def Lw.ck (l : Lw) (K : PySem.W.Frag) : Bool :=
  (bltN.all (fun x => He.eqO (PySem.W.nsIn K mainGlobals x) (some none)) && (decide (PySem.W.specialIn K (.builtin "object.__class__") "__get__" = some (some (.builtin "getset_descriptor.__get__"))) && decide (PySem.W.takesIn K (.builtin "object.__class__") = some true))) &&
  ((l.ds.all fun d => (d.m.isSome || He.eqO (PySem.W.nsIn K mainGlobals (Str.ofString d.x)) (some (some (.ref (He.ga K (Str.ofString d.x)))))) && PySem.W.keepIn K (.ref (He.fAd K d.at_))) &&
  (((l.cs.all fun c => ckCls K l.cs c) && ((l.is.all fun d => PySem.W.keepIn K (.ref (He.fAd K d.at_))) && ((l.im.all fun p => ckIni l K p) && l.mt.all fun p => ckMt l K p))) && l.ks.all fun k => match PySem.W.nsIn K mainGlobals (Str.ofString k.1) with
    | some (some u) => conB K k.2.2 u
    | _ => false))
/-- each def, checked -/
def Lw.fns (l : Lw) : Bool := (l.ds.all fun d => fnB l.G d.g d.N d.st) && l.im.all fun p => match p.2 with
  | none => true
  | some x => match l.is.find? fun d => d.x == x with
    | none => false
    | some d => if p.1.isExc then initXFn l.G p.1.flds d.N d.st else initFn p.1.flds d.N d.st
section
variable {l : Lw} {K : PySem.W.Frag} {h : Heap} {mg : Str → Option Value}
theorem has_mem {c : Cn} (hc : (l.W K).has c = true) : c ∈ l.cs := List.contains_iff_mem.mp hc
theorem ck_cls (c : l.ck K = true) {d : Cn} (hd : (l.W K).has d = true) : ckCls K l.cs d = true := by
  unfold Lw.ck at c
  simp only [Bool.and_eq_true] at c
  exact List.all_eq_true.mp c.2.2.1.1 d (has_mem hd)
theorem find_some' {α : Type} {p : α → Bool} {l : List α} {a : α} (h : l.find? p = some a) : a ∈ l ∧ p a = true := ⟨List.mem_of_find?_eq_some h, List.find?_some h⟩
theorem sOk (X : K.In h) (Gm : h.Ns mainGlobals mg) (cq : SaysQ l.ck l.fn K) (nd : (l.ks.map (·.2.1)).Nodup) (hf : l.fns = true) : SOk (l.W K) l.G K mg := by
  have c := cq.ck
  have c0 := c
  unfold Lw.ck at c0
  simp only [Bool.and_eq_true, decide_eq_true_eq] at c0
  obtain ⟨⟨b1, b2, b3⟩, b4, ⟨b5, b7, b8, b9⟩, b6⟩ := c0
  have at_ : ∀ {d : Cn}, (l.W K).has d = true → _ := fun {d} hd => ck_cls c hd
  refine { cls := { own := fun d hd he => ?_, spec := b2, tak := b3, exc := fun d hd he => ?_, kit := fun d t hd ht => ?_, kitT := fun d n hd hn => ?_ }, noat := fun d f hd hf => ?_, blt := fun x hx => ?_, cns := fun x d hx => ?_, exm := fun d e hd he h1 h2 => ?_, pex := fun d hd hp => ?_, con := fun x y hx => ?_, ini := fun x d hx => ?_ }
  · have q := at_ hd
    unfold ckCls at q
    simp only [Bool.and_eq_true, decide_eq_true_eq, he, Bool.false_eq_true, if_false] at q
    exact ⟨He.cls_ok q.2.1.2, He.eqO_ok q.2.1.1, q.1.2.2⟩
  · have q := at_ hd
    unfold ckCls at q
    simp only [Bool.and_eq_true, decide_eq_true_eq, he, if_true] at q
    obtain ⟨⟨q1, q2, q3⟩, ⟨q4, q5, q6, q7, q8, q9⟩, q10⟩ := q
    exact ⟨He.eqO_ok q5, He.eqO_ok q6, q7, q8, He.eqO_ok q4, b2, b3, q3⟩
  · have q := at_ hd
    unfold ckCls at q
    simp only [Bool.and_eq_true, List.all_eq_true, decide_eq_true_eq] at q
    obtain ⟨_, _, q1, q2, _⟩ := q
    cases t with
    | own e => exact q1 e (has_mem (K := K) ht)
    | tint => exact q2 .tint (by decide)
    | tbool => exact q2 .tbool (by decide)
    | tstr => exact q2 .tstr (by decide)
    | ttuple => exact q2 .ttuple (by decide)
    | tlist => exact q2 .tlist (by decide)
    | tval => exact q2 .tval (by decide)
  · have q := at_ hd
    unfold ckCls at q
    simp only [Bool.and_eq_true, List.all_eq_true, decide_eq_true_eq] at q
    exact q.2.2.2.2.1 n hn
  · have q := at_ hd
    unfold ckCls at q
    simp only [Bool.and_eq_true, List.all_eq_true] at q
    refine He.eqO_ok (q.2.2.2.2.2 f ?_)
    unfold fldKnown at hf
    exact List.contains_iff_mem.mp hf
  · exact PySem.W.mg_none_of X Gm (He.eqO_ok (List.all_eq_true.mp b1 x hx))
  · have m := PySem.mem_of_lookup hx
    unfold Lw.G at m
    simp only [List.mem_append, List.mem_map] at m
    rcases m with ⟨dd, _, e⟩ | ⟨cc, hc, e⟩ | ⟨kk, _, e⟩ | ⟨ii, _, e⟩
    · cases e
    · cases e
      have hh : (l.W K).has d = true := List.contains_iff_mem.mpr hc
      have q := at_ hh
      unfold ckCls at q
      simp only [Bool.and_eq_true] at q
      exact ⟨hh, PySem.W.mg_of X Gm (He.eqO_ok q.1.1), q.1.2.1⟩
    · cases e
    · cases e
  · have q := at_ hd
    unfold ckCls at q
    simp only [Bool.and_eq_true, decide_eq_true_eq, h1, if_true, List.all_eq_true] at q
    have q9 := q.2.1.2.2.2.2.2.2.2 e (has_mem (K := K) he)
    have q10 : PySem.W.exmOne K (.ref (cA K d)) (.ref (cA K e)) = some (d.under e) := by simpa [h2] using q9
    exact q10
  · have q := at_ hd
    have he := (plain_facts hp).1
    unfold ckCls at q
    simp only [Bool.and_eq_true, decide_eq_true_eq, he, if_true, hp, Bool.not_true, Bool.false_or] at q
    obtain ⟨_, ⟨_, _, _, q7, _, q9, q10, _⟩, _⟩ := q
    exact ⟨_, _, _, _, PySem.F.excBase_ValueError, q10, fun M h k => ⟨PySem.W.looks_subIn k q7, PySem.W.looks_typeIn k q9⟩⟩
  · have m := PySem.mem_of_lookup hx
    unfold Lw.G at m
    simp only [List.mem_append, List.mem_map] at m
    rcases m with ⟨dd, _, e⟩ | ⟨cc, hc, e⟩ | ⟨kk, hk, e⟩ | ⟨ii, _, e⟩
    · cases e
    · cases e
    · cases e
      have q := List.all_eq_true.mp b6 kk hk
      split at q
      · rename_i u hu
        obtain ⟨v, g1, g2⟩ := conB_ok (W := ⟨K, (l.W K).C, (l.W K).has⟩) q
        refine ⟨kk.2.2, v, u, ?_, PySem.W.mg_of X Gm hu, g1, g2⟩
        show ((l.ks.find? fun k => k.2.1 == kk.2.1).map (·.2.2)) = some kk.2.2
        rw [find_key nd hk]
        rfl
      · cases q
    · cases e
  · have m := PySem.mem_of_lookup hx
    unfold Lw.G at m
    simp only [List.mem_append, List.mem_map] at m
    rcases m with ⟨dd, _, e⟩ | ⟨cc, hc, e⟩ | ⟨kk, hk, e⟩ | ⟨p, hp, e⟩
    · cases e
    · cases e
    · cases e
    · cases e
      have q := List.all_eq_true.mp b8 p hp
      have hfi := hf
      unfold Lw.fns at hfi
      rw [Bool.and_eq_true] at hfi
      have qf := List.all_eq_true.mp hfi.2 p hp
      unfold ckIni at q
      rw [Bool.and_eq_true, Bool.and_eq_true] at q
      obtain ⟨q1, q0, q2⟩ := q
      refine ⟨q1, fun hx => ?_, fun hx => ?_⟩
      · cases hp2 : p.2 with
        | none =>
          rw [hp2] at q2
          simp only [Bool.and_eq_true, decide_eq_true_eq] at q2
          exact .inl ⟨q2.1.1, q2.2.1, He.eqO_ok q2.2.2.1, q2.2.2.2, q0⟩
        | some x =>
          rw [hp2] at q2 qf
          simp only at q2 qf
          split at q2
          · cases q2
          · rename_i d hd
            rw [hd] at qf
            simp only [hx, Bool.false_eq_true, if_false] at q2 qf
            simp only [Bool.and_eq_true] at q2
            obtain ⟨hm, hd2⟩ := find_some' hd
            obtain ⟨oc, od, osl, kV, doc, pm, an, cdv, ct, g1, g2⟩ := cq.def_ (d := ⟨d.at_, "__init__", Str.ofString d.qual, defArgs d.st, defBody d.st, defScope d.st⟩) (by unfold Lw.fn; exact List.mem_append_right _ (List.mem_map_of_mem hm))
            exact .inr ⟨_, _, _, _, d.st, d.N, ⟨q2.2.1, He.eqO_ok q2.1, q2.2.2, q0⟩, fun_mk g1 g2 (List.all_eq_true.mp b7 d hm), qf⟩
      · cases hp2 : p.2 with
        | none =>
          rw [hp2] at q2
          simp only [Bool.and_eq_true, decide_eq_true_eq, hx] at q2
          simp at q2
        | some x =>
          rw [hp2] at q2 qf
          simp only at q2 qf
          split at q2
          · cases q2
          · rename_i d hd
            rw [hd] at qf
            simp only [hx, if_true] at q2 qf
            simp only [Bool.and_eq_true, decide_eq_true_eq] at q2
            obtain ⟨hm, hd2⟩ := find_some' hd
            obtain ⟨oc, od, osl, kV, doc, pm, an, cdv, ct, g1, g2⟩ := cq.def_ (d := ⟨d.at_, "__init__", Str.ofString d.qual, defArgs d.st, defBody d.st, defScope d.st⟩) (by unfold Lw.fn; exact List.mem_append_right _ (List.mem_map_of_mem hm))
            obtain ⟨z1, ⟨z2, z3, z4, z5⟩, z6, z7, z8, z9, z10⟩ := q2
            refine ⟨_, _, _, _, d.st, d.N, ⟨oexB_ok z2, He.eqO_ok z3, z4, z5, q0⟩, He.eqO_ok z1, z6, fun_mk g1 g2 (List.all_eq_true.mp b7 d hm), qf, fun y hy => ?_⟩
            have hsay : (l.W K).has .SayError = true := z7
            have my : mg y = some (.ref (cA K .SayError)) := by
              have m := PySem.mem_of_lookup hy
              unfold Lw.G at m
              simp only [List.mem_append, List.mem_map] at m
              rcases m with ⟨dd, _, e⟩ | ⟨cc, hc, e⟩ | ⟨kk, hk, e⟩ | ⟨p, hp, e⟩
              · cases e
              · cases e
                have q := at_ hsay
                unfold ckCls at q
                simp only [Bool.and_eq_true] at q
                exact PySem.W.mg_of X Gm (He.eqO_ok q.1.1)
              · cases e
              · cases e
            refine ⟨my, z8, z9, ?_⟩
            split at z10
            · rename_i i hi
              rw [beq_iff_eq] at z10
              subst z10
              exact hi
            · cases z10
where
  find_key {α : Type} {f : α → String} : ∀ {ks : List α} {k : α}, (ks.map f).Nodup → k ∈ ks → (ks.find? fun z => f z == f k) = some k
    | [], _, _, h => nomatch h
    | z :: ks, k, nd, h => by
      rw [List.map_cons, List.nodup_cons] at nd
      rw [List.find?_cons]
      rcases List.mem_cons.mp h with e | e
      · subst e; simp
      · have : (f z == f k) = false := by
          rw [beq_eq_false_iff_ne]
          exact fun e2 => nd.1 (e2 ▸ List.mem_map_of_mem e)
        rw [this]
        exact find_key nd.2 e
theorem defAt_ok (c : SaysQ l.ck l.fn K) (nd : (l.ds.map (·.key)).Nodup) (hf : l.fns = true) {dd : DD} (hd : dd ∈ l.ds) : ∃ fd ps, DefAt (l.W K) l.G K dd.key (He.fAd K dd.at_) fd ps := by
  have ck := c.ck
  unfold Lw.ck at ck
  simp only [Bool.and_eq_true] at ck
  have q := List.all_eq_true.mp ck.2.1 dd hd
  rw [Bool.and_eq_true] at q
  unfold Lw.fns at hf
  rw [Bool.and_eq_true] at hf
  obtain ⟨oc, od, osl, kV, doc, pm, an, cdv, ct, g1, g2⟩ := c.def_ (d := ⟨dd.at_, Str.ofString dd.nm, Str.ofString dd.qual, defArgs dd.st, defBody dd.st, defScope dd.st⟩) (by unfold Lw.fn; exact List.mem_append_left _ (List.mem_map_of_mem hd))
  refine ⟨_, _, dd.g, Str.ofString dd.nm, Str.ofString dd.qual, dd.st, dd.N, ?_, fun_mk g1 g2 q.2, List.all_eq_true.mp hf.1 dd hd, rfl⟩
  show ((l.ds.find? fun d => d.key == dd.key).map (·.g)) = some dd.g
  rw [sOk.find_key nd hd]
  rfl
theorem defs_ok (X : K.In h) (Gm : h.Ns mainGlobals mg) (c : SaysQ l.ck l.fn K) (nd : (l.ds.map (·.key)).Nodup) (hf : l.fns = true) (x : Str) (f : String) (hx : l.G.lookup x = some (.fn f)) : DefOk (l.W K) l.G K mg x f := by
  have m := PySem.mem_of_lookup hx
  unfold Lw.G at m
  simp only [List.mem_append, List.mem_map] at m
  rcases m with ⟨dd, hd, e⟩ | ⟨cc, hc, e⟩ | ⟨kk, hk, e⟩ | ⟨p, hp, e⟩
  · cases e
    obtain ⟨hd, hn⟩ := List.mem_filter.mp hd
    obtain ⟨fd, ps, D⟩ := defAt_ok c nd hf hd
    have ck := c.ck
    unfold Lw.ck at ck
    simp only [Bool.and_eq_true] at ck
    have q := List.all_eq_true.mp ck.2.1 dd hd
    rw [Bool.and_eq_true] at q
    have em : dd.m = none := by simpa using hn
    have q1 := q.1
    rw [em] at q1
    simp only [Option.isSome_none, Bool.false_or] at q1
    refine ⟨_, fd, ps, ?_, D⟩
    have ea : He.fAd K dd.at_ = He.ga K (Str.ofString dd.x) := by unfold DD.at_; rw [em]; rfl
    rw [ea]
    exact PySem.W.mg_of X Gm (He.eqO_ok q1)
  · cases e
  · cases e
  · cases e
theorem mts_ok (c : SaysQ l.ck l.fn K) (nd : (l.ds.map (·.key)).Nodup) (hf : l.fns = true) (d : Cn) (m f : String) (hx : l.T.meth d m = some f) : MtOk (l.W K) l.G K d m f := by
  obtain ⟨p, hp, e⟩ := Option.map_eq_some_iff.mp hx
  obtain ⟨p1, p2⟩ := find_some' hp
  simp only [Bool.and_eq_true, beq_iff_eq] at p2
  obtain ⟨e1, e2⟩ := p2
  subst e1 e2 e
  have ck := c.ck
  unfold Lw.ck at ck
  simp only [Bool.and_eq_true] at ck
  have q := List.all_eq_true.mp ck.2.2.1.2.2.2 p p1
  unfold ckMt at q
  simp only [Bool.and_eq_true, Bool.not_eq_true'] at q
  obtain ⟨⟨q1, q2⟩, q3⟩ := q
  split at q3
  · cases q3
  · rename_i dd hd
    simp only [Bool.and_eq_true] at q3
    obtain ⟨h1, h2⟩ := find_some' hd
    obtain ⟨fd, ps, D⟩ := defAt_ok c nd hf h1
    rw [beq_iff_eq.mp h2] at D
    exact ⟨⟨q1, q2⟩, _, fd, ps, ⟨He.eqO_ok q3.1, q3.2.1, q3.2.2⟩, D⟩
end
/-- THE WALK: what mine computes at every script, the given law answers -/
theorem law_walk {l : PySem.W.OpenLaw} {q : Program} {loose : List Str} {XP : (Str → Option Value) → Heap → Prop} {d : DefRec} {n : Nat} (lw : Lw) (k : Nat)
    (hn : l.most = some 63) (hdf : d.params.defaults = []) (hr : Room (k + 2) callerA) (dn : d.name = ("law" : Str)) (nd : (lw.ds.map (·.key)).Nodup) (nk : (lw.ks.map (·.2.1)).Nodup) (hf : lw.fns = true) (hl : lw.G.lookup ("law" : Str) = some (.fn "law")) (hp : ∃ g, lw.T.fn "law" = some g ∧ g.np = 1)
    (hv : ∀ ns : List Int, ns.length ≤ 63 → (∀ z ∈ ns, Builtin.Int.intBits z ≤ 1048576) → ∃ h, Q.call lw.T k "law" [.ref 0] [.frz (ns.map D.int)] = .ok (.bl true) h) :
    PySem.W.WalkO q loose XP (hookQ n lw.ck lw.fn).says l.row.toRowW d [] (fun f vs => PySem.call f vs) := by
  refine Att.attach_callB hn hdf fun w s0 s1 mg mb fa o pm cd doc a vs ns G Yx ho hd hcd hmg hobj hints hlen hbits hg => ?_
  obtain ⟨K, KX, nl, c⟩ := Yx
  have S := sOk KX G.T.g c nk hf
  have DD := fun x f hx => defs_ok KX G.T.g c nd hf x f hx
  have MM := fun d m f hx => mts_ok c nd hf d m f hx
  obtain ⟨fa', fd, ps, m1, at_⟩ := DD "law" "law" hl
  obtain ⟨m2, _, m5, g, m6, m7⟩ := at_.facts
  rw [dn, m1] at hmg
  cases hmg
  obtain ⟨g', e1, e2⟩ := hp
  have e3 : g = g' := Option.some.inj (m6.symm.trans e1)
  subst e3
  have hlen1 : ps.length = 1 := m7.trans e2
  obtain ⟨x, rfl⟩ : ∃ x, ps = [x] := List.length_eq_one_iff.mp hlen1
  have base_ : ∀ base : Heap, K.In base → base.Ns mainGlobals mg → FnOk l.prog w K mg base (L2.CX l.prog w) (k + 2) fa fd [x] (spF ⟨K, (lw.W K).C, (lw.W K).has⟩ lw.T "law" k) := fun base _ _ => fns_ok S DD MM k "law" fa fd [x] at_
  refine law_call KX G.T.g G.T.b G.T.builtins G.T.nolimit hg hobj hints (Nat.le_trans hlen (by decide)) hr base_ (fun s u => L2.BindsTo.of_looks fun M => ?_) (fun H hO hS => ?_) fun H e s' z => ?_
  · rw [m5 [u] rfl]
    exact PySem.W.Looks.of_pure rfl
  · obtain ⟨h', hh⟩ := hv ns hlen hbits
    have hfz : ∃ ob, H a = some (.frz ob (.lst (ns.map V.int))) := by
      rcases hS with (hS | ⟨ob, hS⟩) | ⟨ob, its, n, hS, hc, _⟩
      · rcases hO a with z | ⟨o, xs, z⟩ <;> rw [z] at hS <;> cases hS
      · exact ⟨ob, hS⟩
      · exact absurd hc (nl _ _ hS)
    obtain ⟨ob, hfz⟩ := hfz
    have ints_rv : ∀ (r : List Addr) (H : Hp) (ns : List Int), Rvs ⟨K, (lw.W K).C, (lw.W K).has⟩ r H (ns.map D.int) (ns.map V.int) := fun r H ns => by
      induction ns with
      | nil => exact .nil
      | cons n ns ih => exact .cons (.int n) ih
    refine ⟨[a], [.frz (ns.map D.int)], [.ref 0], ⟨rfl, by simp, fun i b o h1 h2 => ?_⟩, .cons (.ref rfl) .nil, ?_⟩
    · cases i with
      | succ i => simp at h1
      | zero =>
        cases h1
        cases h2
        exact ⟨ob, _, hfz, ints_rv _ _ ns⟩
    · show Post _ _ _ _ _ _ (Q.call lw.T k "law" [.ref 0] [.frz (ns.map D.int)]) _
      rw [hh]
      intro r' H' v x m rv
      cases rv
      rfl
  · obtain ⟨_, _, _, _, _, _, _, _, _, _, _, _, z⟩ := z
    exact z
end Q

/-! my interpreter, step by step: frames without binders, for the simplifier -/
namespace Q
def getL : Ev → Nat → Option D
  | [], _ => none
  | x :: _, 0 => x
  | _ :: s, n + 1 => getL s n
theorem getL_eq : ∀ (s : Ev) (i : Nat), getL s i = (s[i]?).join
  | [], i => by simp [getL]
  | x :: s, 0 => by simp [getL]
  | x :: s, i + 1 => by simp only [getL, getL_eq s i, List.getElem?_cons_succ]
@[simp] theorem getL_zero (x : Option D) (s : Ev) : getL (x :: s) 0 = x := rfl
@[simp] theorem getL_succ (x : Option D) (s : Ev) (n : Nat) : getL (x :: s) (n + 1) = getL s n := rfl
def kVar (h : Hs) : Option D → R D
  | some d => .ok d h
  | none => .bad
@[simp] theorem kVar_some (h : Hs) (d : D) : kVar h (some d) = .ok d h := rfl
def kOpt (h : Hs) : Option D → R D
  | some d => .ok d h
  | none => .bad
@[simp] theorem kOpt_some (h : Hs) (d : D) : kOpt h (some d) = .ok d h := rfl
noncomputable section
variable (C : Cl) (s : Ev) (h : Hs)
def kTup : R (List D) → R D := fun r => r.bind fun ds h => .ok (.tup ds) h
def kLst : R (List D) → R D := fun r => r.bind fun ds h => .ok (.ref h.length) (h ++ [.lst ds])
def kDic (t : Bool) : R (List D) → R D := fun r => r.bind fun ds h => mkDic t ds h
def kBin1 (o : Bop) (b : Ex) : R D → R D := fun r => r.bind fun x h => (evE C b s h).bind fun y h => o.run x y h
def kBin2 (o : Bop) (x : D) : R D → R D := fun r => r.bind fun y h => o.run x y h
def kCmp1 (o : Cop) (b : Ex) : R D → R D := fun r => r.bind fun x h => (evE C b s h).bind fun y h => o.run x y h
def kCmp2 (o : Cop) (x : D) : R D → R D := fun r => r.bind fun y h => o.run x y h
def kChn1 (o p : Cop) (b c : Ex) : R D → R D := fun r => r.bind fun x h => (evE C b s h).bind fun y h => (o.run x y h).bind fun t h => chnD t (fun h => (evE C c s h).bind fun z h => p.run y z h) h
def kChn2 (o p : Cop) (x : D) (c : Ex) : R D → R D := fun r => r.bind fun y h => (o.run x y h).bind fun t h => chnD t (fun h => (evE C c s h).bind fun z h => p.run y z h) h
def kChn3 (p : Cop) (y : D) (c : Ex) : R D → R D := fun r => r.bind fun t h => chnD t (fun h => (evE C c s h).bind fun z h => p.run y z h) h
def kNeg : R D → R D := fun r => r.bind fun x h => negD x h
def kIsn (n : Bool) : R D → R D := fun r => r.bind fun x h => .ok (.bl (isN x != n)) h
def kIst (b n : Bool) : R D → R D := fun r => r.bind fun x h => .ok (.bl (isBl b x != n)) h
def kNot : R D → R D := fun r => r.bind fun x h => opt (tru h x) (fun c => .bl (!c)) h
def kNot2 (h : Hs) : Option Bool → R D := fun r => opt r (fun c => .bl (!c)) h
def kAnd (es : Exs) : R D → R D := fun r => r.bind fun x h => andD x (fun h => evAnd C es s h) h
def kOr (es : Exs) : R D → R D := fun r => r.bind fun x h => orD x (fun h => evOr C es s h) h
def kOrv (b : Ex) : R D → R D := fun r => r.bind fun x h => orvD x (fun h => evE C b s h) h
def kIte (a b : Ex) : R D → R D := fun r => r.bind fun x h => iteD x (fun h => evE C a s h) (fun h => evE C b s h) h
def kIte2 (a b : Ex) (h : Hs) : Option Bool → R D
  | some true => evE C a s h
  | some false => evE C b s h
  | none => .bad
def kSub1 (i : Ex) : R D → R D := fun r => r.bind fun x h => (evE C i s h).bind fun y h => getI x y h
def kSub2 (x : D) : R D → R D := fun r => r.bind fun y h => getI x y h
def kSlc1 (lo hi : Eo) : R D → R D := fun r => r.bind fun x h => (evO C lo s h).bind fun l h => (evO C hi s h).bind fun u h => slice x l u h
def kSlc2 (x : D) (hi : Eo) : R (Option Int) → R D := fun r => r.bind fun l h => (evO C hi s h).bind fun u h => slice x l u h
def kSlc3 (x : D) (l : Option Int) : R (Option Int) → R D := fun r => r.bind fun u h => slice x l u h
def kFld (f : String) : R D → R D := fun r => r.bind fun x h => fldD f x h
def kCall (f : String) : R (List D) → R D := fun r => r.bind fun ds h => C.call f ds h
def kMk (c : Cn) : R (List D) → R D := fun r => r.bind fun ds h => mkO c ds h
def kMth1 (m : String) (es : Exs) : R D → R D := fun r => r.bind fun x h => mthD C m x (fun f h => (evs C es s h).bind fun ds h => C.call f (x :: ds) h) h
def kMth2 (f : String) (x : D) : R (List D) → R D := fun r => r.bind fun ds h => C.call f (x :: ds) h
def kMthO (es : Exs) (x : D) (h : Hs) : Option String → R D
  | some f => kMth2 C f x (evs C es s h)
  | none => .bad
def kB (f : Bi) : R (List D) → R D := fun r => r.bind fun ds h => f.run ds h
def kBm1 (m : Bm) (es : Exs) : R D → R D := fun r => r.bind fun x h => bmD m x (fun h => (evs C es s h).bind fun ds h => m.run x ds h) h
def kBm2 (m : Bm) (x : D) (es : Exs) (h : Hs) (b : Bool) : R D := if b then (evs C es s h).bind fun ds h => m.run x ds h else .bad
def kBm3 (m : Bm) (x : D) : R (List D) → R D := fun r => r.bind fun ds h => m.run x ds h
def kIsi (ts : List Ty) : R D → R D := fun r => r.bind fun x h => opt (isTys h x ts) D.bl h
def kOptB (h : Hs) : Option Bool → R D := fun r => opt r D.bl h
def kJst : R (List D) → R D := fun r => r.bind fun ds h => jstD ds h
def kGget (x : String) : R D → R D := fun r => r.bind fun d h => gget C x d h
def kGin (x : String) (n : Bool) : R D → R D := fun r => r.bind fun d h => gin C x n d h
/-- a comprehension over what is walked -/
def kComp (e : Ex) (tg : Tg) (c : Eo) (own : List Nat) : R Walk → R D := fun r => r.bind fun w h => compE w (compG tg own (fun s h => evC C c s h) (fun s h => evE C e s h) s) h
def kCons1 (es : Exs) : R D → R (List D) := fun r => r.bind fun d h => (evs C es s h).bind fun ds h => .ok (d :: ds) h
def kCons2 (d : D) : R (List D) → R (List D) := fun r => r.bind fun ds h => .ok (d :: ds) h
def kTru : R D → R Bool := fun r => r.bind fun x h => truR x h
def kTru2 (h : Hs) : Option Bool → R Bool
  | some c => .ok c h
  | none => .bad
def kOptI : R D → R (Option Int) := fun r => r.bind fun d h => optI d h
variable {C s h}
@[simp] theorem evE_v (i : Nat) : evE C (.v i) s h = kVar h (getL s i) := by
  simp only [evE, getV, getL_eq]
  cases s[i]? with
  | none => rfl
  | some o => cases o <;> rfl
@[simp] theorem evE_k (d : D) : evE C (.k d) s h = .ok d h := by simp only [evE]
@[simp] theorem evE_g (x : String) : evE C (.g x) s h = kOpt h (C.T.con x) := by
  simp only [evE]
  cases C.T.con x <;> rfl
@[simp] theorem evE_tup (es : Exs) : evE C (.tup es) s h = kTup (evs C es s h) := by simp only [evE, kTup]
@[simp] theorem evE_lst (es : Exs) : evE C (.lst es) s h = kLst (evs C es s h) := by simp only [evE, kLst]
@[simp] theorem evE_dic (t : Bool) (es : Exs) : evE C (.dic t es) s h = kDic t (evs C es s h) := by simp only [evE, kDic]
@[simp] theorem evE_bin (o : Bop) (a b : Ex) : evE C (.bin o a b) s h = kBin1 C s o b (evE C a s h) := by simp only [evE, kBin1]
@[simp] theorem evE_neg (a : Ex) : evE C (.neg a) s h = kNeg (evE C a s h) := by simp only [evE, kNeg]
@[simp] theorem evE_cmp (o : Cop) (a b : Ex) : evE C (.cmp o a b) s h = kCmp1 C s o b (evE C a s h) := by simp only [evE, kCmp1]
@[simp] theorem evE_chn (o p : Cop) (a b c : Ex) : evE C (.chn o p a b c) s h = kChn1 C s o p b c (evE C a s h) := by simp only [evE, kChn1]
@[simp] theorem evE_isn (a : Ex) (n : Bool) : evE C (.isn a n) s h = kIsn n (evE C a s h) := by simp only [evE, kIsn]
@[simp] theorem evE_ist (a : Ex) (b n : Bool) : evE C (.ist a b n) s h = kIst b n (evE C a s h) := by simp only [evE, kIst]
@[simp] theorem evE_not (a : Ex) : evE C (.not a) s h = kNot (evE C a s h) := by simp only [evE, kNot]
@[simp] theorem evE_and (es : Exs) : evE C (.and es) s h = evAnd C es s h := by simp only [evE]
@[simp] theorem evE_or (es : Exs) : evE C (.or es) s h = evOr C es s h := by simp only [evE]
@[simp] theorem evAnd_one (e : Ex) : evAnd C (.cons e .nil) s h = evE C e s h := by simp only [evAnd]
@[simp] theorem evAnd_cons (e f : Ex) (es : Exs) : evAnd C (.cons e (.cons f es)) s h = kAnd C s (.cons f es) (evE C e s h) := by simp only [evAnd, kAnd]
@[simp] theorem evOr_one (e : Ex) : evOr C (.cons e .nil) s h = evE C e s h := by simp only [evOr]
@[simp] theorem evOr_cons (e f : Ex) (es : Exs) : evOr C (.cons e (.cons f es)) s h = kOr C s (.cons f es) (evE C e s h) := by simp only [evOr, kOr]
@[simp] theorem evE_orv (a b : Ex) : evE C (.orv a b) s h = kOrv C s b (evE C a s h) := by simp only [evE, kOrv]
@[simp] theorem evE_ite (c a b : Ex) : evE C (.ite c a b) s h = kIte C s a b (evE C c s h) := by simp only [evE, kIte]
@[simp] theorem evE_sub (a i : Ex) : evE C (.sub a i) s h = kSub1 C s i (evE C a s h) := by simp only [evE, kSub1]
@[simp] theorem evE_slc (a : Ex) (lo hi : Eo) : evE C (.slc a lo hi) s h = kSlc1 C s lo hi (evE C a s h) := by simp only [evE, kSlc1]
@[simp] theorem evE_fld (a : Ex) (f : String) : evE C (.fld a f) s h = kFld f (evE C a s h) := by simp only [evE, kFld]
@[simp] theorem evE_call (f : String) (es : Exs) : evE C (.call f es) s h = kCall C f (evs C es s h) := by simp only [evE, kCall]
@[simp] theorem evE_mk (c : Cn) (es : Exs) : evE C (.mk c es) s h = kMk c (evs C es s h) := by simp only [evE, kMk]
@[simp] theorem evE_mth (a : Ex) (m : String) (es : Exs) : evE C (.mth a m es) s h = kMth1 C s m es (evE C a s h) := by simp only [evE, kMth1]
@[simp] theorem evE_b (f : Bi) (es : Exs) : evE C (.b f es) s h = kB f (evs C es s h) := by simp only [evE, kB]
@[simp] theorem evE_bm (m : Bm) (a : Ex) (es : Exs) : evE C (.bm m a es) s h = kBm1 C s m es (evE C a s h) := by simp only [evE, kBm1]
@[simp] theorem evE_isi (a : Ex) (ts : List Ty) : evE C (.isi a ts) s h = kIsi ts (evE C a s h) := by simp only [evE, kIsi]
@[simp] theorem evE_gget (x : String) (a : Ex) : evE C (.gget x a) s h = kGget C x (evE C a s h) := by simp only [evE, kGget]
@[simp] theorem evE_gin (x : String) (a : Ex) (n : Bool) : evE C (.gin a x n) s h = kGin C x n (evE C a s h) := by simp only [evE, kGin]
@[simp] theorem evE_comp (e : Ex) (tg : Tg) (it : It) (c : Eo) (own : List Nat) : evE C (.comp e tg it c own) s h = kComp C s e tg c own (walk C it s h) := by simp only [evE, kComp]
@[simp] theorem evE_jst (es : Exs) : evE C (.jst es) s h = kJst (evs C es s h) := by simp only [evE, kJst]
@[simp] theorem evs_nil : evs C .nil s h = .ok [] h := by simp only [evs]
@[simp] theorem evs_cons (e : Ex) (es : Exs) : evs C (.cons e es) s h = kCons1 C s es (evE C e s h) := by simp only [evs, kCons1]
@[simp] theorem evO_none : evO C .none s h = .ok none h := by simp only [evO]
@[simp] theorem evO_some (e : Ex) : evO C (.some e) s h = kOptI (evE C e s h) := by simp only [evO, kOptI]
@[simp] theorem evC_none : evC C .none s h = .ok true h := by simp only [evC]
@[simp] theorem evC_some (e : Ex) : evC C (.some e) s h = kTru (evE C e s h) := by simp only [evC, kTru]
@[simp] theorem evT_eq (e : Ex) : evT C e s h = kTru (evE C e s h) := rfl
variable (x y : D) (ds : List D) (c : Cn) (fs : List D)
@[simp] theorem kTup_ok : kTup (.ok ds h) = .ok (.tup ds) h := rfl
@[simp] theorem kTup_exc : kTup (.exc c fs h) = .exc c fs h := rfl
@[simp] theorem kLst_ok : kLst (.ok ds h) = .ok (.ref h.length) (h ++ [.lst ds]) := rfl
@[simp] theorem kLst_exc : kLst (.exc c fs h) = .exc c fs h := rfl
@[simp] theorem kDic_ok (t : Bool) : kDic t (.ok ds h) = mkDic t ds h := rfl
@[simp] theorem kBin1_ok (o : Bop) (b : Ex) : kBin1 C s o b (.ok x h) = kBin2 o x (evE C b s h) := rfl
@[simp] theorem kBin1_exc (o : Bop) (b : Ex) : kBin1 C s o b (.exc c fs h) = .exc c fs h := rfl
@[simp] theorem kBin2_ok (o : Bop) : kBin2 o x (.ok y h) = o.run x y h := rfl
@[simp] theorem kBin2_exc (o : Bop) : kBin2 o x (.exc c fs h) = .exc c fs h := rfl
@[simp] theorem kCmp1_ok (o : Cop) (b : Ex) : kCmp1 C s o b (.ok x h) = kCmp2 o x (evE C b s h) := rfl
@[simp] theorem kCmp1_exc (o : Cop) (b : Ex) : kCmp1 C s o b (.exc c fs h) = .exc c fs h := rfl
@[simp] theorem kCmp2_ok (o : Cop) : kCmp2 o x (.ok y h) = o.run x y h := rfl
@[simp] theorem kCmp2_exc (o : Cop) : kCmp2 o x (.exc c fs h) = .exc c fs h := rfl
@[simp] theorem kChn1_ok (o p : Cop) (b e : Ex) : kChn1 C s o p b e (.ok x h) = kChn2 C s o p x e (evE C b s h) := rfl
@[simp] theorem kChn2_ok (o p : Cop) (e : Ex) : kChn2 C s o p x e (.ok y h) = kChn3 C s p y e (o.run x y h) := rfl
@[simp] theorem kChn3_t (p : Cop) (e : Ex) : kChn3 C s p y e (.ok (.bl true) h) = kCmp2 p y (evE C e s h) := rfl
@[simp] theorem kChn3_f (p : Cop) (e : Ex) : kChn3 C s p y e (.ok (.bl false) h) = .ok (.bl false) h := rfl
@[simp] theorem kNeg_ok (i : Int) : kNeg (.ok (.int i) h) = .ok (.int (-i)) h := rfl
@[simp] theorem kNeg_exc : kNeg (.exc c fs h) = .exc c fs h := rfl
@[simp] theorem kIsn_ok (n : Bool) : kIsn n (.ok x h) = .ok (.bl (isN x != n)) h := rfl
@[simp] theorem kIsn_exc (n : Bool) : kIsn n (.exc c fs h) = .exc c fs h := rfl
@[simp] theorem kIst_ok (b n : Bool) : kIst b n (.ok x h) = .ok (.bl (isBl b x != n)) h := rfl
@[simp] theorem kNot_ok : kNot (.ok x h) = kNot2 h (tru h x) := rfl
@[simp] theorem kNot_exc : kNot (.exc c fs h) = .exc c fs h := rfl
@[simp] theorem kNot2_some (b : Bool) : kNot2 h (some b) = .ok (.bl (!b)) h := rfl
@[simp] theorem kAnd_t (es : Exs) : kAnd C s es (.ok (.bl true) h) = evAnd C es s h := rfl
@[simp] theorem kAnd_f (es : Exs) : kAnd C s es (.ok (.bl false) h) = .ok (.bl false) h := rfl
theorem kAnd_b (es : Exs) (b : Bool) : kAnd C s es (.ok (.bl b) h) = if b = true then evAnd C es s h else .ok (.bl false) h := by cases b <;> rfl
@[simp] theorem kAnd_exc (es : Exs) : kAnd C s es (.exc c fs h) = .exc c fs h := rfl
@[simp] theorem kOr_t (es : Exs) : kOr C s es (.ok (.bl true) h) = .ok (.bl true) h := rfl
@[simp] theorem kOr_f (es : Exs) : kOr C s es (.ok (.bl false) h) = evOr C es s h := rfl
theorem kOr_b (es : Exs) (b : Bool) : kOr C s es (.ok (.bl b) h) = if b = true then .ok (.bl true) h else evOr C es s h := by cases b <;> rfl
@[simp] theorem kOr_exc (es : Exs) : kOr C s es (.exc c fs h) = .exc c fs h := rfl
@[simp] theorem kIte_ok (a b : Ex) : kIte C s a b (.ok x h) = kIte2 C s a b h (tru h x) := by
  show iteD x (fun h => evE C a s h) (fun h => evE C b s h) h = _
  unfold iteD
  cases tru h x with
  | none => rfl
  | some t => cases t <;> rfl
@[simp] theorem kIte2_t (a b : Ex) : kIte2 C s a b h (some true) = evE C a s h := rfl
@[simp] theorem kIte2_f (a b : Ex) : kIte2 C s a b h (some false) = evE C b s h := rfl
theorem kIte2_b (a b : Ex) (t : Bool) : kIte2 C s a b h (some t) = if t = true then evE C a s h else evE C b s h := by cases t <;> rfl
@[simp] theorem kSub1_ok (i : Ex) : kSub1 C s i (.ok x h) = kSub2 x (evE C i s h) := rfl
@[simp] theorem kSub1_exc (i : Ex) : kSub1 C s i (.exc c fs h) = .exc c fs h := rfl
@[simp] theorem kSub2_ok : kSub2 x (.ok y h) = getI x y h := rfl
@[simp] theorem kSub2_exc : kSub2 x (.exc c fs h) = .exc c fs h := rfl
@[simp] theorem kSlc1_ok (lo hi : Eo) : kSlc1 C s lo hi (.ok x h) = kSlc2 C s x hi (evO C lo s h) := rfl
@[simp] theorem kSlc2_ok (hi : Eo) (l : Option Int) : kSlc2 C s x hi (.ok l h) = kSlc3 x l (evO C hi s h) := rfl
@[simp] theorem kSlc3_ok (l u : Option Int) : kSlc3 x l (.ok u h) = slice x l u h := rfl
@[simp] theorem kFld_ok (f : String) : kFld f (.ok x h) = fldD f x h := rfl
@[simp] theorem kCall_ok (f : String) : kCall C f (.ok ds h) = C.call f ds h := rfl
@[simp] theorem kCall_exc (f : String) : kCall C f (.exc c fs h) = .exc c fs h := rfl
@[simp] theorem kMk_ok (d : Cn) : kMk d (.ok ds h) = mkO d ds h := rfl
@[simp] theorem kMth1_ok (m : String) (es : Exs) (d : Cn) : kMth1 C s m es (.ok (.obj d fs) h) = kMthO C s es (.obj d fs) h (C.T.meth d m) := by
  have q : kMth1 C s m es (.ok (.obj d fs) h) = (match C.T.meth d m with
      | some f => (evs C es s h).bind fun ds h => C.call f (D.obj d fs :: ds) h
      | none => .bad) := rfl
  rw [q]
  cases C.T.meth d m <;> rfl
@[simp] theorem kMthO_some (es : Exs) (f : String) : kMthO C s es x h (some f) = kMth2 C f x (evs C es s h) := rfl
@[simp] theorem kMth2_ok (f : String) : kMth2 C f x (.ok ds h) = C.call f (x :: ds) h := rfl
@[simp] theorem kMth2_exc (f : String) : kMth2 C f x (.exc c fs h) = .exc c fs h := rfl
@[simp] theorem kB_ok (f : Bi) : kB f (.ok ds h) = f.run ds h := rfl
@[simp] theorem kB_exc (f : Bi) : kB f (.exc c fs h) = .exc c fs h := rfl
@[simp] theorem kBm1_ok (m : Bm) (es : Exs) : kBm1 C s m es (.ok x h) = kBm2 C s m x es h (bmK m x h) := rfl
@[simp] theorem kBm2_t (m : Bm) (es : Exs) : kBm2 C s m x es h true = kBm3 m x (evs C es s h) := rfl
@[simp] theorem kBm3_ok (m : Bm) : kBm3 m x (.ok ds h) = m.run x ds h := rfl
@[simp] theorem kBm3_exc (m : Bm) : kBm3 m x (.exc c fs h) = .exc c fs h := rfl
@[simp] theorem kIsi_ok (ts : List Ty) : kIsi ts (.ok x h) = kOptB h (isTys h x ts) := rfl
@[simp] theorem kOptB_some (b : Bool) : kOptB h (some b) = .ok (.bl b) h := rfl
@[simp] theorem kJst_ok : kJst (.ok ds h) = jstD ds h := rfl
@[simp] theorem kGget_ok (z : String) : kGget C z (.ok x h) = gget C z x h := rfl
@[simp] theorem kGin_ok (z : String) (n : Bool) : kGin C z n (.ok x h) = gin C z n x h := rfl
@[simp] theorem kCons1_ok (es : Exs) : kCons1 C s es (.ok x h) = kCons2 x (evs C es s h) := rfl
@[simp] theorem kCons1_exc (es : Exs) : kCons1 C s es (.exc c fs h) = .exc c fs h := rfl
@[simp] theorem kCons2_ok : kCons2 x (.ok ds h) = .ok (x :: ds) h := rfl
@[simp] theorem kCons2_exc : kCons2 x (.exc c fs h) = .exc c fs h := rfl
@[simp] theorem kTru_ok : kTru (.ok x h) = kTru2 h (tru h x) := by
  show truR x h = _
  unfold truR
  cases tru h x <;> rfl
@[simp] theorem kTru_exc : kTru (.exc c fs h) = .exc c fs h := rfl
@[simp] theorem kTru2_some (b : Bool) : kTru2 h (some b) = .ok b h := rfl
@[simp] theorem kOptI_ok (i : Int) : kOptI (.ok (.int i) h) = .ok (some i) h := rfl
/-! operations -/
@[simp] theorem opt_some {α : Type} (a : α) (f : α → D) : opt (some a) f h = .ok (f a) h := rfl
@[simp] theorem run_add (i j : Int) : Bop.run .add (.int i) (.int j) h = .ok (.int (i + j)) h := rfl
@[simp] theorem run_sub (i j : Int) : Bop.run .sub (.int i) (.int j) h = .ok (.int (i - j)) h := rfl
@[simp] theorem run_lt (i j : Int) : Cop.run .lt (.int i) (.int j) h = .ok (.bl (decide (i < j))) h := rfl
@[simp] theorem run_le (i j : Int) : Cop.run .le (.int i) (.int j) h = .ok (.bl (decide (i ≤ j))) h := rfl
@[simp] theorem run_gt (i j : Int) : Cop.run .gt (.int i) (.int j) h = .ok (.bl (decide (j < i))) h := rfl
@[simp] theorem run_ge (i j : Int) : Cop.run .ge (.int i) (.int j) h = .ok (.bl (decide (j ≤ i))) h := rfl
@[simp] theorem run_eqI (i j : Int) : Cop.run .eq (.int i) (.int j) h = .ok (.bl (decide (i = j))) h := by
  have e : (i == j) = decide (i = j) := rfl
  simp [Cop.run, eqv, rsv, rsF, ddep, opt, deq, e]
@[simp] theorem run_neI (i j : Int) : Cop.run .ne (.int i) (.int j) h = .ok (.bl (!decide (i = j))) h := by
  have e : (i == j) = decide (i = j) := rfl
  simp [Cop.run, eqv, rsv, rsF, ddep, opt, deq, e]
@[simp] theorem run_eqS (i j : PySem.Str) : Cop.run .eq (.str i) (.str j) h = .ok (.bl (i == j)) h := by
  simp [Cop.run, eqv, rsv, rsF, ddep, opt, deq]
@[simp] theorem tru_bl (b : Bool) : tru h (.bl b) = some b := rfl
@[simp] theorem tru_int (i : Int) : tru h (.int i) = some (i != 0) := rfl
@[simp] theorem tru_non : tru h .non = some false := rfl
@[simp] theorem tru_tup (ds : List D) : tru h (.tup ds) = some (!ds.isEmpty) := rfl
theorem run_mul {i j : Int} (h1 : mulB i) (h2 : mulB j) : Bop.run .mul (.int i) (.int j) h = .ok (.int (i * j)) h := if_pos ⟨h1, h2⟩
theorem run_fdiv {i j : Int} (h1 : j ≠ 0) (h2 : divB j) : Bop.run .fdiv (.int i) (.int j) h = .ok (.int (i.fdiv j)) h := if_pos ⟨h1, h2⟩
theorem run_mod {i j : Int} (h1 : j ≠ 0) : Bop.run .mod (.int i) (.int j) h = .ok (.int (i.fmod j)) h := if_pos h1
theorem run_pow {i j : Int} (h1 : 0 ≤ j ∧ j ≤ 1000 ∧ i.natAbs < 1000) : Bop.run .pow (.int i) (.int j) h = .ok (.int (i ^ j.toNat)) h := if_pos h1
@[simp] theorem abs_int (i : Int) : Bi.run .abs [.int i] h = .ok (.int (if i < 0 then -i else i)) h := rfl
@[simp] theorem len_tup (ds : List D) : Bi.run .len [.tup ds] h = .ok (.int ds.length) h := rfl
@[simp] theorem isTys_nil : isTys h x [] = some false := rfl
end

/-! ### statements -/
noncomputable section
variable (C : Cl) (s : Ev) (h : Hs)
def kSet (i : Nat) : R D → SR := fun r => r.st s fun d h => .nx (s.set i (some d)) h
def kSetT (is : List Nat) : R D → SR := fun r => r.st s fun d h => setTR is d s h
def kPar1 (i j : Nat) (b : Ex) : R D → SR := fun r => r.st s fun x h => (evE C b s h).st s fun y h => .nx ((s.set i (some x)).set j (some y)) h
def kPar2 (i j : Nat) (x : D) : R D → SR := fun r => r.st s fun y h => .nx ((s.set i (some x)).set j (some y)) h
def kSetI1 (o i : Ex) : R D → SR := fun r => r.st s fun d h => (evE C o s h).st s fun x h => (evE C i s h).st s fun y h => setIR x y d s h
def kSetI2 (d : D) (i : Ex) : R D → SR := fun r => r.st s fun x h => (evE C i s h).st s fun y h => setIR x y d s h
def kSetI3 (d x : D) : R D → SR := fun r => r.st s fun y h => setIR x y d s h
def kEx : R D → SR := fun r => r.st s fun _ h => .nx s h
def kRet : R D → SR := fun r => r.st s fun d h => .rt d h
def kIf (a b : Bl) : R Bool → SR := fun r => r.st s fun t h => if t then exB C a s h else exB C b s h
/-- a while -/
def whE (c : Ex) (a : Bl) (s : Ev) (h : Hs) : SR := whU (fun s h => evT C c s h) (fun s h => exB C a s h) s h
/-- a for over things -/
def forE (tg : Tg) (a : Bl) (ok : Hs → Prop) (ds : List D) (s : Ev) (h : Hs) : SR := forL ok (forG tg (fun s h => exB C a s h)) ds s h
def kFor (tg : Tg) (a : Bl) : R Walk → SR := fun r => r.st s fun w h => forE C tg a w.ok w.items s h
def kRaise (c : Cn) : R (List D) → SR := fun r => r.st s fun ds h => raiseR c ds s h
def kTry (hs : Hds) : SR → SR := fun r => r.caught fun c fs s h => exH C hs c fs s h
def kThen (r : Bl) : SR → SR := fun x => x.then fun s h => exB C r s h
variable {C s h}
@[simp] theorem exS_pass : exS C .pass s h = .nx s h := by simp only [exS]
@[simp] theorem exS_brk : exS C .brk s h = .bk s h := by simp only [exS]
@[simp] theorem exS_cnt : exS C .cnt s h = .ct s h := by simp only [exS]
@[simp] theorem exS_retN : exS C .retN s h = .rt .non h := by simp only [exS]
@[simp] theorem exS_set (i : Nat) (e : Ex) : exS C (.set i e) s h = kSet s i (evE C e s h) := by simp only [exS, kSet]
@[simp] theorem exS_setT (is : List Nat) (e : Ex) : exS C (.setT is e) s h = kSetT s is (evE C e s h) := by simp only [exS, kSetT]
@[simp] theorem exS_par (i j : Nat) (a b : Ex) : exS C (.par i j a b) s h = kPar1 C s i j b (evE C a s h) := by simp only [exS, kPar1]
@[simp] theorem exS_setI (o i e : Ex) : exS C (.setI o i e) s h = kSetI1 C s o i (evE C e s h) := by simp only [exS, kSetI1]
@[simp] theorem exS_ex (e : Ex) : exS C (.ex e) s h = kEx s (evE C e s h) := by simp only [exS, kEx]
@[simp] theorem exS_ret (e : Ex) : exS C (.ret e) s h = kRet s (evE C e s h) := by simp only [exS, kRet]
@[simp] theorem exS_ite (c : Ex) (a b : Bl) : exS C (.ite c a b) s h = kIf C s a b (evT C c s h) := by simp only [exS, kIf]
@[simp] theorem exS_whl (c : Ex) (a : Bl) : exS C (.whl c a) s h = whE C c a s h := by simp only [exS, whE]
@[simp] theorem exS_for (tg : Tg) (it : It) (a : Bl) : exS C (.for tg it a) s h = kFor C s tg a (walk C it s h) := by simp only [exS, kFor, forE]
@[simp] theorem exS_raise (c : Cn) (es : Exs) : exS C (.raise c es) s h = kRaise s c (evs C es s h) := by simp only [exS, kRaise]
@[simp] theorem exS_try (a : Bl) (hs : Hds) : exS C (.try a hs) s h = kTry C hs (exB C a s h) := by simp only [exS, kTry]
@[simp] theorem exB_nil : exB C .nil s h = .nx s h := by simp only [exB]
@[simp] theorem exB_cons (x : Sm) (r : Bl) : exB C (.cons x r) s h = kThen C r (exS C x s h) := by simp only [exB, kThen]
variable (d x y : D) (ds : List D) (c : Cn) (fs : List D)
@[simp] theorem kSet_ok (i : Nat) : kSet s i (.ok d h) = .nx (s.set i (some d)) h := rfl
@[simp] theorem kSet_exc (i : Nat) : kSet s i (.exc c fs h) = .exc c fs s h := rfl
@[simp] theorem kSetT_ok (is : List Nat) : kSetT s is (.ok d h) = setTR is d s h := rfl
@[simp] theorem kPar1_ok (i j : Nat) (b : Ex) : kPar1 C s i j b (.ok x h) = kPar2 s i j x (evE C b s h) := rfl
@[simp] theorem kPar2_ok (i j : Nat) : kPar2 s i j x (.ok y h) = .nx ((s.set i (some x)).set j (some y)) h := rfl
@[simp] theorem kSetI1_ok (o i : Ex) : kSetI1 C s o i (.ok d h) = kSetI2 C s d i (evE C o s h) := rfl
@[simp] theorem kSetI2_ok (i : Ex) : kSetI2 C s d i (.ok x h) = kSetI3 s d x (evE C i s h) := rfl
@[simp] theorem kSetI3_ok : kSetI3 s d x (.ok y h) = setIR x y d s h := rfl
@[simp] theorem kEx_ok : kEx s (.ok d h) = .nx s h := rfl
@[simp] theorem kEx_exc : kEx s (.exc c fs h) = .exc c fs s h := rfl
@[simp] theorem kRet_ok : kRet s (.ok d h) = .rt d h := rfl
@[simp] theorem kRet_exc : kRet s (.exc c fs h) = .exc c fs s h := rfl
@[simp] theorem kIf_t (a b : Bl) : kIf C s a b (.ok true h) = exB C a s h := rfl
@[simp] theorem kIf_f (a b : Bl) : kIf C s a b (.ok false h) = exB C b s h := rfl
theorem kIf_b (a b : Bl) (t : Bool) : kIf C s a b (.ok t h) = if t = true then exB C a s h else exB C b s h := rfl
@[simp] theorem kIf_exc (a b : Bl) : kIf C s a b (.exc c fs h) = .exc c fs s h := rfl
@[simp] theorem kFor_ok (tg : Tg) (a : Bl) (w : Walk) : kFor C s tg a (.ok w h) = forE C tg a w.ok w.items s h := rfl
@[simp] theorem kRaise_ok : kRaise s c (.ok ds h) = raiseR c ds s h := rfl
@[simp] theorem kTry_nx (hs : Hds) : kTry C hs (.nx s h) = .nx s h := rfl
@[simp] theorem kTry_rt (hs : Hds) : kTry C hs (.rt d h) = .rt d h := rfl
@[simp] theorem kTry_bk (hs : Hds) : kTry C hs (.bk s h) = .bk s h := rfl
@[simp] theorem kTry_ct (hs : Hds) : kTry C hs (.ct s h) = .ct s h := rfl
@[simp] theorem kTry_exc (hs : Hds) : kTry C hs (.exc c fs s h) = exH C hs c fs s h := rfl
@[simp] theorem kThen_nx (r : Bl) : kThen C r (.nx s h) = exB C r s h := rfl
@[simp] theorem kThen_rt (r : Bl) : kThen C r (.rt d h) = .rt d h := rfl
@[simp] theorem kThen_bk (r : Bl) : kThen C r (.bk s h) = .bk s h := rfl
@[simp] theorem kThen_ct (r : Bl) : kThen C r (.ct s h) = .ct s h := rfl
@[simp] theorem kThen_exc (r : Bl) : kThen C r (.exc c fs s h) = .exc c fs s h := rfl
@[simp] theorem fin_nx : SR.fin (.nx s h) = .ok .non h := rfl
@[simp] theorem fin_rt : SR.fin (.rt d h) = .ok d h := rfl
@[simp] theorem fin_exc : SR.fin (.exc c fs s h) = .exc c fs h := rfl
/-- a while, once more -/
def kWh (C : Cl) (c : Ex) (a : Bl) (s : Ev) : R Bool → Prop := fun _ => True
theorem whE_f {e : Ex} {a : Bl} {h2 : Hs} (q : evT C e s h = .ok false h2) : whE C e a s h = .nx s h2 := by
  unfold whE; rw [whU_eq]; simp only [q]
theorem whE_t {e : Ex} {a : Bl} {h2 h3 : Hs} {s2 : Ev} (q : evT C e s h = .ok true h2) (q2 : exB C a s h2 = .nx s2 h3) : whE C e a s h = whE C e a s2 h3 := by
  unfold whE; rw [whU_eq]; simp only [q, q2]
theorem whE_ct {e : Ex} {a : Bl} {h2 h3 : Hs} {s2 : Ev} (q : evT C e s h = .ok true h2) (q2 : exB C a s h2 = .ct s2 h3) : whE C e a s h = whE C e a s2 h3 := by
  unfold whE; rw [whU_eq]; simp only [q, q2]
theorem whE_bk {e : Ex} {a : Bl} {h2 h3 : Hs} {s2 : Ev} (q : evT C e s h = .ok true h2) (q2 : exB C a s h2 = .bk s2 h3) : whE C e a s h = .nx s2 h3 := by
  unfold whE; rw [whU_eq]; simp only [q, q2]
theorem whE_rt {e : Ex} {a : Bl} {h2 h3 : Hs} {d : D} (q : evT C e s h = .ok true h2) (q2 : exB C a s h2 = .rt d h3) : whE C e a s h = .rt d h3 := by
  unfold whE; rw [whU_eq]; simp only [q, q2]
theorem forE_nil {tg : Tg} {a : Bl} {ok : Hs → Prop} (q : ok h) : forE C tg a ok [] s h = .nx s h := by
  unfold forE forL; rw [if_pos q]
theorem forE_nx {tg : Tg} {a : Bl} {ok : Hs → Prop} {d : D} {ds : List D} {s2 s3 : Ev} {h3 : Hs} (q : ok h) (q2 : asg tg d s = some s2) (q3 : exB C a s2 h = .nx s3 h3) : forE C tg a ok (d :: ds) s h = forE C tg a ok ds s3 h3 := by
  unfold forE; rw [forL, if_pos q]; simp only [forG, q2, q3]
theorem forE_ct {tg : Tg} {a : Bl} {ok : Hs → Prop} {d : D} {ds : List D} {s2 s3 : Ev} {h3 : Hs} (q : ok h) (q2 : asg tg d s = some s2) (q3 : exB C a s2 h = .ct s3 h3) : forE C tg a ok (d :: ds) s h = forE C tg a ok ds s3 h3 := by
  unfold forE; rw [forL, if_pos q]; simp only [forG, q2, q3]
theorem forE_bk {tg : Tg} {a : Bl} {ok : Hs → Prop} {d : D} {ds : List D} {s2 s3 : Ev} {h3 : Hs} (q : ok h) (q2 : asg tg d s = some s2) (q3 : exB C a s2 h = .bk s3 h3) : forE C tg a ok (d :: ds) s h = .nx s3 h3 := by
  unfold forE; rw [forL, if_pos q]; simp only [forG, q2, q3]
theorem forE_rt {tg : Tg} {a : Bl} {ok : Hs → Prop} {d : D} {ds : List D} {s2 : Ev} {h3 : Hs} {v : D} (q : ok h) (q2 : asg tg d s = some s2) (q3 : exB C a s2 h = .rt v h3) : forE C tg a ok (d :: ds) s h = .rt v h3 := by
  unfold forE; rw [forL, if_pos q]; simp only [forG, q2, q3]
end
theorem call_eq {T : Tab} {k : Nat} {f : String} {g : Fn} {ds : List D} {h : Hs} (hg : T.fn f = some g) (hn : ds.length = g.np) : call T (k + 1) f ds h = (exB ⟨T, call T k⟩ g.body (start g.ns ds) h).fin := by
  simp only [call, hg, hn, if_true]
end Q
namespace Q
noncomputable section
variable {h : Hs} {n : Nat} {xs : List D}
theorem len_frz (q : h[n]? = some (.frz xs)) : Bi.run .len [.ref n] h = .ok (.int xs.length) h := by simp only [Bi.run, q]
theorem len_lst (q : h[n]? = some (.lst xs)) : Bi.run .len [.ref n] h = .ok (.int xs.length) h := by simp only [Bi.run, q]
theorem getI_frz (q : h[n]? = some (.frz xs)) (i : Int) : getI (.ref n) (.int i) h = opt (atI xs i) id h := by simp only [getI, q]
theorem getI_lst (q : h[n]? = some (.lst xs)) (i : Int) : getI (.ref n) (.int i) h = opt (atI xs i) id h := by simp only [getI, q]
@[simp] theorem getI_tup (xs : List D) (i : Int) : getI (.tup xs) (.int i) h = opt (atI xs i) id h := rfl
theorem atI_nat {α : Type} {xs : List α} {i : Int} (h0 : 0 ≤ i) (h1 : i < xs.length) : atI xs i = some (xs[i.toNat]'(by omega)) := by
  unfold atI ixN
  rw [if_pos h0, if_pos h1]
  simp
@[simp] theorem atI_zero {α : Type} (x : α) (xs : List α) : atI (x :: xs) 0 = some x := by
  rw [atI_nat (by omega) (by simp <;> omega)]; rfl
@[simp] theorem atI_one {α : Type} (x y : α) (xs : List α) : atI (x :: y :: xs) 1 = some y := by
  rw [atI_nat (by omega) (by simp <;> omega)]; rfl
@[simp] theorem id_D (x : D) : (id x : D) = x := rfl
end
end Q
namespace Q
noncomputable section
/-! ### walks, comprehensions, clauses, lists -/
section
variable (C : Cl) (s : Ev) (h : Hs)
def kSq : R D → R Walk := fun r => r.bind fun d h => walkOf (walkSq h d) h
def kWalk (h : Hs) : Option Walk → R Walk
  | some w => .ok w h
  | none => .bad
def kR1 : R D → R Walk := fun r => r.bind fun x h => rng1 x h
def kR2 (b : Ex) : R D → R Walk := fun r => r.bind fun x h => (evE C b s h).bind fun y h => rng2 x y h
def kR2' (x : D) : R D → R Walk := fun r => r.bind fun y h => rng2 x y h
def kEnum : R D → R Walk := fun r => r.bind fun d h => walkOf (enumOf h d) h
def kZip1 (b : Ex) : R D → R Walk := fun r => r.bind fun x h => (evE C b s h).bind fun y h => walkOf (zipOf h x y) h
def kZip2 (x : D) : R D → R Walk := fun r => r.bind fun y h => walkOf (zipOf h x y) h
def kSui (i : Option Nat) : SR → SR
  | .nx s h => .nx (match i with
    | some i => s.set i none
    | none => s) h
  | .rt d h => .rt d h
  | _ => .bad
def putX (i : Option Nat) (d : D) (s : Ev) : Ev := match i with
  | some i => s.set i (some d)
  | none => s
def kH (i : Option Nat) (b : Bl) (r : Hds) (c : Cn) (fs : List D) (t : Bool) : SR := if t then kSui i (exB C b (putX i (.obj c fs) s) h) else exH C r c fs s h
variable {C s h}
@[simp] theorem walk_sq (e : Ex) : walk C (.sq e) s h = kSq (evE C e s h) := by simp only [walk, kSq]
@[simp] theorem walk_r1 (e : Ex) : walk C (.r1 e) s h = kR1 (evE C e s h) := by simp only [walk, kR1]
@[simp] theorem walk_r2 (a b : Ex) : walk C (.r2 a b) s h = kR2 C s b (evE C a s h) := by simp only [walk, kR2]
@[simp] theorem walk_enum (e : Ex) : walk C (.enum e) s h = kEnum (evE C e s h) := by simp only [walk, kEnum]
@[simp] theorem walk_zip (a b : Ex) : walk C (.zip a b) s h = kZip1 C s b (evE C a s h) := by simp only [walk, kZip1]
variable (x y : D) (c : Cn) (fs : List D)
@[simp] theorem kSq_ok : kSq (.ok x h) = kWalk h (walkSq h x) := by
  show walkOf (walkSq h x) h = _
  cases walkSq h x <;> rfl
@[simp] theorem kSq_exc : kSq (.exc c fs h) = .exc c fs h := rfl
@[simp] theorem kWalk_some (w : Walk) : kWalk h (some w) = .ok w h := rfl
@[simp] theorem kR1_ok : kR1 (.ok x h) = rng1 x h := by cases x <;> rfl
@[simp] theorem kR2_ok (b : Ex) : kR2 C s b (.ok x h) = kR2' x (evE C b s h) := rfl
@[simp] theorem kR2'_ok : kR2' x (.ok y h) = rng2 x y h := by cases y <;> rfl
@[simp] theorem kEnum_ok : kEnum (.ok x h) = kWalk h (enumOf h x) := by
  show walkOf (enumOf h x) h = _
  cases enumOf h x <;> rfl
@[simp] theorem kZip1_ok (b : Ex) : kZip1 C s b (.ok x h) = kZip2 x (evE C b s h) := rfl
@[simp] theorem kZip2_ok : kZip2 x (.ok y h) = kWalk h (zipOf h x y) := by
  show walkOf (zipOf h x y) h = _
  cases zipOf h x y <;> rfl
theorem walkSq_lst {n : Nat} {xs : List D} (q : h[n]? = some (.lst xs)) : walkSq h (.ref n) = some ⟨xs, fun h => h[n]? = some (.lst xs)⟩ := by simp only [walkSq, q]
theorem walkSq_frz {n : Nat} {xs : List D} (q : h[n]? = some (.frz xs)) : walkSq h (.ref n) = some ⟨xs, fun h => h[n]? = some (.frz xs)⟩ := by simp only [walkSq, q]
@[simp] theorem walkSq_tup (xs : List D) : walkSq h (.tup xs) = some ⟨xs, fun _ => True⟩ := rfl
theorem rng1_ok {j : Int} (q : small j) : rng1 (.int j) h = .ok ⟨rangeL 0 j.toNat, fun _ => True⟩ h := by simp only [rng1, q, if_true]
theorem rng2_ok {i j : Int} (q : small i) (q2 : small j) : rng2 (.int i) (.int j) h = .ok ⟨rangeL i (j - i).toNat, fun _ => True⟩ h := by simp only [rng2, q, q2, and_self, if_true]
@[simp] theorem exH_nil : exH C .nil c fs s h = .exc c fs s h := by simp only [exH]
@[simp] theorem exH_cons (d : Cn) (i : Option Nat) (b : Bl) (r : Hds) : exH C (.cons d i b r) c fs s h = kH C s h i b r c fs (c.under d) := by
  simp only [exH, kH, suite]
  split
  · cases i with
    | none =>
      simp only [putX]
      cases exB C b s h <;> rfl
    | some i =>
      simp only [putX]
      cases exB C b (s.set i (some (.obj c fs))) h <;> rfl
  · rfl
@[simp] theorem kH_t (i : Option Nat) (b : Bl) (r : Hds) : kH C s h i b r c fs true = kSui i (exB C b (putX i (.obj c fs) s) h) := rfl
@[simp] theorem kH_f (i : Option Nat) (b : Bl) (r : Hds) : kH C s h i b r c fs false = exH C r c fs s h := rfl
@[simp] theorem putX_some (i : Nat) (d : D) : putX (some i) d s = s.set i (some d) := rfl
@[simp] theorem putX_none (d : D) : putX none d s = s := rfl
@[simp] theorem kSui_some (i : Nat) : kSui (some i) (.nx s h) = .nx (s.set i none) h := rfl
@[simp] theorem kSui_none : kSui none (.nx s h) = .nx s h := rfl
@[simp] theorem kSui_rt (i : Option Nat) (d : D) : kSui i (.rt d h) = .rt d h := rfl
/-- a comprehension that changes nothing, without a condition -/
theorem kComp_map {e : Ex} {tg : Tg} {own : List Nat} {w : Walk} (f : D → D) (hok : w.ok h) (he : ∀ d ∈ w.items, ∃ s2, asg tg d (wipe s own) = some s2 ∧ evE C e s2 h = .ok (f d) h) (hl : w.items.length ≤ SZ) :
    kComp C s e tg .none own (.ok w h) = .ok (.ref h.length) (h ++ [.lst (w.items.map f)]) := by
  have go : ∀ l : List D, (∀ d ∈ l, ∃ s2, asg tg d (wipe s own) = some s2 ∧ evE C e s2 h = .ok (f d) h) → compL w.ok (compG tg own (fun s h => evC C .none s h) (fun s h => evE C e s h) s) l h = .ok (l.map f) h := by
    intro l
    induction l with
    | nil => intro _; unfold compL; rw [if_pos hok]; rfl
    | cons d l ih =>
      intro hd
      obtain ⟨s2, h1, h2⟩ := hd d List.mem_cons_self
      unfold compL
      rw [if_pos hok]
      have hg : compG tg own (fun s h => evC C .none s h) (fun s h => evE C e s h) s d h = .ok (some (f d)) h := by
        simp only [compG, h1, evC_none, h2]
      rw [hg]
      simp only
      rw [ih fun d hd' => hd d (List.mem_cons_of_mem _ hd')]
      rfl
  show compE w _ h = _
  unfold compE
  rw [go w.items he]
  simp only [hl, if_true]
/-- .. with a condition -/
theorem kComp_filter {e q : Ex} {tg : Tg} {own : List Nat} {w : Walk} (f : D → D) (p : D → Bool) (hok : w.ok h) (he : ∀ d ∈ w.items, ∃ s2, asg tg d (wipe s own) = some s2 ∧ evT C q s2 h = .ok (p d) h ∧ (p d = true → evE C e s2 h = .ok (f d) h)) (hl : w.items.length ≤ SZ) :
    kComp C s e tg (.some q) own (.ok w h) = .ok (.ref h.length) (h ++ [.lst ((w.items.filter p).map f)]) := by
  have go : ∀ l : List D, (∀ d ∈ l, ∃ s2, asg tg d (wipe s own) = some s2 ∧ evT C q s2 h = .ok (p d) h ∧ (p d = true → evE C e s2 h = .ok (f d) h)) → compL w.ok (compG tg own (fun s h => evC C (.some q) s h) (fun s h => evE C e s h) s) l h = .ok ((l.filter p).map f) h := by
    intro l
    induction l with
    | nil => intro _; unfold compL; rw [if_pos hok]; rfl
    | cons d l ih =>
      intro hd
      obtain ⟨s2, h1, h2, h3⟩ := hd d List.mem_cons_self
      have h2' : evC C (.some q) s2 h = .ok (p d) h := by simpa using h2
      unfold compL
      rw [if_pos hok]
      cases hp : p d with
      | true =>
        have hg : compG tg own (fun s h => evC C (.some q) s h) (fun s h => evE C e s h) s d h = .ok (some (f d)) h := by
          simp only [compG, h1, h2', hp, h3 hp]
        rw [hg]
        simp only
        rw [ih fun d hd' => hd d (List.mem_cons_of_mem _ hd')]
        simp [hp]
      | false =>
        have hg : compG tg own (fun s h => evC C (.some q) s h) (fun s h => evE C e s h) s d h = .ok none h := by
          simp only [compG, h1, h2', hp]
        rw [hg]
        simp only
        rw [ih fun d hd' => hd d (List.mem_cons_of_mem _ hd')]
        simp [hp]
  show compE w _ h = _
  unfold compE
  rw [go w.items he]
  simp only [hl, if_true]
theorem setI_lst {n : Nat} {xs : List D} {v : D} {i : Int} (q : h[n]? = some (.lst xs)) (i0 : 0 ≤ i) (i1 : i < xs.length) : setI (.ref n) (.int i) v h = some (h.set n (.lst (xs.set i.toNat v))) := by
  simp only [setI, q, ixN, i0, i1, if_true, Option.map_some]
theorem setIR_some {h2 : Hs} {v : D} (q : setI x y v h = some h2) : setIR x y v s h = .nx s h2 := by simp only [setIR, q]
theorem bmK_lst {n : Nat} {xs : List D} (f : Bm) (q : h[n]? = some (.lst xs)) : bmK f (.ref n) h = (f.rk == .l) := by simp only [bmK, q]
theorem append_lst {n : Nat} {xs : List D} {d : D} (q : h[n]? = some (.lst xs)) (l : xs.length < SZ) : Bm.run .append (.ref n) [d] h = .ok .non (h.set n (.lst (xs ++ [d]))) := by simp only [Bm.run, q, l, if_true]
theorem setTR_tup {is : List Nat} {ds : List D} (l : ds.length = is.length) : setTR is (.tup ds) s h = .nx (setAll s is ds) h := by
  simp only [setTR, unp, itemsOf, l, if_true]
theorem setTR_lst {is : List Nat} {n : Nat} {ds : List D} (q : h[n]? = some (.lst ds)) (l : ds.length = is.length) : setTR is (.ref n) s h = .nx (setAll s is ds) h := by
  simp only [setTR, unp, itemsOf, q, l, if_true]
@[simp] theorem rk_append : Bm.rk .append = .l := rfl
@[simp] theorem setAll_nil (ds : List D) : setAll s [] ds = s := by simp [setAll]
@[simp] theorem setAll_cons (i : Nat) (is : List Nat) (d : D) (ds : List D) : setAll s (i :: is) (d :: ds) = setAll (s.set i (some d)) is ds := rfl
theorem raise_plain {d : Cn} {m : PySem.Str} (q : d.plainExc = true) : raiseR d [.str m] s h = .exc d [] s h := by
  simp only [raiseR, excO, q, if_true]
end
end
end Q
namespace Q
@[simp] theorem cn_beq (a b : Cn) : (a == b) = decide (a = b) := rfl
@[simp] theorem ty_beq (a b : Ty) : (a == b) = decide (a = b) := rfl
@[simp] theorem rk_beq (a b : Rk) : (a == b) = decide (a = b) := rfl
end Q

/-! sizes of numbers, small laws of whole numbers -/
namespace Q
/-- a number of at most n bits -/
@[irreducible] def Bd (n : Nat) (i : Int) : Prop := i.natAbs < 2 ^ n
theorem Bd.def {n : Nat} {i : Int} : Bd n i ↔ i.natAbs < 2 ^ n := by unfold Bd; exact Iff.rfl
theorem Bd.mono {n m : Nat} {i : Int} (h : Bd n i) (l : n ≤ m) : Bd m i := by
  rw [Bd.def] at h ⊢
  exact Nat.lt_of_lt_of_le h (Nat.pow_le_pow_right (by decide) l)
theorem Bd.log {n : Nat} {i : Int} (h : Bd n i) (hn : 0 < n) : i.natAbs.log2 < n := by
  rw [Bd.def] at h
  by_cases e : i.natAbs = 0
  · rw [e]; simpa using hn
  · exact (Nat.log2_lt e).mpr h
theorem Bd.mulB {n : Nat} {i : Int} (h : Bd n i) (l : n ≤ 60000000) : mulB i := by
  unfold Q.mulB
  have := (h.mono (Nat.le_succ n)).log (Nat.succ_pos n)
  by_cases e : n = 0
  · subst e
    rw [Bd.def] at h
    have e0 : i.natAbs = 0 := by omega
    rw [e0]; decide
  · have := h.log (Nat.pos_of_ne_zero e); omega
theorem Bd.divB {n : Nat} {i : Int} (h : Bd n i) (l : n ≤ 9000) (h0 : 0 < n) : divB i := by
  unfold Q.divB
  have := h.log h0
  omega
theorem Bd.strB {n : Nat} {i : Int} (h : Bd n i) (l : n ≤ 1900) (h0 : 0 < n) : strB i := by
  unfold Q.strB
  have := h.log h0
  omega
theorem Bd.of {n : Nat} {i : Int} (h : i.natAbs < 2 ^ n) : Bd n i := Bd.def.mpr h
theorem Bd.mul {n m : Nat} {i j : Int} (a : Bd n i) (b : Bd m j) : Bd (n + m) (i * j) := by
  rw [Bd.def] at *
  rw [Int.natAbs_mul, Nat.pow_add]
  by_cases e : j.natAbs = 0
  · rw [e, Nat.mul_zero]; exact Nat.mul_pos (Nat.pow_pos (by decide)) (Nat.pow_pos (by decide))
  · calc i.natAbs * j.natAbs < 2 ^ n * j.natAbs := Nat.mul_lt_mul_of_pos_right a (Nat.pos_of_ne_zero e)
      _ ≤ 2 ^ n * 2 ^ m := Nat.mul_le_mul_left _ (Nat.le_of_lt b)
theorem Bd.add {n m : Nat} {i j : Int} (a : Bd n i) (b : Bd m j) : Bd (max n m + 1) (i + j) := by
  have a' := a.mono (Nat.le_max_left n m)
  have b' := b.mono (Nat.le_max_right n m)
  rw [Bd.def] at *
  rw [Nat.pow_succ]
  have := Int.natAbs_add_le i j
  omega
theorem Bd.neg {n : Nat} {i : Int} (a : Bd n i) : Bd n (-i) := by
  rw [Bd.def] at *
  rw [Int.natAbs_neg]; exact a
theorem Bd.sub {n m : Nat} {i j : Int} (a : Bd n i) (b : Bd m j) : Bd (max n m + 1) (i - j) := by
  rw [Int.sub_eq_add_neg]
  exact a.add b.neg
theorem Bd.le {n : Nat} {i j : Int} (a : Bd n i) (l : j.natAbs ≤ i.natAbs) : Bd n j := by
  rw [Bd.def] at *
  omega
theorem Bd.fmod {n : Nat} {j : Int} (i : Int) (a : Bd n j) (h : 0 < j) : Bd n (i.fmod j) := by
  have h1 := Int.fmod_nonneg_of_pos i h
  have h2 := Int.fmod_lt_of_pos i h
  exact a.le (by omega)
theorem natAbs_fdiv_le (i j : Int) (hj : 0 < j) : (i.fdiv j).natAbs ≤ i.natAbs := by
  rw [Int.fdiv_eq_ediv_of_nonneg _ (by omega)]
  exact Int.natAbs_ediv_le_natAbs i j
theorem Bd.fdiv {n : Nat} {i : Int} (a : Bd n i) {j : Int} (hj : 0 < j) : Bd n (i.fdiv j) := a.le (natAbs_fdiv_le i j hj)
theorem Bd.bits {i : Int} {n : Nat} (h : PySem.Builtin.Int.intBits i ≤ n) : Bd (n + 1) i := by
  unfold PySem.Builtin.Int.intBits at h
  apply Bd.of
  split at h
  · rename_i e
    have : i.natAbs = 0 := by first | omega | simpa using e
    rw [this]; exact Nat.pow_pos (by decide)
  · have : i.natAbs < 2 ^ (i.natAbs.log2 + 1) := Nat.lt_log2_self
    exact Nat.lt_of_lt_of_le this (Nat.pow_le_pow_right (by decide) (by omega))
end Q

namespace Q
def f_fractions_shared : Fn := ⟨2, 5, (.cons (.set 2 (.b .abs (.cons (.v 0) .nil))) (.cons (.set 3 (.b .abs (.cons (.v 1) .nil))) (.cons (.whl (.cmp .gt (.v 3) (.k (.int 0))) (.cons (.set 4 (.bin .mod (.v 2) (.v 3))) (.cons (.set 2 (.v 3)) (.cons (.set 3 (.v 4)) .nil)))) (.cons (.ret (.v 2)) .nil))))⟩
def f_fractions_fraction : Fn := ⟨2, 3, (.cons (.ite (.cmp .eq (.v 1) (.k (.int 0))) (.cons (.raise .NoNumber (.cons (.k (.str (S "nothing is divided by nought"))) .nil)) .nil) .nil) (.cons (.set 2 (.call "fractions.shared" (.cons (.v 0) (.cons (.v 1) .nil)))) (.cons (.ite (.cmp .lt (.v 1) (.k (.int 0))) (.cons (.set 2 (.neg (.v 2))) .nil) .nil) (.cons (.ret (.tup (.cons (.bin .fdiv (.v 0) (.v 2)) (.cons (.bin .fdiv (.v 1) (.v 2)) .nil)))) .nil))))⟩
def f_fractions_less : Fn := ⟨2, 2, (.cons (.ret (.cmp .lt (.bin .mul (.sub (.v 0) (.k (.int 0))) (.sub (.v 1) (.k (.int 1)))) (.bin .mul (.sub (.v 1) (.k (.int 0))) (.sub (.v 0) (.k (.int 1)))))) .nil)⟩
def f_lines_rule_at : Fn := ⟨2, 2, (.cons (.ret (.call "fractions.fraction" (.cons (.bin .add (.bin .mul (.sub (.v 0) (.k (.int 1))) (.sub (.v 1) (.k (.int 0)))) (.bin .mul (.sub (.v 0) (.k (.int 2))) (.sub (.v 1) (.k (.int 1))))) (.cons (.sub (.v 1) (.k (.int 1))) .nil)))) .nil)⟩
def f_lines_joined : Fn := ⟨1, 3, (.cons (.set 1 (.lst .nil)) (.cons (.for (.one 2) (.sq (.v 0)) (.cons (.ite (.and (.cons (.cmp .ne (.v 1) (.lst .nil)) (.cons (.cmp .eq (.slc (.sub (.v 1) (.neg (.k (.int 1)))) (.some (.k (.int 1))) .none) (.slc (.v 2) (.some (.k (.int 1))) .none)) .nil))) (.cons (.setI (.v 1) (.neg (.k (.int 1))) (.v 2)) .nil) (.cons (.ex (.bm .append (.v 1) (.cons (.v 2) .nil))) .nil)) .nil)) (.cons (.ret (.b .tuple (.cons (.v 1) .nil))) .nil)))⟩
def f_lineworks_level : Fn := ⟨1, 1, (.cons (.ret (.tup (.cons (.tup (.cons (.g "lines.ONE") (.cons (.k (.int 0)) (.cons (.v 0) .nil)))) .nil))) .nil)⟩
def f_lineworks_pieces : Fn := ⟨2, 8, (.cons (.set 2 (.lst .nil)) (.cons (.set 3 (.k (.int 0))) (.cons (.set 4 (.k (.int 0))) (.cons (.whl (.and (.cons (.cmp .lt (.v 3) (.b .len (.cons (.v 0) .nil))) (.cons (.cmp .lt (.v 4) (.b .len (.cons (.v 1) .nil))) .nil))) (.cons (.set 5 (.sub (.v 0) (.v 3))) (.cons (.set 6 (.sub (.v 1) (.v 4))) (.cons (.set 7 (.sub (.v 5) (.k (.int 0)))) (.cons (.ite (.call "fractions.less" (.cons (.sub (.v 6) (.k (.int 0))) (.cons (.v 7) .nil))) (.cons (.set 7 (.sub (.v 6) (.k (.int 0)))) .nil) .nil) (.cons (.ex (.bm .append (.v 2) (.cons (.tup (.cons (.v 7) (.cons (.v 5) (.cons (.v 6) .nil)))) .nil))) (.cons (.ite (.cmp .eq (.sub (.v 5) (.k (.int 0))) (.v 7)) (.cons (.set 3 (.bin .add (.v 3) (.k (.int 1)))) .nil) .nil) (.cons (.ite (.cmp .eq (.sub (.v 6) (.k (.int 0))) (.v 7)) (.cons (.set 4 (.bin .add (.v 4) (.k (.int 1)))) .nil) .nil) .nil)))))))) (.cons (.ret (.v 2)) .nil)))))⟩
def f_lineworks_added : Fn := ⟨2, 5, (.cons (.ret (.call "lines.joined" (.cons (.comp (.tup (.cons (.v 2) (.cons (.bin .add (.sub (.v 3) (.k (.int 1))) (.sub (.v 4) (.k (.int 1)))) (.cons (.bin .add (.sub (.v 3) (.k (.int 2))) (.sub (.v 4) (.k (.int 2)))) .nil)))) (.many [2, 3, 4]) (.sq (.call "lineworks.pieces" (.cons (.v 0) (.cons (.v 1) .nil)))) .none [2, 3, 4]) .nil))) .nil)⟩
def f_lineworks_turned : Fn := ⟨1, 2, (.cons (.ret (.b .tuple (.cons (.comp (.tup (.cons (.sub (.v 1) (.k (.int 0))) (.cons (.neg (.sub (.v 1) (.k (.int 1)))) (.cons (.neg (.sub (.v 1) (.k (.int 2)))) .nil)))) (.one 1) (.sq (.v 0)) .none [1]) .nil))) .nil)⟩
def f_lineworks_raised : Fn := ⟨2, 3, (.cons (.ret (.b .tuple (.cons (.comp (.tup (.cons (.sub (.v 2) (.k (.int 0))) (.cons (.sub (.v 2) (.k (.int 1))) (.cons (.bin .add (.sub (.v 2) (.k (.int 2))) (.v 1)) .nil)))) (.one 2) (.sq (.v 0)) .none [2]) .nil))) .nil)⟩
def f_lineworks_higher : Fn := ⟨4, 6, (.cons (.set 4 (.call "fractions.less" (.cons (.call "lines.rule_at" (.cons (.v 2) (.cons (.v 0) .nil))) (.cons (.call "lines.rule_at" (.cons (.v 3) (.cons (.v 0) .nil))) .nil)))) (.cons (.set 5 (.call "fractions.less" (.cons (.call "lines.rule_at" (.cons (.v 2) (.cons (.v 1) .nil))) (.cons (.call "lines.rule_at" (.cons (.v 3) (.cons (.v 1) .nil))) .nil)))) (.cons (.ite (.and (.cons (.v 4) (.cons (.call "fractions.less" (.cons (.call "lines.rule_at" (.cons (.v 3) (.cons (.v 1) .nil))) (.cons (.call "lines.rule_at" (.cons (.v 2) (.cons (.v 1) .nil))) .nil))) .nil))) (.cons (.ret (.lst (.cons (.tup (.cons (.call "lineworks.crossing" (.cons (.v 2) (.cons (.v 3) .nil))) (.cons (.sub (.v 3) (.k (.int 1))) (.cons (.sub (.v 3) (.k (.int 2))) .nil)))) (.cons (.tup (.cons (.v 1) (.cons (.sub (.v 2) (.k (.int 1))) (.cons (.sub (.v 2) (.k (.int 2))) .nil)))) .nil)))) .nil) .nil) (.cons (.ite (.and (.cons (.v 5) (.cons (.call "fractions.less" (.cons (.call "lines.rule_at" (.cons (.v 3) (.cons (.v 0) .nil))) (.cons (.call "lines.rule_at" (.cons (.v 2) (.cons (.v 0) .nil))) .nil))) .nil))) (.cons (.ret (.lst (.cons (.tup (.cons (.call "lineworks.crossing" (.cons (.v 2) (.cons (.v 3) .nil))) (.cons (.sub (.v 2) (.k (.int 1))) (.cons (.sub (.v 2) (.k (.int 2))) .nil)))) (.cons (.tup (.cons (.v 1) (.cons (.sub (.v 3) (.k (.int 1))) (.cons (.sub (.v 3) (.k (.int 2))) .nil)))) .nil)))) .nil) .nil) (.cons (.ite (.or (.cons (.v 4) (.cons (.v 5) .nil))) (.cons (.ret (.lst (.cons (.tup (.cons (.v 1) (.cons (.sub (.v 3) (.k (.int 1))) (.cons (.sub (.v 3) (.k (.int 2))) .nil)))) .nil))) .nil) .nil) (.cons (.ret (.lst (.cons (.tup (.cons (.v 1) (.cons (.sub (.v 2) (.k (.int 1))) (.cons (.sub (.v 2) (.k (.int 2))) .nil)))) .nil))) .nil))))))⟩
def f_lineworks_crossing : Fn := ⟨2, 2, (.cons (.ret (.call "fractions.fraction" (.cons (.bin .sub (.sub (.v 1) (.k (.int 2))) (.sub (.v 0) (.k (.int 2)))) (.cons (.bin .sub (.sub (.v 0) (.k (.int 1))) (.sub (.v 1) (.k (.int 1)))) .nil)))) .nil)⟩
def f_lineworks_greater_line : Fn := ⟨2, 7, (.cons (.set 2 (.lst .nil)) (.cons (.set 3 (.g "lines.NOUGHT")) (.cons (.for (.many [4, 5, 6]) (.sq (.call "lineworks.pieces" (.cons (.v 0) (.cons (.v 1) .nil)))) (.cons (.ex (.bm .extend (.v 2) (.cons (.call "lineworks.higher" (.cons (.v 3) (.cons (.v 4) (.cons (.v 5) (.cons (.v 6) .nil))))) .nil))) (.cons (.set 3 (.v 4)) .nil))) (.cons (.ret (.call "lines.joined" (.cons (.v 2) .nil))) .nil))))⟩
def f_lineworks_lesser_line : Fn := ⟨2, 2, (.cons (.ret (.call "lineworks.turned" (.cons (.call "lineworks.greater_line" (.cons (.call "lineworks.turned" (.cons (.v 0) .nil)) (.cons (.call "lineworks.turned" (.cons (.v 1) .nil)) .nil))) .nil))) .nil)⟩
def f_lineworks_cut_off : Fn := ⟨1, 1, (.cons (.ret (.call "lineworks.greater_line" (.cons (.call "lineworks.lesser_line" (.cons (.v 0) (.cons (.call "lineworks.level" (.cons (.k (.int 1)) .nil)) .nil))) (.cons (.call "lineworks.level" (.cons (.k (.int 0)) .nil)) .nil)))) .nil)⟩
def f_rows_is_place : Fn := ⟨2, 2, (.cons (.ret (.and (.cons (.isi (.v 0) [.tint]) (.cons (.not (.isi (.v 0) [.tbool])) (.cons (.chn .le .lt (.k (.int 0)) (.v 0) (.v 1)) .nil))))) .nil)⟩
def f_rows_is_row : Fn := ⟨2, 4, (.cons (.ite (.or (.cons (.not (.isi (.v 0) [.ttuple])) (.cons (.cmp .eq (.b .len (.cons (.v 0) .nil)) (.k (.int 0))) (.cons (.not (.isi (.sub (.v 0) (.k (.int 0))) [.tstr])) .nil)))) (.cons (.ret (.k (.bl false))) .nil) .nil) (.cons (.set 2 (.k (.int 0))) (.cons (.ite (.cmp .isin (.sub (.v 0) (.k (.int 0))) (.g "rows.PLAIN")) (.cons (.set 2 (.k (.int 1))) .nil) (.cons (.ite (.cmp .eq (.sub (.v 0) (.k (.int 0))) (.k (.str (S "not")))) (.cons (.set 2 (.k (.int 2))) .nil) (.cons (.ite (.cmp .isin (.sub (.v 0) (.k (.int 0))) (.g "rows.FOLDS")) (.cons (.set 2 (.k (.int 3))) .nil) .nil) .nil)) .nil)) (.cons (.ret (.and (.cons (.cmp .eq (.b .len (.cons (.v 0) .nil)) (.v 2)) (.cons (.b .all (.cons (.comp (.call "rows.is_place" (.cons (.v 3) (.cons (.v 1) .nil))) (.one 3) (.sq (.slc (.v 0) (.some (.k (.int 1))) .none)) .none [3]) .nil)) .nil)))) .nil))))⟩
def f_rows_rows_fault : Fn := ⟨1, 3, (.cons (.ite (.cmp .eq (.b .len (.cons (.v 0) .nil)) (.k (.int 0))) (.cons (.ret (.k (.int 0))) .nil) .nil) (.cons (.for (.many [1, 2]) (.enum (.v 0)) (.cons (.ite (.or (.cons (.cmp .ge (.v 1) (.g "rows.MOST")) (.cons (.not (.call "rows.is_row" (.cons (.v 2) (.cons (.v 1) .nil)))) .nil))) (.cons (.ret (.v 1)) .nil) .nil) .nil)) (.cons (.ret (.k .non)) .nil)))⟩
def f_meanings_fold_line : Fn := ⟨3, 3, (.cons (.ite (.cmp .eq (.v 0) (.k (.str (S "more")))) (.cons (.ret (.call "lineworks.cut_off" (.cons (.call "lineworks.added" (.cons (.v 1) (.cons (.v 2) .nil))) .nil))) .nil) .nil) (.cons (.ite (.cmp .eq (.v 0) (.k (.str (S "less")))) (.cons (.ret (.call "lineworks.cut_off" (.cons (.call "lineworks.raised" (.cons (.call "lineworks.added" (.cons (.v 1) (.cons (.v 2) .nil))) (.cons (.neg (.k (.int 1))) .nil))) .nil))) .nil) .nil) (.cons (.ite (.cmp .eq (.v 0) (.k (.str (S "greater")))) (.cons (.ret (.call "lineworks.greater_line" (.cons (.v 1) (.cons (.v 2) .nil)))) .nil) .nil) (.cons (.ite (.cmp .eq (.v 0) (.k (.str (S "lesser")))) (.cons (.ret (.call "lineworks.lesser_line" (.cons (.v 1) (.cons (.v 2) .nil)))) .nil) .nil) (.cons (.ret (.call "lineworks.cut_off" (.cons (.call "lineworks.raised" (.cons (.call "lineworks.added" (.cons (.v 2) (.cons (.call "lineworks.turned" (.cons (.v 1) .nil)) .nil))) (.cons (.k (.int 1)) .nil))) .nil))) .nil)))))⟩
def f_meanings_row_line : Fn := ⟨2, 2, (.cons (.ite (.cmp .eq (.sub (.v 0) (.k (.int 0))) (.k (.str (S "never")))) (.cons (.ret (.call "lineworks.level" (.cons (.k (.int 0)) .nil))) .nil) .nil) (.cons (.ite (.cmp .eq (.sub (.v 0) (.k (.int 0))) (.k (.str (S "always")))) (.cons (.ret (.call "lineworks.level" (.cons (.k (.int 1)) .nil))) .nil) .nil) (.cons (.ite (.cmp .eq (.sub (.v 0) (.k (.int 0))) (.k (.str (S "p")))) (.cons (.ret (.g "meanings.LETTER_LINE")) .nil) .nil) (.cons (.ite (.cmp .eq (.sub (.v 0) (.k (.int 0))) (.k (.str (S "not")))) (.cons (.ret (.call "lineworks.raised" (.cons (.call "lineworks.turned" (.cons (.sub (.v 1) (.sub (.v 0) (.k (.int 1)))) .nil)) (.cons (.k (.int 1)) .nil)))) .nil) .nil) (.cons (.ret (.call "meanings.fold_line" (.cons (.sub (.v 0) (.k (.int 0))) (.cons (.sub (.v 1) (.sub (.v 0) (.k (.int 1)))) (.cons (.sub (.v 1) (.sub (.v 0) (.k (.int 2)))) .nil))))) .nil)))))⟩
def f_meanings_last_line : Fn := ⟨1, 3, (.cons (.set 1 (.lst .nil)) (.cons (.for (.one 2) (.sq (.v 0)) (.cons (.ex (.bm .append (.v 1) (.cons (.call "meanings.row_line" (.cons (.v 2) (.cons (.v 1) .nil))) .nil))) .nil)) (.cons (.ret (.sub (.v 1) (.neg (.k (.int 1))))) .nil)))⟩
def f_meanings_line_of_rows : Fn := ⟨1, 2, (.cons (.set 1 (.call "rows.rows_fault" (.cons (.v 0) .nil))) (.cons (.ite (.isn (.v 1) true) (.cons (.raise .NoRows (.cons (.v 1) .nil)) .nil) .nil) (.cons (.ite (.cmp .isin (.tup (.cons (.k (.str (S "q"))) .nil)) (.v 0)) (.cons (.raise .NoLetter (.cons (.k (.str (S "rows with the letter q"))) .nil)) .nil) .nil) (.cons (.ret (.call "meanings.last_line" (.cons (.v 0) .nil))) .nil))))⟩
def f__law_cell_at : Fn := ⟨2, 3, (.cons (.set 2 (.k (.int 0))) (.cons (.ite (.cmp .lt (.v 1) (.b .len (.cons (.v 0) .nil))) (.cons (.set 2 (.bin .mod (.sub (.v 0) (.v 1)) (.bin .pow (.k (.int 10)) (.k (.int 18))))) .nil) .nil) (.cons (.ite (.and (.cons (.cmp .gt (.b .len (.cons (.v 0) .nil)) (.k (.int 0))) (.cons (.cmp .eq (.bin .mod (.sub (.v 0) (.k (.int 0))) (.k (.int 2))) (.k (.int 1))) .nil))) (.cons (.ret (.v 2)) .nil) .nil) (.cons (.ret (.bin .mod (.bin .mul (.bin .mod (.bin .add (.bin .mul (.v 2) (.k (.int 48271))) (.bin .mul (.k (.int 16807)) (.v 1))) (.k (.int 2147483647))) (.k (.int 69621))) (.k (.int 2147483629)))) .nil))))⟩
def f__law_divisor : Fn := ⟨2, 3, (.cons (.set 0 (.b .abs (.cons (.v 0) .nil))) (.cons (.set 1 (.b .abs (.cons (.v 1) .nil))) (.cons (.whl (.cmp .gt (.v 1) (.k (.int 0))) (.cons (.set 2 (.bin .mod (.v 0) (.v 1))) (.cons (.set 0 (.v 1)) (.cons (.set 1 (.v 2)) .nil)))) (.cons (.ret (.v 0)) .nil))))⟩
def f__law_whole : Fn := ⟨1, 1, (.cons (.ret (.and (.cons (.isi (.v 0) [.tint]) (.cons (.not (.isi (.v 0) [.tbool])) .nil)))) .nil)⟩
def f__law_is_stretch : Fn := ⟨1, 2, (.cons (.ite (.or (.cons (.not (.isi (.v 0) [.ttuple])) (.cons (.cmp .ne (.b .len (.cons (.v 0) .nil)) (.k (.int 3))) (.cons (.not (.call "_law_whole" (.cons (.sub (.v 0) (.k (.int 1))) .nil))) (.cons (.not (.call "_law_whole" (.cons (.sub (.v 0) (.k (.int 2))) .nil))) .nil))))) (.cons (.ret (.k (.bl false))) .nil) .nil) (.cons (.set 1 (.sub (.v 0) (.k (.int 0)))) (.cons (.ite (.or (.cons (.not (.isi (.v 1) [.ttuple])) (.cons (.cmp .ne (.b .len (.cons (.v 1) .nil)) (.k (.int 2))) (.cons (.not (.call "_law_whole" (.cons (.sub (.v 1) (.k (.int 0))) .nil))) (.cons (.not (.call "_law_whole" (.cons (.sub (.v 1) (.k (.int 1))) .nil))) .nil))))) (.cons (.ret (.k (.bl false))) .nil) .nil) (.cons (.ret (.and (.cons (.cmp .gt (.sub (.v 1) (.k (.int 1))) (.k (.int 0))) (.cons (.cmp .eq (.call "_law_divisor" (.cons (.sub (.v 1) (.k (.int 0))) (.cons (.sub (.v 1) (.k (.int 1))) .nil))) (.k (.int 1))) .nil)))) .nil))))⟩
def f__law_is_line : Fn := ⟨1, 7, (.cons (.ite (.or (.cons (.not (.isi (.v 0) [.ttuple])) (.cons (.cmp .eq (.b .len (.cons (.v 0) .nil)) (.k (.int 0))) (.cons (.not (.b .all (.cons (.comp (.call "_law_is_stretch" (.cons (.v 3) .nil)) (.one 3) (.sq (.v 0)) .none [3]) .nil))) .nil)))) (.cons (.ret (.k (.bl false))) .nil) .nil) (.cons (.set 1 (.tup (.cons (.k (.int 0)) (.cons (.k (.int 1)) .nil)))) (.cons (.for (.many [2, 3]) (.enum (.v 0)) (.cons (.set 4 (.sub (.v 3) (.k (.int 0)))) (.cons (.ite (.cmp .ge (.bin .mul (.sub (.v 1) (.k (.int 0))) (.sub (.v 4) (.k (.int 1)))) (.bin .mul (.sub (.v 4) (.k (.int 0))) (.sub (.v 1) (.k (.int 1))))) (.cons (.ret (.k (.bl false))) .nil) .nil) (.cons (.ite (.cmp .gt (.v 2) (.k (.int 0))) (.cons (.set 5 (.sub (.v 0) (.bin .sub (.v 2) (.k (.int 1))))) (.cons (.set 6 (.bin .add (.bin .mul (.bin .sub (.sub (.v 3) (.k (.int 1))) (.sub (.v 5) (.k (.int 1)))) (.sub (.v 1) (.k (.int 0)))) (.bin .mul (.bin .sub (.sub (.v 3) (.k (.int 2))) (.sub (.v 5) (.k (.int 2)))) (.sub (.v 1) (.k (.int 1)))))) (.cons (.ite (.or (.cons (.cmp .ne (.v 6) (.k (.int 0))) (.cons (.cmp .eq (.slc (.v 3) (.some (.k (.int 1))) .none) (.slc (.v 5) (.some (.k (.int 1))) .none)) .nil))) (.cons (.ret (.k (.bl false))) .nil) .nil) .nil))) .nil) (.cons (.set 1 (.v 4)) .nil))))) (.cons (.ret (.cmp .eq (.v 1) (.tup (.cons (.k (.int 1)) (.cons (.k (.int 1)) .nil))))) .nil))))⟩
def f__law_height : Fn := ⟨2, 3, (.cons (.set 2 (.k (.int 0))) (.cons (.whl (.cmp .lt (.bin .mul (.sub (.sub (.sub (.v 0) (.v 2)) (.k (.int 0))) (.k (.int 0))) (.sub (.v 1) (.k (.int 1)))) (.bin .mul (.sub (.v 1) (.k (.int 0))) (.sub (.sub (.sub (.v 0) (.v 2)) (.k (.int 0))) (.k (.int 1))))) (.cons (.set 2 (.bin .add (.v 2) (.k (.int 1)))) .nil)) (.cons (.ret (.tup (.cons (.bin .add (.bin .mul (.sub (.sub (.v 0) (.v 2)) (.k (.int 1))) (.sub (.v 1) (.k (.int 0)))) (.bin .mul (.sub (.sub (.v 0) (.v 2)) (.k (.int 2))) (.sub (.v 1) (.k (.int 1))))) (.cons (.sub (.v 1) (.k (.int 1))) .nil)))) .nil)))⟩
def f__law_folded : Fn := ⟨4, 4, (.cons (.ite (.cmp .eq (.v 0) (.k (.str (S "more")))) (.cons (.ret (.b .min (.cons (.v 1) (.cons (.bin .add (.v 2) (.v 3)) .nil)))) .nil) .nil) (.cons (.ite (.cmp .eq (.v 0) (.k (.str (S "less")))) (.cons (.ret (.b .max (.cons (.k (.int 0)) (.cons (.bin .sub (.bin .add (.v 2) (.v 3)) (.v 1)) .nil)))) .nil) .nil) (.cons (.ite (.cmp .eq (.v 0) (.k (.str (S "greater")))) (.cons (.ret (.b .max (.cons (.v 2) (.cons (.v 3) .nil)))) .nil) .nil) (.cons (.ite (.cmp .eq (.v 0) (.k (.str (S "lesser")))) (.cons (.ret (.b .min (.cons (.v 2) (.cons (.v 3) .nil)))) .nil) .nil) (.cons (.ret (.b .min (.cons (.v 1) (.cons (.bin .add (.bin .sub (.v 1) (.v 2)) (.v 3)) .nil)))) .nil)))))⟩
def f__law_rows_v2 : Fn := ⟨1, 10, (.cons (.set 1 (.lst (.cons (.tup (.cons (.k (.str (S "p"))) .nil)) .nil))) (.cons (.set 2 (.lst (.cons (.k (.int 1)) .nil))) (.cons (.for (.one 3) (.r2 (.k (.int 0)) (.b .min (.cons (.b .len (.cons (.v 0) .nil)) (.cons (.k (.int 24)) .nil)))) (.cons (.set 4 (.call "_law_cell_at" (.cons (.v 0) (.cons (.v 3) .nil)))) (.cons (.set 5 (.bin .mod (.bin .fdiv (.v 4) (.k (.int 10))) (.b .len (.cons (.v 1) .nil)))) (.cons (.set 6 (.bin .mod (.bin .fdiv (.v 4) (.k (.int 300))) (.b .len (.cons (.v 1) .nil)))) (.cons (.set 7 (.bin .mod (.v 4) (.k (.int 10)))) (.cons (.ite (.cmp .lt (.v 7) (.k (.int 2))) (.cons (.set 8 (.sub (.tup (.cons (.tup (.cons (.k (.str (S "p"))) .nil)) (.cons (.tup (.cons (.k (.str (S "never"))) .nil)) (.cons (.tup (.cons (.k (.str (S "always"))) .nil)) .nil)))) (.bin .mod (.bin .fdiv (.v 4) (.k (.int 10))) (.k (.int 3))))) (.cons (.set 9 (.b .int (.cons (.cmp .eq (.v 8) (.tup (.cons (.k (.str (S "p"))) .nil))) .nil))) .nil)) (.cons (.ite (.cmp .eq (.v 7) (.k (.int 2))) (.cons (.set 8 (.tup (.cons (.k (.str (S "not"))) (.cons (.v 5) .nil)))) (.cons (.set 9 (.sub (.v 2) (.v 5))) .nil)) (.cons (.set 8 (.tup (.cons (.sub (.tup (.cons (.k (.str (S "more"))) (.cons (.k (.str (S "less"))) (.cons (.k (.str (S "greater"))) (.cons (.k (.str (S "lesser"))) (.cons (.k (.str (S "leads"))) .nil)))))) (.bin .mod (.v 7) (.k (.int 5)))) (.cons (.v 5) (.cons (.v 6) .nil))))) (.cons (.set 9 (.bin .add (.sub (.v 2) (.v 5)) (.sub (.v 2) (.v 6)))) .nil))) .nil)) (.cons (.ite (.cmp .le (.v 9) (.k (.int 8))) (.cons (.ex (.bm .append (.v 1) (.cons (.v 8) .nil))) (.cons (.ex (.bm .append (.v 2) (.cons (.v 9) .nil))) .nil)) .nil) .nil))))))) (.cons (.ret (.v 1)) .nil))))⟩
def f__law_worths : Fn := ⟨3, 5, (.cons (.set 3 (.lst .nil)) (.cons (.for (.one 4) (.sq (.v 0)) (.cons (.ite (.cmp .eq (.sub (.v 4) (.k (.int 0))) (.k (.str (S "never")))) (.cons (.ex (.bm .append (.v 3) (.cons (.k (.int 0)) .nil))) .nil) (.cons (.ite (.cmp .eq (.sub (.v 4) (.k (.int 0))) (.k (.str (S "always")))) (.cons (.ex (.bm .append (.v 3) (.cons (.v 1) .nil))) .nil) (.cons (.ite (.cmp .eq (.sub (.v 4) (.k (.int 0))) (.k (.str (S "p")))) (.cons (.ex (.bm .append (.v 3) (.cons (.v 2) .nil))) .nil) (.cons (.ite (.cmp .eq (.sub (.v 4) (.k (.int 0))) (.k (.str (S "not")))) (.cons (.ex (.bm .append (.v 3) (.cons (.bin .sub (.v 1) (.sub (.v 3) (.sub (.v 4) (.k (.int 1))))) .nil))) .nil) (.cons (.ex (.bm .append (.v 3) (.cons (.call "_law_folded" (.cons (.sub (.v 4) (.k (.int 0))) (.cons (.v 1) (.cons (.sub (.v 3) (.sub (.v 4) (.k (.int 1)))) (.cons (.sub (.v 3) (.sub (.v 4) (.k (.int 2)))) .nil))))) .nil))) .nil)) .nil)) .nil)) .nil)) .nil)) (.cons (.ret (.sub (.v 3) (.neg (.k (.int 1))))) .nil)))⟩
def f__law_as_v5 : Fn := ⟨4, 6, (.cons (.setT [4, 5] (.call "_law_height" (.cons (.v 0) (.cons (.tup (.cons (.v 3) (.cons (.v 2) .nil))) .nil)))) (.cons (.ret (.cmp .eq (.v 4) (.call "_law_worths" (.cons (.v 1) (.cons (.v 2) (.cons (.v 3) .nil)))))) .nil))⟩
def f__law_right : Fn := ⟨2, 7, (.cons (.ite (.or (.cons (.not (.call "_law_is_line" (.cons (.v 0) .nil))) (.cons (.not (.call "_law_as" (.cons (.v 0) (.cons (.v 1) (.cons (.k (.int 1)) (.cons (.k (.int 0)) .nil)))))) .nil))) (.cons (.ret (.k (.bl false))) .nil) .nil) (.cons (.for (.many [2, 3, 4]) (.sq (.v 0)) (.cons (.ite (.not (.call "_law_as" (.cons (.v 0) (.cons (.v 1) (.cons (.sub (.v 2) (.k (.int 1))) (.cons (.sub (.v 2) (.k (.int 0))) .nil)))))) (.cons (.ret (.k (.bl false))) .nil) .nil) .nil)) (.cons (.for (.one 5) (.r2 (.k (.int 1)) (.k (.int 17))) (.cons (.ite (.not (.b .all (.cons (.comp (.call "_law_as" (.cons (.v 0) (.cons (.v 1) (.cons (.v 5) (.cons (.v 6) .nil))))) (.one 6) (.r1 (.bin .add (.v 5) (.k (.int 1)))) .none [6]) .nil))) (.cons (.ret (.k (.bl false))) .nil) .nil) .nil)) (.cons (.ret (.k (.bl true))) .nil))))⟩
def f__law_doubled : Fn := ⟨3, 10, (.cons (.set 3 (.lst (.cons (.tup (.cons (.k (.str (S "p"))) .nil)) .nil))) (.cons (.set 4 (.k (.int 1))) (.cons (.for (.one 5) (.r1 (.v 0)) (.cons (.ex (.bm .append (.v 3) (.cons (.tup (.cons (.v 1) (.cons (.v 5) (.cons (.v 5) .nil)))) .nil))) (.cons (.set 4 (.bin .mul (.k (.int 2)) (.v 4))) .nil))) (.cons (.set 6 (.tup (.cons (.tup (.cons (.tup (.cons (.k (.int 1)) (.cons (.v 4) .nil))) (.cons (.v 4) (.cons (.k (.int 0)) .nil)))) (.cons (.tup (.cons (.tup (.cons (.k (.int 1)) (.cons (.k (.int 1)) .nil))) (.cons (.k (.int 0)) (.cons (.k (.int 1)) .nil)))) .nil)))) (.cons (.ite (.cmp .eq (.v 1) (.k (.str (S "less")))) (.cons (.set 6 (.tup (.cons (.tup (.cons (.tup (.cons (.bin .sub (.v 4) (.k (.int 1))) (.cons (.v 4) .nil))) (.cons (.k (.int 0)) (.cons (.k (.int 0)) .nil)))) (.cons (.tup (.cons (.tup (.cons (.k (.int 1)) (.cons (.k (.int 1)) .nil))) (.cons (.v 4) (.cons (.bin .sub (.k (.int 1)) (.v 4)) .nil)))) .nil)))) .nil) .nil) (.cons (.ite (.v 2) (.cons (.ex (.bm .append (.v 3) (.cons (.tup (.cons (.k (.str (S "not"))) (.cons (.v 0) .nil))) .nil))) (.cons (.set 6 (.b .tuple (.cons (.comp (.tup (.cons (.v 7) (.cons (.neg (.v 8)) (.cons (.bin .sub (.k (.int 1)) (.v 9)) .nil)))) (.many [7, 8, 9]) (.sq (.v 6)) .none [7, 8, 9]) .nil))) .nil)) .nil) (.cons (.ret (.tup (.cons (.v 3) (.cons (.v 6) .nil)))) .nil)))))))⟩
def f_law_v21 : Fn := ⟨1, 6, (.cons (.set 1 (.call "_law_rows" (.cons (.v 0) .nil))) (.cons (.set 2 (.b .list (.cons (.v 1) .nil))) (.cons (.ite (.or (.cons (.not (.call "_law_right" (.cons (.call "meanings.line_of_rows" (.cons (.v 2) .nil)) (.cons (.v 1) .nil)))) (.cons (.cmp .ne (.v 2) (.v 1)) .nil))) (.cons (.ret (.k (.bl false))) .nil) .nil) (.cons (.set 3 (.call "_law_cell_at" (.cons (.v 0) (.cons (.k (.int 24)) .nil)))) (.cons (.setT [1, 4] (.call "_law_doubled" (.cons (.bin .add (.k (.int 1)) (.bin .mod (.v 3) (.k (.int 60)))) (.cons (.sub (.tup (.cons (.k (.str (S "more"))) (.cons (.k (.str (S "less"))) .nil))) (.bin .mod (.bin .fdiv (.v 3) (.k (.int 60))) (.k (.int 2)))) (.cons (.cmp .eq (.bin .mod (.bin .fdiv (.v 3) (.k (.int 120))) (.k (.int 2))) (.k (.int 1))) .nil))))) (.cons (.set 5 (.call "meanings.line_of_rows" (.cons (.v 1) .nil))) (.cons (.ret (.and (.cons (.call "_law_is_line" (.cons (.v 5) .nil)) (.cons (.cmp .eq (.v 5) (.v 4)) .nil)))) .nil)))))))⟩
def f__law_cell : Fn := ⟨2, 5, (.cons (.ite (.and (.cons (.cmp .gt (.b .len (.cons (.v 0) .nil)) (.k (.int 0))) (.cons (.cmp .eq (.bin .mod (.sub (.v 0) (.k (.int 0))) (.k (.int 2))) (.k (.int 1))) .nil))) (.cons (.ite (.cmp .eq (.v 1) (.k (.int 0))) (.cons (.ret (.bin .fdiv (.sub (.v 0) (.k (.int 0))) (.k (.int 2)))) .nil) .nil) (.cons (.ite (.cmp .lt (.v 1) (.b .len (.cons (.v 0) .nil))) (.cons (.ret (.sub (.v 0) (.v 1))) .nil) .nil) (.cons (.ret (.k (.int 0))) .nil))) .nil) (.cons (.set 2 (.k (.int 0))) (.cons (.ite (.cmp .gt (.b .len (.cons (.v 0) .nil)) (.k (.int 0))) (.cons (.set 2 (.bin .mod (.sub (.v 0) (.bin .mod (.v 1) (.b .len (.cons (.v 0) .nil)))) (.bin .pow (.k (.int 10)) (.k (.int 18))))) .nil) .nil) (.cons (.set 3 (.bin .mod (.bin .mul (.bin .add (.bin .add (.bin .add (.v 2) (.bin .mul (.bin .mul (.k (.int 7)) (.v 1)) (.v 1))) (.bin .mul (.k (.int 13)) (.v 1))) (.k (.int 5))) (.k (.int 48271))) (.k (.int 2147483647)))) (.cons (.set 4 (.bin .mod (.bin .add (.bin .mul (.v 3) (.v 3)) (.v 1)) (.k (.int 1000000007)))) (.cons (.ret (.bin .mod (.bin .add (.bin .mul (.v 4) (.k (.int 69621))) (.v 3)) (.k (.int 2147483629)))) .nil))))))⟩
def f_fractions_plus : Fn := ⟨2, 2, (.cons (.ret (.call "fractions.fraction" (.cons (.bin .add (.bin .mul (.sub (.v 0) (.k (.int 0))) (.sub (.v 1) (.k (.int 1)))) (.bin .mul (.sub (.v 1) (.k (.int 0))) (.sub (.v 0) (.k (.int 1))))) (.cons (.bin .mul (.sub (.v 0) (.k (.int 1))) (.sub (.v 1) (.k (.int 1)))) .nil)))) .nil)⟩
def f_fractions_minus : Fn := ⟨2, 2, (.cons (.ret (.call "fractions.fraction" (.cons (.bin .sub (.bin .mul (.sub (.v 0) (.k (.int 0))) (.sub (.v 1) (.k (.int 1)))) (.bin .mul (.sub (.v 1) (.k (.int 0))) (.sub (.v 0) (.k (.int 1))))) (.cons (.bin .mul (.sub (.v 0) (.k (.int 1))) (.sub (.v 1) (.k (.int 1)))) .nil)))) .nil)⟩
def f_fractions_times : Fn := ⟨2, 2, (.cons (.ret (.call "fractions.fraction" (.cons (.bin .mul (.sub (.v 0) (.k (.int 0))) (.sub (.v 1) (.k (.int 0)))) (.cons (.bin .mul (.sub (.v 0) (.k (.int 1))) (.sub (.v 1) (.k (.int 1)))) .nil)))) .nil)⟩
def f__law_lowest_v2 : Fn := ⟨2, 3, (.cons (.ite (.cmp .lt (.v 1) (.k (.int 0))) (.cons (.set 0 (.neg (.v 0))) (.cons (.set 1 (.neg (.v 1))) .nil)) .nil) (.cons (.set 2 (.call "_law_divisor" (.cons (.v 0) (.cons (.v 1) .nil)))) (.cons (.ret (.tup (.cons (.bin .fdiv (.v 0) (.v 2)) (.cons (.bin .fdiv (.v 1) (.v 2)) .nil)))) .nil)))⟩
def f__law_built : Fn := ⟨3, 13, (.cons (.set 3 (.call "_law_cell_at" (.cons (.v 0) (.cons (.v 1) .nil)))) (.cons (.set 4 (.bin .sub (.bin .mod (.v 3) (.k (.int 25))) (.k (.int 12)))) (.cons (.set 5 (.bin .sub (.bin .mod (.bin .fdiv (.v 3) (.k (.int 25))) (.k (.int 9))) (.k (.int 4)))) (.cons (.ite (.cmp .eq (.bin .mod (.bin .fdiv (.v 3) (.k (.int 225))) (.k (.int 4))) (.k (.int 3))) (.cons (.set 4 (.bin .sub (.bin .mod (.bin .fdiv (.v 3) (.k (.int 900))) (.k (.int 1999999))) (.k (.int 999999)))) (.cons (.set 5 (.bin .sub (.bin .mod (.bin .fdiv (.v 3) (.k (.int 7))) (.k (.int 199999999))) (.k (.int 99999999)))) .nil)) .nil) (.cons (.set 6 (.lst .nil)) (.cons (.set 7 (.tup (.cons (.k (.int 0)) (.cons (.k (.int 1)) .nil)))) (.cons (.for (.one 8) (.r2 (.bin .add (.v 1) (.k (.int 1))) (.b .min (.cons (.b .len (.cons (.v 0) .nil)) (.cons (.v 2) .nil)))) (.cons (.set 3 (.call "_law_cell_at" (.cons (.v 0) (.cons (.v 8) .nil)))) (.cons (.set 9 (.bin .add (.k (.int 2)) (.bin .mod (.bin .fdiv (.v 3) (.k (.int 2))) (.k (.int 9))))) (.cons (.ite (.cmp .eq (.bin .mod (.bin .fdiv (.v 3) (.k (.int 18))) (.k (.int 5))) (.k (.int 4))) (.cons (.set 9 (.bin .add (.k (.int 2)) (.bin .mod (.bin .fdiv (.v 3) (.k (.int 90))) (.k (.int 99999))))) .nil) .nil) (.cons (.set 10 (.bin .add (.bin .fdiv (.bin .mul (.v 9) (.sub (.v 7) (.k (.int 0)))) (.sub (.v 7) (.k (.int 1)))) (.k (.int 1)))) (.cons (.set 11 (.bin .sub (.v 9) (.k (.int 1)))) (.cons (.ite (.cmp .eq (.bin .mod (.v 3) (.k (.int 2))) (.k (.int 1))) (.cons (.set 9 (.neg (.v 9))) (.cons (.set 10 (.bin .add (.v 9) (.k (.int 1)))) (.cons (.set 11 (.bin .sub (.neg (.bin .fdiv (.bin .mul (.neg (.v 9)) (.sub (.v 7) (.k (.int 0)))) (.sub (.v 7) (.k (.int 1))))) (.k (.int 1)))) .nil))) .nil) (.cons (.ite (.cmp .le (.v 10) (.v 11)) (.cons (.set 12 (.bin .add (.v 10) (.bin .mod (.bin .fdiv (.v 3) (.k (.int 9000000))) (.bin .add (.bin .sub (.v 11) (.v 10)) (.k (.int 1)))))) (.cons (.set 7 (.call "_law_lowest" (.cons (.v 12) (.cons (.v 9) .nil)))) (.cons (.ex (.bm .append (.v 6) (.cons (.tup (.cons (.v 7) (.cons (.v 4) (.cons (.v 5) .nil)))) .nil))) (.cons (.set 4 (.bin .sub (.v 4) (.v 9))) (.cons (.set 5 (.bin .add (.v 5) (.v 12))) .nil))))) .nil) .nil)))))))) (.cons (.ret (.bin .add (.v 6) (.lst (.cons (.tup (.cons (.tup (.cons (.k (.int 1)) (.cons (.k (.int 1)) .nil))) (.cons (.v 4) (.cons (.v 5) .nil)))) .nil)))) .nil))))))))⟩
def f_lines_height_at : Fn := ⟨2, 3, (.cons (.ite (.or (.cons (.call "fractions.less" (.cons (.v 1) (.cons (.g "lines.NOUGHT") .nil))) (.cons (.call "fractions.less" (.cons (.g "lines.ONE") (.cons (.v 1) .nil))) .nil))) (.cons (.raise .NoPoint (.cons (.k (.str (S "a fraction below nought or above one"))) .nil)) .nil) .nil) (.cons (.set 2 (.k (.int 0))) (.cons (.whl (.call "fractions.less" (.cons (.sub (.sub (.v 0) (.v 2)) (.k (.int 0))) (.cons (.v 1) .nil))) (.cons (.set 2 (.bin .add (.v 2) (.k (.int 1)))) .nil)) (.cons (.ret (.call "lines.rule_at" (.cons (.sub (.v 0) (.v 2)) (.cons (.v 1) .nil)))) .nil))))⟩
def f__law_due : Fn := ⟨2, 4, (.cons (.setT [2, 3] (.call "_law_height" (.cons (.v 0) (.cons (.v 1) .nil)))) (.cons (.ret (.call "_law_lowest" (.cons (.v 2) (.cons (.v 3) .nil)))) .nil))⟩
def f_lines_bends : Fn := ⟨1, 3, (.cons (.set 1 (.lst (.cons (.tup (.cons (.g "lines.NOUGHT") (.cons (.call "lines.rule_at" (.cons (.sub (.v 0) (.k (.int 0))) (.cons (.g "lines.NOUGHT") .nil))) .nil))) .nil))) (.cons (.for (.one 2) (.sq (.v 0)) (.cons (.ex (.bm .append (.v 1) (.cons (.tup (.cons (.sub (.v 2) (.k (.int 0))) (.cons (.call "lines.rule_at" (.cons (.v 2) (.cons (.sub (.v 2) (.k (.int 0))) .nil))) .nil))) .nil))) .nil)) (.cons (.ret (.v 1)) .nil)))⟩
def f_lines_look_at_ends : Fn := ⟨1, 4, (.cons (.set 1 (.g "lines.NOUGHT")) (.cons (.for (.many [2, 3]) (.enum (.v 0)) (.cons (.ite (.or (.cons (.not (.call "fractions.less" (.cons (.v 1) (.cons (.sub (.v 3) (.k (.int 0))) .nil)))) (.cons (.call "fractions.less" (.cons (.g "lines.ONE") (.cons (.sub (.v 3) (.k (.int 0))) .nil))) .nil))) (.cons (.raise .NoLine (.cons (.k (.str (S "end"))) (.cons (.v 2) .nil))) .nil) .nil) (.cons (.set 1 (.sub (.v 3) (.k (.int 0)))) .nil))) (.cons (.ite (.cmp .ne (.v 1) (.g "lines.ONE")) (.cons (.raise .NoLine (.cons (.k (.str (S "short"))) (.cons (.bin .sub (.b .len (.cons (.v 0) .nil)) (.k (.int 1))) .nil))) .nil) .nil) .nil)))⟩
def f_lines_line_made : Fn := ⟨1, 3, (.cons (.ite (.or (.cons (.cmp .lt (.b .len (.cons (.v 0) .nil)) (.k (.int 1))) (.cons (.cmp .gt (.b .len (.cons (.v 0) .nil)) (.g "lines.MOST")) .nil))) (.cons (.raise .NoLine (.cons (.k (.str (S "count"))) (.cons (.b .len (.cons (.v 0) .nil)) .nil))) .nil) .nil) (.cons (.ex (.call "lines.look_at_ends" (.cons (.v 0) .nil))) (.cons (.for (.one 1) (.r2 (.k (.int 1)) (.b .len (.cons (.v 0) .nil))) (.cons (.set 2 (.sub (.sub (.v 0) (.bin .sub (.v 1) (.k (.int 1)))) (.k (.int 0)))) (.cons (.ite (.cmp .ne (.call "lines.rule_at" (.cons (.sub (.v 0) (.bin .sub (.v 1) (.k (.int 1)))) (.cons (.v 2) .nil))) (.call "lines.rule_at" (.cons (.sub (.v 0) (.v 1)) (.cons (.v 2) .nil)))) (.cons (.raise .NoLine (.cons (.k (.str (S "jump"))) (.cons (.v 1) .nil))) .nil) .nil) .nil))) (.cons (.ret (.call "lines.joined" (.cons (.v 0) .nil))) .nil))))⟩
def f__law_rising : Fn := ⟨1, 4, (.cons (.set 1 (.lst .nil)) (.cons (.for (.one 2) (.sq (.v 0)) (.cons (.set 3 (.k (.int 0))) (.cons (.whl (.and (.cons (.cmp .lt (.v 3) (.b .len (.cons (.v 1) .nil))) (.cons (.cmp .lt (.bin .mul (.sub (.sub (.v 1) (.v 3)) (.k (.int 0))) (.sub (.v 2) (.k (.int 1)))) (.bin .mul (.sub (.v 2) (.k (.int 0))) (.sub (.sub (.v 1) (.v 3)) (.k (.int 1))))) .nil))) (.cons (.set 3 (.bin .add (.v 3) (.k (.int 1)))) .nil)) (.cons (.ex (.bm .insert (.v 1) (.cons (.v 3) (.cons (.v 2) .nil)))) .nil)))) (.cons (.ret (.v 1)) .nil)))⟩
def f__law_spots : Fn := ⟨1, 8, (.cons (.set 1 (.lst (.cons (.tup (.cons (.k (.int 0)) (.cons (.k (.int 1)) .nil))) .nil))) (.cons (.for (.one 2) (.sq (.v 0)) (.cons (.ex (.bm .extend (.v 1) (.cons (.comp (.sub (.v 4) (.k (.int 0))) (.one 4) (.sq (.v 2)) (.some (.cmp .notin (.sub (.v 4) (.k (.int 0))) (.v 1))) [4]) .nil))) .nil)) (.cons (.set 1 (.call "_law_rising" (.cons (.v 1) .nil))) (.cons (.set 3 (.b .list (.cons (.v 1) .nil))) (.cons (.for (.many [4, 5]) (.zip (.v 1) (.slc (.v 1) (.some (.k (.int 1))) .none)) (.cons (.for (.one 6) (.sq (.tup (.cons (.k (.int 1)) (.cons (.k (.int 2)) (.cons (.k (.int 3)) .nil))))) (.cons (.set 7 (.bin .add (.bin .mul (.bin .mul (.sub (.v 4) (.k (.int 0))) (.sub (.v 5) (.k (.int 1)))) (.bin .sub (.k (.int 4)) (.v 6))) (.bin .mul (.bin .mul (.sub (.v 5) (.k (.int 0))) (.sub (.v 4) (.k (.int 1)))) (.v 6)))) (.cons (.ex (.bm .append (.v 3) (.cons (.call "_law_lowest" (.cons (.v 7) (.cons (.bin .mul (.bin .mul (.k (.int 4)) (.sub (.v 4) (.k (.int 1)))) (.sub (.v 5) (.k (.int 1)))) .nil))) .nil))) .nil))) .nil)) (.cons (.ret (.v 3)) .nil))))))⟩
def f__law_as : Fn := ⟨4, 9, (.cons (.ite (.not (.call "_law_is_line" (.cons (.v 0) .nil))) (.cons (.ret (.k (.bl false))) .nil) .nil) (.cons (.for (.one 4) (.sq (.call "_law_spots" (.cons (.bin .add (.lst (.cons (.v 0) .nil)) (.v 1)) .nil))) (.cons (.set 5 (.call "_law_height" (.cons (.v 0) (.cons (.v 4) .nil)))) (.cons (.set 6 (.bin .mul (.v 3) (.sub (.v 4) (.k (.int 1))))) (.cons (.for (.many [7, 8]) (.zip (.v 1) (.v 2)) (.cons (.set 6 (.bin .add (.v 6) (.bin .mul (.v 8) (.sub (.call "_law_height" (.cons (.v 7) (.cons (.v 4) .nil))) (.k (.int 0)))))) .nil)) (.cons (.ite (.cmp .ne (.sub (.v 5) (.k (.int 0))) (.v 6)) (.cons (.ret (.k (.bl false))) .nil) .nil) .nil))))) (.cons (.ret (.k (.bl true))) .nil)))⟩
def f_lines_stays : Fn := ⟨1, 3, (.cons (.for (.many [1, 2]) (.sq (.call "lines.bends" (.cons (.v 0) .nil))) (.cons (.ite (.or (.cons (.call "fractions.less" (.cons (.v 2) (.cons (.g "lines.NOUGHT") .nil))) (.cons (.call "fractions.less" (.cons (.g "lines.ONE") (.cons (.v 2) .nil))) .nil))) (.cons (.ret (.k (.bl false))) .nil) .nil) .nil)) (.cons (.ret (.k (.bl true))) .nil))⟩
def f__law_mixed : Fn := ⟨2, 6, (.cons (.set 2 (.and (.cons (.cmp .gt (.b .len (.cons (.v 0) .nil)) (.k (.int 0))) (.cons (.cmp .eq (.bin .mod (.sub (.v 0) (.k (.int 0))) (.k (.int 2))) (.k (.int 1))) .nil)))) (.cons (.set 3 (.lst .nil)) (.cons (.for (.one 4) (.r1 (.b .max (.cons (.bin .add (.v 1) (.k (.int 1))) (.cons (.b .min (.cons (.k (.int 63)) (.cons (.b .len (.cons (.v 0) .nil)) .nil))) .nil)))) (.cons (.set 5 (.k (.int 0))) (.cons (.ite (.cmp .lt (.v 4) (.b .len (.cons (.v 0) .nil))) (.cons (.set 5 (.sub (.v 0) (.v 4))) .nil) .nil) (.cons (.ite (.and (.cons (.v 2) (.cons (.chn .lt .lt (.k (.int 0)) (.v 4) (.b .len (.cons (.v 0) .nil))) .nil))) (.cons (.ex (.bm .append (.v 3) (.cons (.b .abs (.cons (.v 5) .nil)) .nil))) .nil) (.cons (.ex (.bm .append (.v 3) (.cons (.bin .mod (.bin .mul (.bin .mod (.bin .add (.bin .mul (.bin .mod (.v 5) (.bin .pow (.k (.int 10)) (.k (.int 18)))) (.k (.int 48271))) (.bin .mul (.k (.int 16807)) (.bin .add (.v 4) (.k (.int 1))))) (.k (.int 2147483647))) (.k (.int 69621))) (.k (.int 2147483629))) .nil))) .nil)) .nil)))) (.cons (.ret (.slc (.v 3) (.some (.b .int (.cons (.v 2) .nil))) .none)) .nil))))⟩
def f__law_next : Fn := ⟨1, 1, (.cons (.ite (.cmp .eq (.b .len (.cons (.v 0) .nil)) (.k (.int 0))) (.cons (.ret (.k (.int 0))) .nil) .nil) (.cons (.ret (.bm .popAt (.v 0) (.cons (.k (.int 0)) .nil))) .nil))⟩
def f__law_saying : Fn := ⟨3, 8, (.cons (.set 3 (.call "_law_next" (.cons (.v 0) .nil))) (.cons (.set 4 (.bin .fdiv (.v 3) (.k (.int 16)))) (.cons (.ite (.and (.cons (.cmp .gt (.v 1) (.k (.int 2))) (.cons (.cmp .gt (.bin .mod (.v 3) (.k (.int 16))) (.k (.int 3))) .nil))) (.cons (.set 5 (.bin .add (.k (.int 1)) (.bin .mod (.bin .fdiv (.v 4) (.k (.int 5))) (.bin .sub (.v 1) (.k (.int 2)))))) (.cons (.set 6 (.call "_law_saying" (.cons (.v 0) (.cons (.v 5) (.cons (.v 2) .nil))))) (.cons (.set 7 (.sub (.tup (.cons (.k (.str (S "more"))) (.cons (.k (.str (S "less"))) (.cons (.k (.str (S "greater"))) (.cons (.k (.str (S "lesser"))) (.cons (.k (.str (S "leads"))) .nil)))))) (.bin .mod (.v 4) (.k (.int 5))))) (.cons (.ret (.tup (.cons (.v 7) (.cons (.v 6) (.cons (.call "_law_saying" (.cons (.v 0) (.cons (.bin .sub (.bin .sub (.v 1) (.k (.int 1))) (.v 5)) (.cons (.v 2) .nil)))) .nil))))) .nil)))) .nil) (.cons (.ite (.and (.cons (.cmp .gt (.v 1) (.k (.int 1))) (.cons (.cmp .lt (.bin .mod (.v 3) (.k (.int 16))) (.k (.int 3))) .nil))) (.cons (.ret (.tup (.cons (.k (.str (S "not"))) (.cons (.call "_law_saying" (.cons (.v 0) (.cons (.bin .sub (.v 1) (.k (.int 1))) (.cons (.v 2) .nil)))) .nil)))) .nil) .nil) (.cons (.ite (.cmp .gt (.bin .mod (.v 4) (.k (.int 9))) (.k (.int 6))) (.cons (.ret (.tup (.cons (.sub (.tup (.cons (.k (.str (S "never"))) (.cons (.k (.str (S "always"))) .nil))) (.bin .sub (.bin .mod (.v 4) (.k (.int 9))) (.k (.int 7)))) .nil))) .nil) .nil) (.cons (.ret (.tup (.cons (.sub (.tup (.cons (.k (.str (S "p"))) (.cons (.k (.str (S "q"))) .nil))) (.bin .mul (.bin .mod (.v 4) (.k (.int 2))) (.b .int (.cons (.v 2) .nil)))) .nil))) .nil))))))⟩
end Q

/-! more of my interpreter's steps: loops over given things, texts -/
namespace Q
noncomputable section
variable (C : Cl) (s : Ev) (h : Hs)
def kForR (tg : Tg) (a : Bl) (ok : Hs → Prop) (ds : List D) : SR → SR
  | .nx s h => forE C tg a ok ds s h
  | .ct s h => forE C tg a ok ds s h
  | .bk s h => .nx s h
  | r => r
def kForA (tg : Tg) (a : Bl) (ok : Hs → Prop) (ds : List D) (h : Hs) : Option Ev → SR
  | some s => kForR C tg a ok ds (exB C a s h)
  | none => .bad
variable {C s h}
theorem forE_cons {tg : Tg} {a : Bl} {ok : Hs → Prop} {d : D} {ds : List D} (q : ok h) : forE C tg a ok (d :: ds) s h = kForA C tg a ok ds h (asg tg d s) := by
  unfold forE
  rw [forL, if_pos q]
  simp only [forG, kForA]
  cases asg tg d s with
  | none => rfl
  | some s2 =>
    simp only [kForR, forE]
    all_goals (cases exB C a s2 h <;> rfl)
theorem forE_nil' {tg : Tg} {a : Bl} {ok : Hs → Prop} (q : ok h) : forE C tg a ok [] s h = .nx s h := forE_nil q
variable (tg : Tg) (a : Bl) (ok : Hs → Prop) (d : D) (ds : List D) (c : Cn) (fs : List D)
@[simp] theorem kForA_some : kForA C tg a ok ds h (some s) = kForR C tg a ok ds (exB C a s h) := rfl
@[simp] theorem kForR_nx : kForR C tg a ok ds (.nx s h) = forE C tg a ok ds s h := rfl
@[simp] theorem kForR_ct : kForR C tg a ok ds (.ct s h) = forE C tg a ok ds s h := rfl
@[simp] theorem kForR_bk : kForR C tg a ok ds (.bk s h) = .nx s h := rfl
@[simp] theorem kForR_rt : kForR C tg a ok ds (.rt d h) = .rt d h := rfl
@[simp] theorem kForR_exc : kForR C tg a ok ds (.exc c fs s h) = .exc c fs s h := rfl
@[simp] theorem asg_one (i : Nat) : asg (.one i) d s = some (s.set i (some d)) := rfl
@[simp] theorem asg_two (i j : Nat) (x y : D) : asg (.many [i, j]) (.tup [x, y]) s = some ((s.set i (some x)).set j (some y)) := rfl
@[simp] theorem asg_three (i j k : Nat) (x y z : D) : asg (.many [i, j, k]) (.tup [x, y, z]) s = some (((s.set i (some x)).set j (some y)).set k (some z)) := rfl
@[simp] theorem run_neB (x y : Bool) : Cop.run .ne (.bl x) (.bl y) h = .ok (.bl (!(x == y))) h := by
  simp [Cop.run, eqv, rsv, rsF, ddep, opt, deq]
@[simp] theorem run_eqB (x y : Bool) : Cop.run .eq (.bl x) (.bl y) h = .ok (.bl (x == y)) h := by
  simp [Cop.run, eqv, rsv, rsF, ddep, opt, deq]
@[simp] theorem run_neS (x y : PySem.Str) : Cop.run .ne (.str x) (.str y) h = .ok (.bl (!(x == y))) h := by
  simp [Cop.run, eqv, rsv, rsF, ddep, opt, deq]
@[simp] theorem atI_two {α : Type} (x y z : α) (xs : List α) : atI (x :: y :: z :: xs) 2 = some z := by
  rw [atI_nat (by omega) (by simp <;> omega)]; rfl
@[simp] theorem atI_three {α : Type} (x y z u : α) (xs : List α) : atI (x :: y :: z :: u :: xs) 3 = some u := by
  rw [atI_nat (by omega) (by simp <;> omega)]; rfl
@[simp] theorem atI_four {α : Type} (x y z u v : α) (xs : List α) : atI (x :: y :: z :: u :: v :: xs) 4 = some v := by
  rw [atI_nat (by omega) (by simp <;> omega)]; rfl
theorem run_addS {x y : PySem.Str} (l : x.length + y.length ≤ SZ) : Bop.run .add (.str x) (.str y) h = .ok (.str (x ++ y)) h := if_pos l
end
/-! ### texts of numbers -/
theorem strOk_S (s : String) : PySem.PyData.strOk (S s) = true := by
  unfold S PySem.PyData.strOk
  rw [PySem.Str.ofString_eq_toList]
  rw [Array.all_eq_true]
  intro i hi
  simp only [List.size_toArray, List.length_map] at hi
  simp only [List.getElem_toArray, List.getElem_map, decide_eq_true_eq]
  have v := (s.toList[i]).valid
  rcases v with v | ⟨_, v⟩
  · exact Nat.lt_trans v (by decide)
  · exact v
theorem toStr_len {i : Int} (q : strB i) : (toStr i).length ≤ 1901 := by
  unfold toStr S
  rw [PySem.ofString_length]
  exact PySem.int_text_length_le (k := 1900) (by decide) q
theorem str_int {i : Int} {h : Hs} (q : strB i) : Bi.run .str [.int i] h = .ok (.str (toStr i)) h := by
  simp only [Bi.run]
  rw [if_pos ⟨q, strOk_S _⟩]
theorem len_S (s : String) : (S s).length = s.length := PySem.ofString_length s
theorem len_app (x y : PySem.Str) : (x ++ y).length = x.length + y.length := PySem.strLen_append x y
end Q

/-! the numbers of a script, as a law takes them -/
namespace Q
/-- the script's numbers are of bounded size -/
structure Scr (ns : List Int) : Prop where
  len : ns.length ≤ 63
  bits : ∀ z ∈ ns, PySem.Builtin.Int.intBits z ≤ 1048576
def mixV (ns : List Int) (j : Int) : Int := if h : 0 < ns.length then (ns[(j.fmod ns.length).toNat]'(by
  have h1 := Int.fmod_nonneg_of_pos j (show (0 : Int) < ns.length by omega)
  have h2 := Int.fmod_lt_of_pos j (show (0 : Int) < ns.length by omega)
  omega)).fmod (10 ^ 18) else 0
def mix1 (c j : Int) : Int := ((c + 7 * j * j + 13 * j + 5) * 48271).fmod 2147483647
def mix2 (a j : Int) : Int := (((a * a + j).fmod 1000000007) * 69621 + a).fmod 2147483629
def odd0 (ns : List Int) : Bool := match ns with
  | [] => false
  | z :: _ => decide (z.fmod 2 = 1)
def cellV (ns : List Int) (j : Int) : Int := if odd0 ns = true then (if j = 0 then (ns.headD 0).fdiv 2 else if j < ns.length then ns.getD j.toNat 0 else 0) else mix2 (mix1 (mixV ns j) j) j
theorem mixV_bd (ns : List Int) (j : Int) : Bd 60 (mixV ns j) := by
  unfold mixV
  split
  · exact Bd.fmod _ (Bd.of (by decide)) (by decide)
  · exact Bd.of (by decide)
theorem cellV_bd {ns : List Int} (S : Scr ns) (j : Int) : Bd 1048577 (cellV ns j) := by
  unfold cellV
  split
  · split
    · cases ns with
      | nil => exact Bd.of (Nat.pow_pos (by decide))
      | cons z zs => exact (Bd.bits (S.bits z (by simp))).fdiv (by decide)
    · split
      · rename_i h1 h2 h3
        by_cases h4 : j.toNat < ns.length
        · rw [List.getD_eq_getElem?_getD, List.getElem?_eq_getElem h4]
          exact Bd.bits (S.bits _ (List.getElem_mem h4))
        · rw [List.getD_eq_getElem?_getD, List.getElem?_eq_none (by omega)]
          exact Bd.of (Nat.pow_pos (by decide))
      · exact Bd.of (Nat.pow_pos (by decide))
  · exact (Bd.fmod _ (show Bd 31 2147483629 from Bd.of (by decide)) (by decide)).mono (by decide)
theorem cell_ok {T : Tab} (hT : T.fn "_law_cell" = some f__law_cell) {h : Hs} {ns : List Int} (h0 : h[0]? = some (.frz (ns.map .int))) (S : Scr ns) (k : Nat) (j : Int) (j0 : 0 ≤ j) (j1 : Bd 40 j) :
    call T (k + 1) "_law_cell" [.ref 0, .int j] h = .ok (.int (cellV ns j)) h := by
  rw [call_eq hT rfl]
  have b7 : Bd 3 7 := Bd.of (by decide)
  have b13 : Bd 4 13 := Bd.of (by decide)
  have b5 : Bd 3 5 := Bd.of (by decide)
  have f1 : mulB 7 := b7.mulB (by decide)
  have f2 : mulB j := j1.mulB (by decide)
  have f3 : mulB (7 * j) := (b7.mul j1).mulB (by decide)
  have f4 : mulB 13 := b13.mulB (by decide)
  have p1 : Bd 90 (mixV ns j + 7 * j * j + 13 * j + 5) := ((((mixV_bd ns j).add ((b7.mul j1).mul j1)).add (b13.mul j1)).add b5).mono (by decide)
  have f5 := p1.mulB (by decide)
  have f6 : mulB 48271 := by decide
  have f7 : mulB 69621 := by decide
  have m1 : Bd 31 (mix1 (mixV ns j) j) := (Bd.fmod _ (Bd.of (by decide)) (by decide))
  have f8 := m1.mulB (by decide)
  have f9 : mulB ((mix1 (mixV ns j) j * mix1 (mixV ns j) j + j).fmod 1000000007) := (show Bd 31 _ from (Bd.fmod _ (Bd.of (by decide)) (by decide))).mulB (by decide)
  have d2 : divB 2 := by decide
  cases ns with
  | nil =>
    have e : mixV [] j = 0 := rfl
    rw [e] at f5 f8 f9
    simp only [mix1] at f8 f9
    simp at f5 f8 f9
    simp [f__law_cell, start, List.replicate_succ, len_frz h0, run_mul, run_mod, f1, f2, f3, f4, f5, f6, f7, f8, f9]
    simp [cellV, odd0, mix2, mix1, e]
  | cons z zs =>
    have hl : (0 : Int) < (zs.length : Int) + 1 := by omega
    have hl2 : ((zs.length : Int) + 1) ≠ 0 := by omega
    have hg : ∀ i : Int, 0 ≤ i → i < (zs.length : Int) + 1 → getI (.ref 0) (.int i) h = .ok (.int ((z :: zs).getD i.toNat 0)) h := by
      intro i i0 i1
      have hi : i.toNat < (z :: zs).length := by simp; omega
      rw [getI_frz h0, atI_nat i0 (by simpa using i1)]
      simp only [List.getElem_map, opt_some, id_D, List.getD_eq_getElem?_getD, List.getElem?_eq_getElem hi, Option.getD_some]
    have h00 : getI (.ref 0) (.int 0) h = .ok (.int z) h := by rw [hg 0 (by omega) hl]; rfl
    by_cases ho : z.fmod 2 = 1
    · by_cases hj : j = 0
      · subst hj
        simp [f__law_cell, start, List.replicate_succ, len_frz h0, run_mod, run_fdiv, d2, ho, hl, h00]
        simp [cellV, odd0, ho]
      · by_cases hj2 : j < (zs.length : Int) + 1
        · simp [f__law_cell, start, List.replicate_succ, len_frz h0, run_mod, run_fdiv, d2, ho, hl, h00, hj, hj2, hg j j0 hj2]
          simp [cellV, odd0, ho, hj, hj2]
        · simp [f__law_cell, start, List.replicate_succ, len_frz h0, run_mod, run_fdiv, d2, ho, hl, h00, hj, hj2]
          simp [cellV, odd0, ho, hj, hj2]
    · have r1 := Int.fmod_nonneg_of_pos j hl
      have r2 := Int.fmod_lt_of_pos j hl
      have e : ((z :: zs).getD (j.fmod ((zs.length : Int) + 1)).toNat 0).fmod 1000000000000000000 = mixV (z :: zs) j := by
        unfold mixV
        rw [dif_pos (by simp)]
        simp [List.getD_eq_getElem?_getD]
        rw [List.getElem?_eq_getElem (by simp; omega)]
        rfl
      have hg2 := hg _ r1 r2
      have ec : cellV (z :: zs) j = mix2 (mix1 (mixV (z :: zs) j) j) j := by simp [cellV, odd0, ho]
      rw [ec]
      generalize (z :: zs).getD (j.fmod ((zs.length : Int) + 1)).toNat 0 = w at hg2 e
      generalize mixV (z :: zs) j = v at e f5 f8 f9 m1 p1
      simp only [mix1] at f8 f9
      simp [f__law_cell, start, List.replicate_succ, len_frz h0, run_mod, run_pow, ho, hl, hl2, h00, hg2, run_mul, f1, f2, f3, f4, f5, f6, f7, f8, f9, e]
      simp [mix2, mix1]
end Q

/-! loops with an invariant, heaps that grow -/
namespace Q
/-- the heap h, with more behind it -/
def Gr (h h' : Hs) : Prop := ∃ G, h' = h ++ G
theorem Gr.refl (h : Hs) : Gr h h := ⟨[], by simp⟩
theorem Gr.trans {a b c : Hs} (x : Gr a b) (y : Gr b c) : Gr a c := by
  obtain ⟨g, rfl⟩ := x
  obtain ⟨k, rfl⟩ := y
  exact ⟨g ++ k, by simp⟩
theorem Gr.push {a b : Hs} (x : Gr a b) (o : O) : Gr a (b ++ [o]) := x.trans ⟨[o], rfl⟩
theorem Gr.app (h G : Hs) : Gr h (h ++ G) := ⟨G, rfl⟩
theorem Gr.at {a b : Hs} (x : Gr a b) {n : Nat} {o : O} (h : a[n]? = some o) : b[n]? = some o := by
  obtain ⟨g, rfl⟩ := x
  have := List.getElem?_eq_some_iff.mp h
  obtain ⟨l, e⟩ := this
  rw [List.getElem?_append_left l]; exact h
theorem Gr.len {a b : Hs} (x : Gr a b) : a.length ≤ b.length := by
  obtain ⟨g, rfl⟩ := x
  simp
noncomputable section
variable {C : Cl} {s : Ev} {h : Hs}
theorem forE_inv {tg : Tg} {a : Bl} {ok : Hs → Prop} (P : Ev → Hs → Prop) (hok : ∀ s h, P s h → ok h) : ∀ {ds : List D} {s : Ev} {h : Hs},
    (∀ d ∈ ds, ∀ s h, P s h → ∃ s2 s3 h3, asg tg d s = some s2 ∧ (exB C a s2 h = .nx s3 h3 ∨ exB C a s2 h = .ct s3 h3) ∧ P s3 h3) → P s h → ∃ s' h', forE C tg a ok ds s h = .nx s' h' ∧ P s' h'
  | [], s, h, _, p => ⟨s, h, forE_nil (hok s h p), p⟩
  | d :: ds, s, h, st, p => by
    obtain ⟨s2, s3, h3, e1, e2, p3⟩ := st d List.mem_cons_self s h p
    obtain ⟨s', h', e, p'⟩ := forE_inv P hok (fun d hd => st d (List.mem_cons_of_mem _ hd)) p3
    refine ⟨s', h', ?_, p'⟩
    rcases e2 with e2 | e2
    · rw [forE_nx (hok s h p) e1 e2]; exact e
    · rw [forE_ct (hok s h p) e1 e2]; exact e
/-- .. told by how many turns are done -/
theorem forE_ix {tg : Tg} {a : Bl} {ok : Hs → Prop} (P : Nat → Ev → Hs → Prop) (hok : ∀ i s h, P i s h → ok h) : ∀ {ds : List D} {n : Nat} {s : Ev} {h : Hs},
    (∀ i d, ds[i]? = some d → ∀ s h, P (n + i) s h → ∃ s2 s3 h3, asg tg d s = some s2 ∧ (exB C a s2 h = .nx s3 h3 ∨ exB C a s2 h = .ct s3 h3) ∧ P (n + i + 1) s3 h3) → P n s h → ∃ s' h', forE C tg a ok ds s h = .nx s' h' ∧ P (n + ds.length) s' h'
  | [], n, s, h, _, p => ⟨s, h, forE_nil (hok n s h p), p⟩
  | d :: ds, n, s, h, st, p => by
    obtain ⟨s2, s3, h3, e1, e2, p3⟩ := st 0 d rfl s h p
    obtain ⟨s', h', e, p'⟩ := forE_ix (ds := ds) (n := n + 1) P hok (fun i d hd s h q => by
      have := st (i + 1) d (by simpa using hd) s h (by rw [show n + (i + 1) = n + 1 + i by omega]; exact q)
      rw [show n + 1 + i + 1 = n + (i + 1) + 1 by omega]
      exact this) p3
    refine ⟨s', h', ?_, by rw [List.length_cons, show n + (ds.length + 1) = n + 1 + ds.length by omega]; exact p'⟩
    rcases e2 with e2 | e2
    · rw [forE_nx (hok n s h p) e1 e2]; exact e
    · rw [forE_ct (hok n s h p) e1 e2]; exact e
theorem rangeL_mem : ∀ {n : Nat} {lo : Int} {d : D}, d ∈ rangeL lo n → ∃ i : Nat, i < n ∧ d = .int (lo + i)
  | 0, lo, d, h => by cases h
  | n + 1, lo, d, h => by
    unfold rangeL at h
    rcases List.mem_cons.mp h with rfl | h
    · exact ⟨0, by omega, by simp⟩
    · obtain ⟨i, hi, rfl⟩ := rangeL_mem h
      exact ⟨i + 1, by omega, by congr 1; omega⟩
theorem rangeC_mem : ∀ {n : Nat} {lo c : Int} {d : D}, d ∈ rangeC lo c n → ∃ i : Nat, i < n ∧ d = .int (lo + i * c)
  | 0, lo, c, d, h => by cases h
  | n + 1, lo, c, d, h => by
    unfold rangeC at h
    rcases List.mem_cons.mp h with rfl | h
    · exact ⟨0, by omega, by simp⟩
    · obtain ⟨i, hi, rfl⟩ := rangeC_mem h
      refine ⟨i + 1, by omega, ?_⟩
      congr 1
      have : ((i + 1 : Nat) : Int) * c = i * c + c := by rw [Int.natCast_succ, Int.add_mul, Int.one_mul]
      omega
theorem rng3_ok {i j c : Int} (q : small i ∧ small j ∧ 0 < c ∧ c < 1000) : rng3 (.int i) (.int j) (.int c) h = .ok ⟨rangeC i c ((j - i + c - 1) / c).toNat, fun _ => True⟩ h := by simp only [rng3, q, and_self, if_true]
/-- a comprehension whose heap grows -/
theorem kComp_inv {e : Ex} {tg : Tg} {own : List Nat} {w : Walk} (f : D → D) (P : Hs → Prop) (hok : ∀ h, P h → w.ok h)
    (he : ∀ d ∈ w.items, ∀ h, P h → ∃ s2 h', asg tg d (wipe s own) = some s2 ∧ evE C e s2 h = .ok (f d) h' ∧ P h') (hl : w.items.length ≤ SZ) (hp : P h) :
    ∃ h', P h' ∧ kComp C s e tg .none own (.ok w h) = .ok (.ref h'.length) (h' ++ [.lst (w.items.map f)]) := by
  have go : ∀ (l : List D) (h : Hs), P h → (∀ d ∈ l, ∀ h, P h → ∃ s2 h', asg tg d (wipe s own) = some s2 ∧ evE C e s2 h = .ok (f d) h' ∧ P h') → ∃ h', P h' ∧ compL w.ok (compG tg own (fun s h => evC C .none s h) (fun s h => evE C e s h) s) l h = .ok (l.map f) h' := by
    intro l
    induction l with
    | nil => intro h p _; refine ⟨h, p, ?_⟩; unfold compL; rw [if_pos (hok h p)]; rfl
    | cons d l ih =>
      intro h p hd
      obtain ⟨s2, h2, e1, e2, p2⟩ := hd d List.mem_cons_self h p
      obtain ⟨h3, p3, e3⟩ := ih h2 p2 fun d hd' => hd d (List.mem_cons_of_mem _ hd')
      refine ⟨h3, p3, ?_⟩
      unfold compL
      rw [if_pos (hok h p)]
      have hg : compG tg own (fun s h => evC C .none s h) (fun s h => evE C e s h) s d h = .ok (some (f d)) h2 := by
        simp only [compG, e1, evC_none, e2]
      rw [hg]
      simp only
      rw [e3]
      rfl
  obtain ⟨h', p', e'⟩ := go w.items h hp he
  refine ⟨h', p', ?_⟩
  show compE w _ h = _
  unfold compE
  rw [e']
  simp only [hl, if_true]
variable (C s h)
def kR31 (b c : Ex) : R D → R Walk := fun r => r.bind fun x h => (evE C b s h).bind fun y h => (evE C c s h).bind fun z h => rng3 x y z h
def kR32 (x : D) (c : Ex) : R D → R Walk := fun r => r.bind fun y h => (evE C c s h).bind fun z h => rng3 x y z h
def kR33 (x y : D) : R D → R Walk := fun r => r.bind fun z h => rng3 x y z h
variable {C s h} (x y z : D)
@[simp] theorem walk_r3 (a b c : Ex) : walk C (.r3 a b c) s h = kR31 C s b c (evE C a s h) := by simp only [walk, kR31]
@[simp] theorem kR31_ok (b c : Ex) : kR31 C s b c (.ok x h) = kR32 C s x c (evE C b s h) := rfl
@[simp] theorem kR32_ok (c : Ex) : kR32 C s x c (.ok y h) = kR33 x y (evE C c s h) := rfl
@[simp] theorem kR33_ok : kR33 x y (.ok z h) = rng3 x y z h := by cases z <;> rfl
@[simp] theorem max_int (i j : Int) : Bi.run .max [.int i, .int j] h = .ok (.int (if j > i then j else i)) h := rfl
@[simp] theorem min_int (i j : Int) : Bi.run .min [.int i, .int j] h = .ok (.int (if j < i then j else i)) h := rfl
@[simp] theorem int_int (i : Int) : Bi.run .int [.int i] h = .ok (.int i) h := rfl
@[simp] theorem int_bl (b : Bool) : Bi.run .int [.bl b] h = .ok (.int (b2i b)) h := rfl
theorem all_lst {n : Nat} {xs : List D} {bs : List Bool} (q : h[n]? = some (.lst xs)) (e : boolsL xs = some bs) : Bi.run .all [.ref n] h = .ok (.bl (bs.all id)) h := by
  simp only [Bi.run, listOf, q, Option.bind_some, e, opt_some]
theorem any_lst {n : Nat} {xs : List D} {bs : List Bool} (q : h[n]? = some (.lst xs)) (e : boolsL xs = some bs) : Bi.run .any [.ref n] h = .ok (.bl (bs.any id)) h := by
  simp only [Bi.run, listOf, q, Option.bind_some, e, opt_some]
theorem boolsL_map {α : Type} (f : α → Bool) : ∀ l : List α, boolsL (l.map fun a => .bl (f a)) = some (l.map f)
  | [] => rfl
  | a :: l => by simp [boolsL, boolsL_map f l]
end
end Q

/-! plain data compared; comprehensions and loops over mapped lists -/
namespace Q
mutual
/-- numbers, texts, truths, None, tuples of such -/
def flat : D → Bool
  | .tup xs => flats xs
  | .obj _ _ | .ref _ | .lv _ => false
  | _ => true
def flats : List D → Bool
  | [] => true
  | x :: xs => flat x && flats xs
end
mutual
theorem rsF_flat (f : Nat → Option D) : ∀ d : D, flat d = true → rsF f d = some d
  | .non, _ => rfl
  | .bl _, _ => rfl
  | .int _, _ => rfl
  | .str _, _ => rfl
  | .tup xs, h => by
    simp only [flat] at h
    simp only [rsF, rsFs_flat f xs h, Option.map_some]
  | .obj _ _, h => by simp [flat] at h
  | .ref _, h => by simp [flat] at h
  | .lv _, h => by simp [flat] at h
theorem rsFs_flat (f : Nat → Option D) : ∀ xs : List D, flats xs = true → rsFs f xs = some xs
  | [], _ => rfl
  | x :: xs, h => by
    simp only [flats, Bool.and_eq_true] at h
    simp only [rsFs, rsF_flat f x h.1, rsFs_flat f xs h.2]
end
mutual
theorem deq_flat : ∀ d : D, flat d = true → deq d d = true
  | .non, _ => rfl
  | .bl b, _ => by simp [deq]
  | .int _, _ => by simp [deq]
  | .str _, _ => by simp [deq]
  | .tup xs, h => by
    simp only [flat] at h
    simp only [deq, deqs_flat xs h]
  | .obj _ _, h => by simp [flat] at h
  | .ref _, h => by simp [flat] at h
  | .lv _, h => by simp [flat] at h
theorem deqs_flat : ∀ xs : List D, flats xs = true → deqs xs xs = true
  | [], _ => rfl
  | x :: xs, h => by
    simp only [flats, Bool.and_eq_true] at h
    simp only [deqs, deq_flat x h.1, deqs_flat xs h.2, Bool.and_self]
end
theorem flats_map {α : Type} (f : α → D) (l : List α) (h : ∀ a ∈ l, flat (f a) = true) : flats (l.map f) = true := by
  induction l with
  | nil => rfl
  | cons a l ih =>
    simp only [List.map_cons, flats, Bool.and_eq_true]
    exact ⟨h a List.mem_cons_self, ih fun b hb => h b (List.mem_cons_of_mem _ hb)⟩
theorem flats_app : ∀ (a b : List D), flats a = true → flats b = true → flats (a ++ b) = true
  | [], b, _, h => h
  | x :: a, b, h, k => by
    simp only [List.cons_append, flats, Bool.and_eq_true] at h ⊢
    exact ⟨h.1, flats_app a b h.2 k⟩
theorem ddeps_map {α : Type} (f : α → D) (n : Nat) (l : List α) (h : ∀ a ∈ l, ddep (f a) ≤ n) : ddeps (l.map f) ≤ n := by
  induction l with
  | nil => exact Nat.zero_le _
  | cons a l ih =>
    simp only [List.map_cons, ddeps]
    have h1 := h a List.mem_cons_self
    have h2 := ih fun b hb => h b (List.mem_cons_of_mem _ hb)
    omega
theorem eqv_lst {h : Hs} {n m : Nat} {xs : List D} (hn : h[n]? = some (.lst xs)) (hm : h[m]? = some (.lst xs)) (f : flats xs = true) (d : ddeps xs ≤ 100) : eqv h (.ref n) (.ref m) = some true := by
  simp only [eqv, rsv, rsF, rdN, hn, hm, rsFs_flat _ xs f, Option.map_some, deq, deqs_flat xs f, ddep]
  rw [if_pos (by omega)]
theorem eqv_tup {h : Hs} {xs : List D} (f : flats xs = true) (d : ddeps xs ≤ 100) : eqv h (.tup xs) (.tup xs) = some true := by
  simp only [eqv, rsv, rsF, rsFs_flat _ xs f, Option.map_some, deq, deqs_flat xs f, ddep]
  rw [if_pos (by omega)]
noncomputable section
variable {C : Cl} {s : Ev} {h : Hs}
theorem kComp_mapL {α : Type} {e : Ex} {tg : Tg} {own : List Nat} {w : Walk} (xs : List α) (g f : α → D) (hi : w.items = xs.map g) (hok : w.ok h) (he : ∀ a ∈ xs, ∃ s2, asg tg (g a) (wipe s own) = some s2 ∧ evE C e s2 h = .ok (f a) h) (hl : xs.length ≤ SZ) :
    kComp C s e tg .none own (.ok w h) = .ok (.ref h.length) (h ++ [.lst (xs.map f)]) := by
  have go : ∀ l : List α, (∀ a ∈ l, ∃ s2, asg tg (g a) (wipe s own) = some s2 ∧ evE C e s2 h = .ok (f a) h) → compL w.ok (compG tg own (fun s h => evC C .none s h) (fun s h => evE C e s h) s) (l.map g) h = .ok (l.map f) h := by
    intro l
    induction l with
    | nil => intro _; simp only [List.map_nil]; unfold compL; rw [if_pos hok]
    | cons d l ih =>
      intro hd
      obtain ⟨s2, h1, h2⟩ := hd d List.mem_cons_self
      simp only [List.map_cons]
      unfold compL
      rw [if_pos hok]
      have hg : compG tg own (fun s h => evC C .none s h) (fun s h => evE C e s h) s (g d) h = .ok (some (f d)) h := by
        simp only [compG, h1, evC_none, h2]
      rw [hg]
      simp only
      rw [ih fun d hd' => hd d (List.mem_cons_of_mem _ hd')]
  show compE w _ h = _
  unfold compE
  rw [hi, go xs he]
  simp only [List.length_map, hl, if_true]
/-- .. whose heap grows -/
theorem kComp_mapG {α : Type} {e : Ex} {tg : Tg} {own : List Nat} {w : Walk} (xs : List α) (g f : α → D) (P : Hs → Prop) (hi : w.items = xs.map g) (hok : ∀ h, P h → w.ok h)
    (he : ∀ a ∈ xs, ∀ h, P h → ∃ s2 h', asg tg (g a) (wipe s own) = some s2 ∧ evE C e s2 h = .ok (f a) h' ∧ P h') (hl : xs.length ≤ SZ) (hp : P h) :
    ∃ h', P h' ∧ kComp C s e tg .none own (.ok w h) = .ok (.ref h'.length) (h' ++ [.lst (xs.map f)]) := by
  have go : ∀ (l : List α) (h : Hs), P h → (∀ a ∈ l, ∀ h, P h → ∃ s2 h', asg tg (g a) (wipe s own) = some s2 ∧ evE C e s2 h = .ok (f a) h' ∧ P h') → ∃ h', P h' ∧ compL w.ok (compG tg own (fun s h => evC C .none s h) (fun s h => evE C e s h) s) (l.map g) h = .ok (l.map f) h' := by
    intro l
    induction l with
    | nil => intro h p _; refine ⟨h, p, ?_⟩; simp only [List.map_nil]; unfold compL; rw [if_pos (hok h p)]
    | cons d l ih =>
      intro h p hd
      obtain ⟨s2, h2, e1, e2, p2⟩ := hd d List.mem_cons_self h p
      obtain ⟨h3, p3, e3⟩ := ih h2 p2 fun d hd' => hd d (List.mem_cons_of_mem _ hd')
      refine ⟨h3, p3, ?_⟩
      simp only [List.map_cons]
      unfold compL
      rw [if_pos (hok h p)]
      have hg : compG tg own (fun s h => evC C .none s h) (fun s h => evE C e s h) s (g d) h = .ok (some (f d)) h2 := by
        simp only [compG, e1, evC_none, e2]
      rw [hg]
      simp only
      rw [e3]
  obtain ⟨h', p', e'⟩ := go xs h hp he
  refine ⟨h', p', ?_⟩
  show compE w _ h = _
  unfold compE
  rw [hi, e']
  simp only [List.length_map, hl, if_true]
theorem add_lsts {n m : Nat} {xs ys : List D} (q : h[n]? = some (.lst xs)) (r : h[m]? = some (.lst ys)) (l : xs.length + ys.length ≤ SZ) : Bop.run .add (.ref n) (.ref m) h = .ok (.ref h.length) (h ++ [.lst (xs ++ ys)]) := by
  simp only [Bop.run, q, r, l, if_true]
theorem tuple_lst {n : Nat} {xs : List D} (q : h[n]? = some (.lst xs)) : Bi.run .tuple [.ref n] h = .ok (.tup xs) h := by
  simp only [Bi.run, itemsOf, q, opt_some]
theorem pop_lst {n : Nat} {xs : List D} {d : D} (q : h[n]? = some (.lst (xs ++ [d]))) : Bm.run .pop (.ref n) [] h = .ok d (h.set n (.lst xs)) := by
  simp only [Bm.run, q]
  simp
theorem list_lst {n : Nat} {xs : List D} (q : h[n]? = some (.lst xs)) : Bi.run .list [.ref n] h = .ok (.ref h.length) (h ++ [.lst xs]) := by
  simp only [Bi.run, q]
end
theorem boolsL_rep {α : Type} (l : List α) : boolsL (l.map fun _ => D.bl true) = some (l.map fun _ => true) := boolsL_map (fun _ => true) l
theorem all_rep {α : Type} {h : Hs} {n : Nat} (l : List α) (q : h[n]? = some (.lst (l.map fun _ => D.bl true))) : Bi.run .all [.ref n] h = .ok (.bl true) h := by
  rw [all_lst q (boolsL_rep l)]
  have : ((l.map fun _ => true).all id) = true := by simp
  rw [this]
end Q

/-! fractions -/
namespace Q
theorem gcd_step {B S : Int} (h1 : 0 < S) (h2 : 0 ≤ B) : ((Int.gcd S (B.fmod S) : Nat) : Int) = Int.gcd B S := by
  rw [Int.fmod_eq_emod_of_nonneg _ (by omega)]
  obtain ⟨b, rfl⟩ := Int.eq_ofNat_of_zero_le h2
  obtain ⟨s, rfl⟩ := Int.eq_ofNat_of_zero_le (show 0 ≤ S by omega)
  show ((Nat.gcd s (b % s) : Nat) : Int) = (Nat.gcd b s : Nat)
  rw [Nat.gcd_comm s, ← Nat.gcd_rec, Nat.gcd_comm]
theorem shared_loop {C : Cl} {h : Hs} {a b : Option D} : ∀ (n : Nat) (B S : Int) (r : Option D), S.toNat ≤ n → 0 ≤ S → 0 ≤ B → ∃ x r', whE C (.cmp .gt (.v 3) (.k (.int 0))) (.cons (.set 4 (.bin .mod (.v 2) (.v 3))) (.cons (.set 2 (.v 3)) (.cons (.set 3 (.v 4)) .nil))) [a, b, some (.int B), some (.int S), r] h = .nx [a, b, some (.int (Int.gcd B S)), x, r'] h := by
  intro n
  induction n with
  | zero =>
    intro B S r hn hS hB
    have e : S = 0 := by omega
    subst e
    refine ⟨some (.int 0), r, ?_⟩
    rw [whE_f (h2 := h) (by simp)]
    simp [Int.natAbs_of_nonneg hB]
  | succ n ih =>
    intro B S r hn hS hB
    by_cases e : S = 0
    · subst e
      refine ⟨some (.int 0), r, ?_⟩
      rw [whE_f (h2 := h) (by simp)]
      simp [Int.natAbs_of_nonneg hB]
    · have hp : 0 < S := by omega
      have m1 := Int.fmod_nonneg_of_pos B hp
      have m2 := Int.fmod_lt_of_pos B hp
      obtain ⟨x, r', hr⟩ := ih S (B.fmod S) (some (.int (B.fmod S))) (by omega) m1 hS
      refine ⟨x, r', ?_⟩
      rw [whE_t (h2 := h) (h3 := h) (s2 := [a, b, some (.int S), some (.int (B.fmod S)), some (.int (B.fmod S))]) (by simp [hp]) (by simp [run_mod e]), hr, gcd_step hp hB]
theorem abs_eq (i : Int) : (if i < 0 then -i else i) = i.natAbs := by split <;> omega
theorem shared_ok {T : Tab} (hT : T.fn "fractions.shared" = some f_fractions_shared) (k : Nat) (h : Hs) (i j : Int) : call T (k+1) "fractions.shared" [.int i, .int j] h = .ok (.int (Int.gcd i j)) h := by
  rw [call_eq hT rfl]
  obtain ⟨x, r', hr⟩ := shared_loop (C := ⟨T, call T k⟩) (h := h) (a := some (.int i)) (b := some (.int j)) _ i.natAbs j.natAbs none (Nat.le_refl _) (by omega) (by omega)
  simp [f_fractions_shared, start, List.replicate_succ, abs_eq, hr]
  rfl
/-- the common factor, with the bottom's sign -/
def sg (a b : Int) : Int := if b < 0 then -(Int.gcd a b : Int) else Int.gcd a b
def low1 (a b : Int) : Int := a.fdiv (sg a b)
def low2 (a b : Int) : Int := b.fdiv (sg a b)
def lowD (a b : Int) : D := .tup [.int (low1 a b), .int (low2 a b)]
theorem gcd_pos {a b : Int} (h : b ≠ 0) : 0 < (Int.gcd a b : Int) := by
  have := Int.gcd_pos_of_ne_zero_right a h
  omega
theorem sg_ne {a b : Int} (h : b ≠ 0) : sg a b ≠ 0 := by
  unfold sg
  have := gcd_pos (a := a) h
  split <;> omega
theorem gcd_le {a b : Int} (h : b ≠ 0) : Int.gcd a b ≤ b.natAbs := Nat.le_of_dvd (Int.natAbs_pos.mpr h) (Nat.gcd_dvd_right _ _)
theorem sg_bd {a b : Int} {n : Nat} (h : b ≠ 0) (k : Bd n b) : Bd n (sg a b) := by
  refine k.le ?_
  have := gcd_le (a := a) h
  unfold sg
  split <;> omega
theorem fraction_no {T : Tab} (hT : T.fn "fractions.fraction" = some f_fractions_fraction) (k : Nat) (h : Hs) (i : Int) : call T (k+1) "fractions.fraction" [.int i, .int 0] h = .exc .NoNumber [] h := by
  rw [call_eq hT rfl]
  simp [f_fractions_fraction, start, List.replicate_succ, raise_plain (d := .NoNumber) rfl]
theorem fraction_ok {T : Tab} (hT : T.fn "fractions.fraction" = some f_fractions_fraction) (hS : T.fn "fractions.shared" = some f_fractions_shared) (k : Nat) (h : Hs) (i j : Int) (hj : j ≠ 0) (bj : Bd 8000 j) : call T (k+2) "fractions.fraction" [.int i, .int j] h = .ok (lowD i j) h := by
  rw [call_eq hT rfl]
  have d := (sg_bd (a := i) hj bj).divB (by decide) (by decide)
  have n := sg_ne (a := i) hj
  by_cases hn : j < 0
  · have e : sg i j = -(Int.gcd i j : Int) := if_pos hn
    rw [e] at d n
    simp [f_fractions_fraction, start, List.replicate_succ, hj, hn, shared_ok hS, run_fdiv n d, lowD, low1, low2, e]
  · have e : sg i j = (Int.gcd i j : Int) := if_neg hn
    rw [e] at d n
    simp [f_fractions_fraction, start, List.replicate_succ, hj, hn, shared_ok hS, run_fdiv n d, lowD, low1, low2, e]
/-! ### numbers in lowest terms -/
theorem fdiv_mul_cancel {a b g : Int} (hg : g ≠ 0) (h : a = b * g) : a.fdiv g = b := by
  subst h
  exact Int.mul_fdiv_cancel _ hg
theorem low_parts {a b : Int} (h : b ≠ 0) : a = low1 a b * sg a b ∧ b = low2 a b * sg a b := by
  have hd : sg a b ∣ a ∧ sg a b ∣ b := by
    unfold sg
    split
    · exact ⟨Int.neg_dvd.mpr (Int.gcd_dvd_left _ _), Int.neg_dvd.mpr (Int.gcd_dvd_right _ _)⟩
    · exact ⟨Int.gcd_dvd_left _ _, (Int.gcd_dvd_right _ _)⟩
  obtain ⟨⟨x, hx⟩, y, hy⟩ := hd
  have n := sg_ne (a := a) h
  have e1 : low1 a b = x := fdiv_mul_cancel n (by rw [Int.mul_comm]; exact hx)
  have e2 : low2 a b = y := fdiv_mul_cancel n (by rw [Int.mul_comm]; exact hy)
  exact ⟨by rw [e1, Int.mul_comm]; exact hx, by rw [e2, Int.mul_comm]; exact hy⟩
theorem low2_pos {a b : Int} (h : b ≠ 0) : 0 < low2 a b := by
  obtain ⟨_, e⟩ := low_parts (a := a) h
  have g := gcd_pos (a := a) h
  by_cases hn : b < 0
  · have es : sg a b = -(Int.gcd a b : Int) := if_pos hn
    rw [es] at e
    by_cases hp : 0 < low2 a b
    · exact hp
    · have : 0 ≤ low2 a b * -(Int.gcd a b : Int) := Int.mul_nonneg_of_nonpos_of_nonpos (by omega) (by omega)
      omega
  · have es : sg a b = (Int.gcd a b : Int) := if_neg hn
    rw [es] at e
    by_cases hp : 0 < low2 a b
    · exact hp
    · have : low2 a b * (Int.gcd a b : Int) ≤ 0 := Int.mul_nonpos_of_nonpos_of_nonneg (by omega) (by omega)
      omega
theorem low1_bd {a b : Int} {n : Nat} (h : b ≠ 0) (k : Bd n a) : Bd n (low1 a b) := by
  refine k.le ?_
  obtain ⟨e, _⟩ := low_parts (a := a) h
  have s := sg_ne (a := a) h
  have : a.natAbs = (low1 a b).natAbs * (sg a b).natAbs := by rw [← Int.natAbs_mul, ← e]
  rw [this]
  exact Nat.le_mul_of_pos_right _ (Int.natAbs_pos.mpr s)
theorem low2_bd {a b : Int} {n : Nat} (h : b ≠ 0) (k : Bd n b) : Bd n (low2 a b) := by
  refine k.le ?_
  obtain ⟨_, e⟩ := low_parts (a := a) h
  have s := sg_ne (a := a) h
  have : b.natAbs = (low2 a b).natAbs * (sg a b).natAbs := by rw [← Int.natAbs_mul, ← e]
  rw [this]
  exact Nat.le_mul_of_pos_right _ (Int.natAbs_pos.mpr s)
/-- a factor changes nothing -/
theorem low_factor {a b f : Int} (hb : b ≠ 0) (hf : f ≠ 0) : lowD (f * a) (f * b) = lowD a b := by
  have hg : (Int.gcd (f * a) (f * b) : Int) = f.natAbs * (Int.gcd a b : Int) := by
    have : Int.gcd (f * a) (f * b) = f.natAbs * Int.gcd a b := Int.gcd_mul_left ..
    rw [this]; rfl
  have g := gcd_pos (a := a) hb
  have hs : sg (f * a) (f * b) = f * sg a b := by
    unfold sg
    rw [hg]
    by_cases f0 : 0 < f
    · have e : (f.natAbs : Int) = f := by omega
      rw [e]
      by_cases b0 : b < 0
      · have : f * b < 0 := Int.mul_neg_of_pos_of_neg f0 b0
        rw [if_pos this, if_pos b0, Int.mul_neg]
      · have : 0 ≤ f * b := Int.mul_nonneg (by omega) (by omega)
        rw [if_neg (by omega), if_neg b0]
    · have e : (f.natAbs : Int) = -f := by omega
      rw [e]
      by_cases b0 : b < 0
      · have : 0 ≤ f * b := Int.mul_nonneg_of_nonpos_of_nonpos (by omega) (by omega)
        rw [if_neg (by omega), if_pos b0, Int.neg_mul, Int.mul_neg]
      · have : f * b < 0 := Int.mul_neg_of_neg_of_pos (by omega) (by omega)
        rw [if_pos this, if_neg b0, Int.neg_mul, Int.neg_neg]
  have n := sg_ne (a := a) hb
  obtain ⟨e1, e2⟩ := low_parts (a := a) hb
  have n2 : f * sg a b ≠ 0 := Int.mul_ne_zero hf n
  unfold lowD
  have q1 : low1 (f * a) (f * b) = low1 a b := by
    show (f * a).fdiv (sg (f * a) (f * b)) = _
    rw [hs]
    refine fdiv_mul_cancel n2 ?_
    rw [← Int.mul_assoc, Int.mul_comm (low1 a b) f, Int.mul_assoc, ← e1]
  have q2 : low2 (f * a) (f * b) = low2 a b := by
    show (f * b).fdiv (sg (f * a) (f * b)) = _
    rw [hs]
    refine fdiv_mul_cancel n2 ?_
    rw [← Int.mul_assoc, Int.mul_comm (low2 a b) f, Int.mul_assoc, ← e2]
  rw [q1, q2]
theorem low_zero {b : Int} (h : b ≠ 0) : lowD 0 b = .tup [.int 0, .int 1] := by
  have n := sg_ne (a := 0) h
  have e : sg 0 b = b := by
    unfold sg
    rw [Int.gcd_zero_left]
    split <;> omega
  unfold lowD low1 low2
  rw [e, Int.zero_fdiv, Int.fdiv_self h]
/-- sums, differences, products -/
theorem plus_ok {T : Tab} (hT : T.fn "fractions.plus" = some f_fractions_plus) (hF : T.fn "fractions.fraction" = some f_fractions_fraction) (hS : T.fn "fractions.shared" = some f_fractions_shared) (k : Nat) (h : Hs) (a b c d : Int) (hb : b ≠ 0) (hd : d ≠ 0) (B : Bd 3900 a ∧ Bd 3900 b ∧ Bd 3900 c ∧ Bd 3900 d) :
    call T (k+3) "fractions.plus" [.tup [.int a, .int b], .tup [.int c, .int d]] h = .ok (lowD (a * d + c * b) (b * d)) h := by
  obtain ⟨B1, B2, B3, B4⟩ := B
  rw [call_eq hT rfl]
  have m1 := B1.mulB (by decide)
  have m2 := B2.mulB (by decide)
  have m3 := B3.mulB (by decide)
  have m4 := B4.mulB (by decide)
  simp [f_fractions_plus, start, List.replicate_succ, run_mul, m1, m2, m3, m4, fraction_ok hF hS k h (a * d + c * b) (b * d) (Int.mul_ne_zero hb hd) ((B2.mul B4).mono (by decide))]
theorem minus_ok {T : Tab} (hT : T.fn "fractions.minus" = some f_fractions_minus) (hF : T.fn "fractions.fraction" = some f_fractions_fraction) (hS : T.fn "fractions.shared" = some f_fractions_shared) (k : Nat) (h : Hs) (a b c d : Int) (hb : b ≠ 0) (hd : d ≠ 0) (B : Bd 3900 a ∧ Bd 3900 b ∧ Bd 3900 c ∧ Bd 3900 d) :
    call T (k+3) "fractions.minus" [.tup [.int a, .int b], .tup [.int c, .int d]] h = .ok (lowD (a * d - c * b) (b * d)) h := by
  obtain ⟨B1, B2, B3, B4⟩ := B
  rw [call_eq hT rfl]
  have m1 := B1.mulB (by decide)
  have m2 := B2.mulB (by decide)
  have m3 := B3.mulB (by decide)
  have m4 := B4.mulB (by decide)
  simp [f_fractions_minus, start, List.replicate_succ, run_mul, m1, m2, m3, m4, fraction_ok hF hS k h (a * d - c * b) (b * d) (Int.mul_ne_zero hb hd) ((B2.mul B4).mono (by decide))]
theorem times_ok {T : Tab} (hT : T.fn "fractions.times" = some f_fractions_times) (hF : T.fn "fractions.fraction" = some f_fractions_fraction) (hS : T.fn "fractions.shared" = some f_fractions_shared) (k : Nat) (h : Hs) (a b c d : Int) (hb : b ≠ 0) (hd : d ≠ 0) (B : Bd 3900 a ∧ Bd 3900 b ∧ Bd 3900 c ∧ Bd 3900 d) :
    call T (k+3) "fractions.times" [.tup [.int a, .int b], .tup [.int c, .int d]] h = .ok (lowD (a * c) (b * d)) h := by
  obtain ⟨B1, B2, B3, B4⟩ := B
  rw [call_eq hT rfl]
  have m1 := B1.mulB (by decide)
  have m2 := B2.mulB (by decide)
  have m3 := B3.mulB (by decide)
  have m4 := B4.mulB (by decide)
  simp [f_fractions_times, start, List.replicate_succ, run_mul, m1, m2, m3, m4, fraction_ok hF hS k h (a * c) (b * d) (Int.mul_ne_zero hb hd) ((B2.mul B4).mono (by decide))]
end Q

/-! the line laws: cells, lowest terms, a line built -/
namespace Q
theorem len_and2 (ns : List Int) (h : Hs) (h0 : h[0]? = some (.frz (ns.map .int))) (C : Cl) (s : Ev) (hs : getL s 0 = some (.ref 0)) :
    evAnd C (.cons (.cmp .gt (.b .len (.cons (.v 0) .nil)) (.k (.int 0))) (.cons (.cmp .eq (.bin .mod (.sub (.v 0) (.k (.int 0))) (.k (.int 2))) (.k (.int 1))) .nil)) s h = .ok (.bl (odd0 ns)) h := by
  cases ns with
  | nil => simp [hs, len_frz h0, odd0]
  | cons z zs =>
    have hl : (0 : Int) < (zs.length : Int) + 1 := by omega
    have hg : getI (.ref 0) (.int 0) h = .ok (.int z) h := by
      rw [getI_frz h0, atI_nat (by omega) (by simp <;> omega)]
      rfl
    simp [hs, len_frz h0, hl, hg, run_mod, odd0]
theorem cell1_all {T : Tab} (hT : T.fn "_law_cell_at" = some f__law_cell_at) (ns : List Int) (k : Nat) (j : Int) (j0 : 0 ≤ j) (j1 : Bd 40 j) :
    ∃ c, (0 ≤ c ∧ Bd 60 c) ∧ ∀ h : Hs, h[0]? = some (.frz (ns.map .int)) → call T (k + 1) "_law_cell_at" [.ref 0, .int j] h = .ok (.int c) h := by
  have nz : (10 ^ 18 : Int) ≠ 0 := by decide
  obtain ⟨v, v0, bv, hv⟩ : ∃ v, 0 ≤ v ∧ Bd 60 v ∧ ∀ h : Hs, h[0]? = some (.frz (ns.map .int)) → exB ⟨T, call T k⟩ f__law_cell_at.body [some (.ref 0), some (.int j), none] h = exB ⟨T, call T k⟩ (match f__law_cell_at.body with
      | .cons _ (.cons _ r) => r
      | _ => .nil) [some (.ref 0), some (.int j), some (.int v)] h := by
    by_cases hj : j < ns.length
    · have hi : j.toNat < ns.length := by omega
      refine ⟨(ns[j.toNat]).fmod (10 ^ 18), Int.fmod_nonneg_of_pos _ (by decide), Bd.fmod _ (Bd.of (by decide)) (by decide), fun h h0 => ?_⟩
      have ln := len_frz h0
      rw [List.length_map] at ln
      have hg : getI (.ref 0) (.int j) h = .ok (.int ns[j.toNat]) h := by
        rw [getI_frz h0, atI_nat j0 (by simpa using hj)]
        simp
      generalize hN : (10 ^ 18 : Int) = N at *
      simp [f__law_cell_at, ln, hj, hg, run_mod, run_pow, hN, nz]
    · refine ⟨0, by decide, Bd.of (by decide), fun h h0 => ?_⟩
      have ln := len_frz h0
      rw [List.length_map] at ln
      simp [f__law_cell_at, ln, hj]
  have m1 := bv.mulB (by decide)
  have m2 : mulB 48271 := by decide
  have m3 : mulB 16807 := by decide
  have m4 := j1.mulB (by decide)
  have m5 : mulB 69621 := by decide
  have m6 : mulB ((v * 48271 + 16807 * j).fmod 2147483647) := (show Bd 31 _ from Bd.fmod _ (Bd.of (by decide)) (by decide)).mulB (by decide)
  by_cases ho : odd0 ns = true
  · refine ⟨v, ⟨v0, bv⟩, fun h h0 => ?_⟩
    have ea' := len_and2 ns h h0 ⟨T, call T k⟩ [some (.ref 0), some (.int j), some (.int v)] rfl
    rw [ho] at ea'
    rw [call_eq hT rfl]
    show SR.fin (exB _ f__law_cell_at.body [some (.ref 0), some (.int j), none] h) = _
    rw [hv h h0]
    simp [f__law_cell_at] at ea' ⊢
    simp [ea']
  · have ho' : odd0 ns = false := by simpa using ho
    refine ⟨((v * 48271 + 16807 * j).fmod 2147483647 * 69621).fmod 2147483629, ⟨Int.fmod_nonneg_of_pos _ (by decide), (show Bd 31 _ from Bd.fmod _ (Bd.of (by decide)) (by decide)).mono (by decide)⟩, fun h h0 => ?_⟩
    have ea' := len_and2 ns h h0 ⟨T, call T k⟩ [some (.ref 0), some (.int j), some (.int v)] rfl
    rw [ho'] at ea'
    rw [call_eq hT rfl]
    show SR.fin (exB _ f__law_cell_at.body [some (.ref 0), some (.int j), none] h) = _
    rw [hv h h0]
    simp [f__law_cell_at] at ea' ⊢
    simp [ea', run_mul, run_mod, m1, m2, m3, m4, m5, m6]
theorem cell1_ok {T : Tab} (hT : T.fn "_law_cell_at" = some f__law_cell_at) {h : Hs} {ns : List Int} (h0 : h[0]? = some (.frz (ns.map .int))) (k : Nat) (j : Int) (j0 : 0 ≤ j) (j1 : Bd 40 j) :
    ∃ c, (0 ≤ c ∧ Bd 60 c) ∧ call T (k + 1) "_law_cell_at" [.ref 0, .int j] h = .ok (.int c) h := by
  obtain ⟨c, b, e⟩ := cell1_all hT ns k j j0 j1
  exact ⟨c, b, e h h0⟩
theorem div_loop {C : Cl} {h : Hs} : ∀ (n : Nat) (B S : Int) (r : Option D), S.toNat ≤ n → 0 ≤ S → 0 ≤ B → ∃ x r', whE C (.cmp .gt (.v 1) (.k (.int 0))) (.cons (.set 2 (.bin .mod (.v 0) (.v 1))) (.cons (.set 0 (.v 1)) (.cons (.set 1 (.v 2)) .nil))) [some (.int B), some (.int S), r] h = .nx [some (.int (Int.gcd B S)), x, r'] h := by
  intro n
  induction n with
  | zero =>
    intro B S r hn hS hB
    have e : S = 0 := by omega
    subst e
    refine ⟨some (.int 0), r, ?_⟩
    rw [whE_f (h2 := h) (by simp)]
    simp [Int.natAbs_of_nonneg hB]
  | succ n ih =>
    intro B S r hn hS hB
    by_cases e : S = 0
    · subst e
      refine ⟨some (.int 0), r, ?_⟩
      rw [whE_f (h2 := h) (by simp)]
      simp [Int.natAbs_of_nonneg hB]
    · have hp : 0 < S := by omega
      have m1 := Int.fmod_nonneg_of_pos B hp
      have m2 := Int.fmod_lt_of_pos B hp
      obtain ⟨x, r', hr⟩ := ih S (B.fmod S) (some (.int (B.fmod S))) (by omega) m1 hS
      refine ⟨x, r', ?_⟩
      rw [whE_t (h2 := h) (h3 := h) (s2 := [some (.int S), some (.int (B.fmod S)), some (.int (B.fmod S))]) (by simp [hp]) (by simp [run_mod e]), hr, gcd_step hp hB]
theorem divisor_ok {T : Tab} (hT : T.fn "_law_divisor" = some f__law_divisor) (k : Nat) (h : Hs) (i j : Int) : call T (k+1) "_law_divisor" [.int i, .int j] h = .ok (.int (Int.gcd i j)) h := by
  rw [call_eq hT rfl]
  obtain ⟨x, r', hr⟩ := div_loop (C := ⟨T, call T k⟩) (h := h) _ i.natAbs j.natAbs none (Nat.le_refl _) (by omega) (by omega)
  simp [f__law_divisor, start, List.replicate_succ, abs_eq, hr]
  rfl
theorem lowest2_ok {T : Tab} (hT : T.fn "_law_lowest" = some f__law_lowest_v2) (hD : T.fn "_law_divisor" = some f__law_divisor) (k : Nat) (h : Hs) (i j : Int) (hj : j ≠ 0) (bj : Bd 8000 j) : call T (k+2) "_law_lowest" [.int i, .int j] h = .ok (lowD i j) h := by
  rw [call_eq hT rfl]
  have g := gcd_pos (a := i) hj
  have n : (Int.gcd i j : Int) ≠ 0 := by omega
  have d : divB (Int.gcd i j : Int) := (bj.le (j := (Int.gcd i j : Int)) (by have := gcd_le (a := i) hj; omega)).divB (by decide) (by decide)
  obtain ⟨e1, e2⟩ := low_parts (a := i) hj
  by_cases hn : j < 0
  · have e : sg i j = -(Int.gcd i j : Int) := if_pos hn
    rw [e] at e1 e2
    have dv := divisor_ok hD k h (-i) (-j)
    rw [Int.gcd_neg, Int.neg_gcd] at dv
    have q1 : (-i).fdiv (Int.gcd i j : Int) = low1 i j := fdiv_mul_cancel n (by rw [Int.mul_neg] at e1; omega)
    have q2 : (-j).fdiv (Int.gcd i j : Int) = low2 i j := fdiv_mul_cancel n (by rw [Int.mul_neg] at e2; omega)
    simp [f__law_lowest_v2, start, List.replicate_succ, hn, dv, run_fdiv n d, lowD, q1, q2]
  · have e : sg i j = (Int.gcd i j : Int) := if_neg hn
    have dv := divisor_ok hD k h i j
    simp [f__law_lowest_v2, start, List.replicate_succ, hn, dv, run_fdiv n d, lowD, low1, low2, e]
theorem low_gcd {a b : Int} (h : b ≠ 0) : Int.gcd (low1 a b) (low2 a b) = 1 := by
  obtain ⟨e1, e2⟩ := low_parts (a := a) h
  have g := gcd_pos (a := a) h
  have hs : (sg a b).natAbs = Int.gcd a b := by unfold sg; split <;> omega
  have e3 : Int.gcd (low1 a b * sg a b) (low2 a b * sg a b) = Int.gcd (low1 a b) (low2 a b) * (sg a b).natAbs := Int.gcd_mul_right ..
  rw [← e1, ← e2] at e3
  rw [hs] at e3
  have p : 0 < Int.gcd a b := by omega
  have : Int.gcd (low1 a b) (low2 a b) * Int.gcd a b = 1 * Int.gcd a b := by omega
  exact Nat.eq_of_mul_eq_mul_right p this
/-! ### a line built -/
/-- a stretch: its end p / q, its slope, its height -/
structure St where
  p : Int
  q : Int
  s : Int
  t : Int
def St.d (x : St) : D := .tup [.tup [.int x.p, .int x.q], .int x.s, .int x.t]
/-- stretches up to p / q, what goes on there has slope s and height t -/
inductive Acc : List St → Int → Int → Int → Int → Prop where
  | nil (s t : Int) : Acc [] 0 1 s t
  | snoc {l : List St} {p q s t p' q' s' t' : Int} (a : Acc l p q s t) (h1 : p * q' < p' * q) (h2 : 0 < q') (h3 : p' < q') (h4 : Int.gcd p' q' = 1) (h5 : (s' - s) * p' + (t' - t) * q' = 0) (h6 : s' ≠ s) (h0 : 0 ≤ p') :
      Acc (l ++ [⟨p', q', s, t⟩]) p' q' s' t'
def StB (x : St) : Prop := (0 ≤ x.p ∧ 0 < x.q ∧ x.p ≤ x.q) ∧ Bd 20 x.p ∧ Bd 20 x.q ∧ Bd 40 x.s ∧ Bd 40 x.t
def buBody : Bl := match f__law_built.body with
  | .cons _ (.cons _ (.cons _ (.cons _ (.cons _ (.cons _ (.cons (.for _ _ b) _)))))) => b
  | _ => .nil
/-- the loop's state -/
structure BuI (l : List St) (p q s t : Int) (i : Nat) : Prop where
  acc : Acc l p q s t
  len : l.length ≤ i
  pq : 0 ≤ p ∧ 0 < q ∧ p ≤ q ∧ q ≤ 100001
  s : s.natAbs ≤ 1000000 + 100001 * i
  t : t.natAbs ≤ 200000000 + 100001 * i
  all : ∀ x ∈ l, StB x
theorem built_turn {T : Tab} (hC : T.fn "_law_cell_at" = some f__law_cell_at) (hL : T.fn "_law_lowest" = some f__law_lowest_v2) (hD : T.fn "_law_divisor" = some f__law_divisor) (k : Nat) {h : Hs} {ns : List Int} (h0 : h[0]? = some (.frz (ns.map .int)))
    {l : List St} {p q s t : Int} {i : Nat} (I : BuI l p q s t i) (hi : i ≤ 64) (j : Int) (j0 : 0 ≤ j) (j1 : j < 100) (a1 a2 s3 s9 s10 s11 s12 : Option D) :
    ∃ l' p' q' s' t', BuI l' p' q' s' t' (i + 1) ∧ ∃ t3 t9 t10 t11 t12,
      exB ⟨T, call T (k + 2)⟩ buBody [some (.ref 0), a1, a2, s3, some (.int s), some (.int t), some (.ref h.length), some (.tup [.int p, .int q]), some (.int j), s9, s10, s11, s12] (h ++ [.lst (l.map St.d)]) =
        .nx [some (.ref 0), a1, a2, t3, some (.int s'), some (.int t'), some (.ref h.length), some (.tup [.int p', .int q']), some (.int j), t9, t10, t11, t12] (h ++ [.lst (l'.map St.d)]) := by
  obtain ⟨p0, q0, pq, q1⟩ := I.pq
  obtain ⟨c, ⟨c0, bc⟩, ec⟩ := cell1_ok hC (h := h ++ [.lst (l.map St.d)]) ((Gr.app h _).at h0) (k + 1) j j0 (Bd.of (by omega))
  have d2 : divB 2 := by decide
  have d18 : divB 18 := by decide
  have d90 : divB 90 := by decide
  have d9 : divB 9000000 := by decide
  have dq : divB q := (show Bd 20 q from Bd.of (by omega)).divB (by decide) (by decide)
  have nq : q ≠ 0 := by omega
  have mp : mulB p := (show Bd 20 p from Bd.of (by omega)).mulB (by decide)
  have stay : BuI l p q s t (i + 1) := ⟨I.acc, by have := I.len; omega, I.pq, by have := I.s; omega, by have := I.t; omega, I.all⟩
  have x1 := Int.fmod_nonneg_of_pos (c.fdiv 2) (show (0 : Int) < 9 by decide)
  have x2 := Int.fmod_lt_of_pos (c.fdiv 2) (show (0 : Int) < 9 by decide)
  have y1 := Int.fmod_nonneg_of_pos (c.fdiv 90) (show (0 : Int) < 99999 by decide)
  have y2 := Int.fmod_lt_of_pos (c.fdiv 90) (show (0 : Int) < 99999 by decide)
  -- the divisor e
  obtain ⟨e, e0, e1, he⟩ : ∃ e : Int, 2 ≤ e ∧ e ≤ 100001 ∧ ∃ z9, exB ⟨T, call T (k + 2)⟩ buBody [some (.ref 0), a1, a2, s3, some (.int s), some (.int t), some (.ref h.length), some (.tup [.int p, .int q]), some (.int j), s9, s10, s11, s12] (h ++ [.lst (l.map St.d)]) =
      exB ⟨T, call T (k + 2)⟩ (match buBody with
        | .cons _ (.cons _ (.cons _ r)) => r
        | _ => .nil) [some (.ref 0), a1, a2, some (.int c), some (.int s), some (.int t), some (.ref h.length), some (.tup [.int p, .int q]), some (.int j), z9, s10, s11, s12] (h ++ [.lst (l.map St.d)]) ∧ z9 = some (.int e) := by
    by_cases g : (c.fdiv 18).fmod 5 = 4
    · exact ⟨2 + (c.fdiv 90).fmod 99999, by omega, by omega, _, by simp [buBody, f__law_built, ec, run_fdiv, run_mod, d2, d18, d90, g], rfl⟩
    · exact ⟨2 + (c.fdiv 2).fmod 9, by omega, by omega, _, by simp [buBody, f__law_built, ec, run_fdiv, run_mod, d2, d18, d90, g], rfl⟩
  obtain ⟨z9, he, rfl⟩ := he
  rw [he]
  have me : mulB e := (show Bd 20 e from Bd.of (by omega)).mulB (by decide)
  have hf0 : 0 ≤ (e * p).fdiv q := by rw [Int.fdiv_eq_ediv_of_nonneg _ (by omega)]; exact Int.ediv_nonneg (Int.mul_nonneg (by omega) p0) (by omega)
  have hf1 : e * p < ((e * p).fdiv q + 1) * q := by
    rw [Int.fdiv_eq_ediv_of_nonneg _ (by omega)]
    have := Int.lt_ediv_add_one_mul_self (e * p) q0
    exact this
  generalize hf : (e * p).fdiv q = f at *
  have bk : bmK .append (.ref h.length) (h ++ [.lst (l.map St.d)]) = true := bmK_lst (xs := l.map St.d) .append (by simp)
  have ap : ∀ d, Bm.run .append (.ref h.length) [d] (h ++ [.lst (l.map St.d)]) = .ok .non (h ++ [.lst (l.map St.d ++ [d])]) := fun d => by
    rw [append_lst (xs := l.map St.d) (by simp) (by have := I.len; simp [SZ]; omega)]
    simp
  -- what a new stretch is
  have add : ∀ m D : Int, D ≠ 0 → (D = e ∧ f + 1 ≤ m ∧ m ≤ e - 1 ∨ D = -e ∧ -e + 1 ≤ m ∧ m ≤ -f - 1) → BuI (l ++ [⟨low1 m D, low2 m D, s, t⟩]) (low1 m D) (low2 m D) (s - D) (t + m) (i + 1) := by
    intro m D nD hm
    obtain ⟨e2, e3⟩ := low_parts (a := m) nD
    have Qp := low2_pos (a := m) nD
    have gc := low_gcd (a := m) nD
    have gp := gcd_pos (a := m) nD
    have key : p * low2 m D < low1 m D * q ∧ low1 m D < low2 m D := by
      rcases hm with ⟨hD, m1, m2⟩ | ⟨hD, m1, m2⟩
      · have es : sg m D = (Int.gcd m D : Int) := if_neg (by omega)
        rw [es] at e2 e3
        generalize (Int.gcd m D : Int) = g at *
        generalize low1 m D = P at *
        generalize low2 m D = Q at *
        have k1 : e * p < m * q := Int.lt_of_lt_of_le hf1 (Int.mul_le_mul_of_nonneg_right m1 (by omega))
        constructor
        · have k2 : g * (p * Q) < g * (P * q) := by
            have a1 : g * (p * Q) = e * p := by rw [← hD, e3, Int.mul_comm p Q, ← Int.mul_assoc, Int.mul_comm g Q]
            have a2 : g * (P * q) = m * q := by rw [e2, ← Int.mul_assoc, Int.mul_comm g P]
            rw [a1, a2]; exact k1
          exact Int.lt_of_mul_lt_mul_left k2 (by omega)
        · have k2 : g * P < g * Q := by rw [Int.mul_comm g P, Int.mul_comm g Q, ← e2, ← e3]; omega
          exact Int.lt_of_mul_lt_mul_left k2 (by omega)
      · have es : sg m D = -(Int.gcd m D : Int) := if_pos (by omega)
        rw [es] at e2 e3
        generalize (Int.gcd m D : Int) = g at *
        generalize low1 m D = P at *
        generalize low2 m D = Q at *
        rw [Int.mul_neg] at e2 e3
        have k1 : e * p < -m * q := Int.lt_of_lt_of_le hf1 (Int.mul_le_mul_of_nonneg_right (by omega) (by omega))
        have e2' : -m = P * g := by omega
        have e3' : e = Q * g := by omega
        constructor
        · have k2 : g * (p * Q) < g * (P * q) := by
            have a1 : g * (p * Q) = e * p := by rw [e3', Int.mul_comm p Q, ← Int.mul_assoc, Int.mul_comm g Q]
            have a2 : g * (P * q) = -m * q := by rw [e2', ← Int.mul_assoc, Int.mul_comm g P]
            rw [a1, a2]; exact k1
          exact Int.lt_of_mul_lt_mul_left k2 (by omega)
        · have k2 : g * P < g * Q := by rw [Int.mul_comm g P, Int.mul_comm g Q, ← e2', ← e3']; omega
          exact Int.lt_of_mul_lt_mul_left k2 (by omega)
    have P0 : 0 ≤ low1 m D := by
      have h1 : 0 ≤ p * low2 m D := Int.mul_nonneg p0 (by omega)
      have h2 : 0 < low1 m D * q := by omega
      by_cases z : 0 ≤ low1 m D
      · exact z
      · have := Int.mul_neg_of_neg_of_pos (show low1 m D < 0 by omega) q0
        omega
    have Qb : low2 m D ≤ 100001 := by
      have bb : low2 m D ≤ D.natAbs := by
        have b := e3
        have hs : 1 ≤ (sg m D).natAbs := by have := sg_ne (a := m) nD; omega
        have h2 : D.natAbs = (low2 m D).natAbs * (sg m D).natAbs := by rw [← Int.natAbs_mul, ← e3]
        have h3 : (low2 m D).natAbs ≤ D.natAbs := by rw [h2]; exact Nat.le_mul_of_pos_right _ (by omega)
        omega
      omega
    have gap : (s - D - s) * low1 m D + (t + m - t) * low2 m D = 0 := by
      have h1 : s - D - s = -D := by omega
      have h2 : t + m - t = m := by omega
      rw [h1, h2]
      have h3 : m * low2 m D = D * low1 m D := by
        generalize low1 m D = P at *
        generalize low2 m D = Q at *
        generalize sg m D = g at *
        rw [e2, e3, Int.mul_right_comm P g Q, Int.mul_right_comm Q g P, Int.mul_comm P Q]
      rw [h3, Int.neg_mul]
      omega
    refine ⟨.snoc I.acc key.1 Qp key.2 gc gap (by omega) P0, by have := I.len; simp; omega, ⟨P0, Qp, by omega, Qb⟩, by have := I.s; omega, by have := I.t; omega, fun x hx => ?_⟩
    rcases List.mem_append.mp hx with hx | hx
    · exact I.all x hx
    · rw [List.mem_singleton.mp hx]
      have hs := I.s
      have ht := I.t
      exact ⟨⟨P0, Qp, by simp only; omega⟩, Bd.of (by simp only; omega), Bd.of (by simp only; omega), Bd.of (by simp only; omega), Bd.of (by simp only; omega)⟩
  have bD : ∀ D : Int, (D = e ∨ D = -e) → Bd 8000 D := fun D hD => (show Bd 20 D from Bd.of (by omega)).mono (by decide)
  by_cases par : c.fmod 2 = 1
  · by_cases lh : -e + 1 ≤ -f - 1
    · have r1 := Int.fmod_nonneg_of_pos (c.fdiv 9000000) (show (0 : Int) < -f - 1 - (-e + 1) + 1 by omega)
      have r2 := Int.fmod_lt_of_pos (c.fdiv 9000000) (show (0 : Int) < -f - 1 - (-e + 1) + 1 by omega)
      have nz : -f - 1 - (-e + 1) + 1 ≠ 0 := by omega
      have A := add (-e + 1 + (c.fdiv 9000000).fmod (-f - 1 - (-e + 1) + 1)) (-e) (by omega) (.inr ⟨rfl, by omega, by omega⟩)
      have lo := fun h => lowest2_ok hL hD k h (-e + 1 + (c.fdiv 9000000).fmod (-f - 1 - (-e + 1) + 1)) (-e) (by omega) (bD _ (.inr rfl))
      refine ⟨_, _, _, _, _, A, ?_⟩
      unfold lowD at lo
      simp [buBody, f__law_built, run_mul, run_fdiv, run_mod, me, mp, nq, dq, hf, d9, par, lh, nz, lo, bk, ap, St.d]
    · refine ⟨l, p, q, s, t, stay, ?_⟩
      simp [buBody, f__law_built, run_mul, run_fdiv, run_mod, me, mp, nq, dq, hf, par, lh]
  · by_cases lh : f + 1 ≤ e - 1
    · have r1 := Int.fmod_nonneg_of_pos (c.fdiv 9000000) (show (0 : Int) < e - 1 - (f + 1) + 1 by omega)
      have r2 := Int.fmod_lt_of_pos (c.fdiv 9000000) (show (0 : Int) < e - 1 - (f + 1) + 1 by omega)
      have nz : e - 1 - (f + 1) + 1 ≠ 0 := by omega
      have A := add (f + 1 + (c.fdiv 9000000).fmod (e - 1 - (f + 1) + 1)) e (by omega) (.inl ⟨rfl, by omega, by omega⟩)
      have lo := fun h => lowest2_ok hL hD k h (f + 1 + (c.fdiv 9000000).fmod (e - 1 - (f + 1) + 1)) e (by omega) (bD _ (.inl rfl))
      refine ⟨_, _, _, _, _, A, ?_⟩
      unfold lowD at lo
      simp [buBody, f__law_built, run_mul, run_fdiv, run_mod, me, mp, nq, dq, hf, d9, par, lh, nz, lo, bk, ap, St.d]
    · refine ⟨l, p, q, s, t, stay, ?_⟩
      simp [buBody, f__law_built, run_mul, run_fdiv, run_mod, me, mp, nq, dq, hf, par, lh]
end Q

/-! a line as it is built; heights on it -/
namespace Q
/-- a line: ends that rise, the last one 1 -/
structure Ln (L : List St) : Prop where
  acc : ∃ l p q s t, Acc l p q s t ∧ L = l ++ [⟨1, 1, s, t⟩]
  all : ∀ x ∈ L, StB x
  len : L.length ≤ 70
theorem Acc.ps {l : List St} {p q s t : Int} (a : Acc l p q s t) : 0 ≤ p ∧ 0 < q ∧ p < q := by
  cases a with
  | nil => omega
  | snoc a h1 h2 h3 h4 h5 h6 h0 => omega
theorem lt_trans {a b c d e f : Int} (hb : 0 < b) (hd : 0 < d) (hf : 0 < f) (h1 : a * d ≤ c * b) (h2 : c * f < e * d) : a * f < e * b := by
  have k1 : a * d * f ≤ c * b * f := Int.mul_le_mul_of_nonneg_right h1 (by omega)
  have k2 : c * f * b < e * d * b := Int.mul_lt_mul_of_pos_right h2 hb
  have e1 : c * b * f = c * f * b := Int.mul_right_comm c b f
  have e2 : a * d * f = a * f * d := Int.mul_right_comm a d f
  have e3 : e * d * b = e * b * d := Int.mul_right_comm e d b
  have k3 : a * f * d < e * b * d := by omega
  exact Int.lt_of_mul_lt_mul_right k3 (by omega)
theorem Acc.lows {l : List St} {p q s t : Int} (a : Acc l p q s t) : (∀ x ∈ l, x.p * q ≤ p * x.q ∧ 0 < x.q) ∧ l.Pairwise fun x y => x.p * y.q < y.p * x.q := by
  induction a with
  | nil => simp
  | snoc a h1 h2 h3 h4 h5 h6 h0 ih =>
    obtain ⟨i1, i2⟩ := ih
    have ps := a.ps
    refine ⟨fun x hx => ?_, ?_⟩
    · rcases List.mem_append.mp hx with hx | hx
      · obtain ⟨j1, j2⟩ := i1 x hx
        exact ⟨Int.le_of_lt (lt_trans j2 ps.2.1 h2 j1 h1), j2⟩
      · rw [List.mem_singleton.mp hx]; exact ⟨Int.le_refl _, h2⟩
    · rw [List.pairwise_append]
      refine ⟨i2, by simp, fun x hx y hy => ?_⟩
      rw [List.mem_singleton.mp hy]
      obtain ⟨j1, j2⟩ := i1 x hx
      exact lt_trans j2 ps.2.1 h2 j1 h1
theorem Ln.pw {L : List St} (n : Ln L) : L.Pairwise fun x y => x.p * y.q < y.p * x.q := by
  obtain ⟨l, p, q, s, t, a, rfl⟩ := n.acc
  obtain ⟨i1, i2⟩ := a.lows
  have ps := a.ps
  rw [List.pairwise_append]
  refine ⟨i2, by simp, fun x hx y hy => ?_⟩
  rw [List.mem_singleton.mp hy]
  obtain ⟨j1, j2⟩ := i1 x hx
  exact lt_trans j2 ps.2.1 (show (0 : Int) < 1 by decide) j1 (by simp only; omega)
theorem built_ok2 {T : Tab} (hB : T.fn "_law_built" = some f__law_built) (hC : T.fn "_law_cell_at" = some f__law_cell_at) (hL : T.fn "_law_lowest" = some f__law_lowest_v2) (hD : T.fn "_law_divisor" = some f__law_divisor) (k : Nat) {h : Hs} {ns : List Int} (h0 : h[0]? = some (.frz (ns.map .int))) (S : Scr ns)
    (a b : Int) (a0 : 0 ≤ a) (a1 : a < 90) (b0 : 0 ≤ b) (b1 : b < 64) : ∃ L, (Ln L ∧ L.length ≤ (b - a - 1).toNat + 1) ∧ ∃ G, call T (k + 3) "_law_built" [.ref 0, .int a, .int b] h = .ok (.ref (h.length + 2)) (h ++ (G ++ [.lst (L.map St.d)])) ∧ G.length = 2 := by
  obtain ⟨c, ⟨c0, bc⟩, ec⟩ := cell1_ok hC h0 (k + 1) a a0 (Bd.of (by omega))
  have d25 : divB 25 := by decide
  have d225 : divB 225 := by decide
  have d900 : divB 900 := by decide
  have d7 : divB 7 := by decide
  have x1 := Int.fmod_nonneg_of_pos c (show (0 : Int) < 25 by decide)
  have x2 := Int.fmod_lt_of_pos c (show (0 : Int) < 25 by decide)
  have y1 := Int.fmod_nonneg_of_pos (c.fdiv 25) (show (0 : Int) < 9 by decide)
  have y2 := Int.fmod_lt_of_pos (c.fdiv 25) (show (0 : Int) < 9 by decide)
  have z1 := Int.fmod_nonneg_of_pos (c.fdiv 900) (show (0 : Int) < 1999999 by decide)
  have z2 := Int.fmod_lt_of_pos (c.fdiv 900) (show (0 : Int) < 1999999 by decide)
  have w1 := Int.fmod_nonneg_of_pos (c.fdiv 7) (show (0 : Int) < 199999999 by decide)
  have w2 := Int.fmod_lt_of_pos (c.fdiv 7) (show (0 : Int) < 199999999 by decide)
  obtain ⟨s, t, s0, t0, he⟩ : ∃ s t : Int, s.natAbs ≤ 1000000 ∧ t.natAbs ≤ 200000000 ∧ exB ⟨T, call T (k + 2)⟩ f__law_built.body [some (.ref 0), some (.int a), some (.int b), none, none, none, none, none, none, none, none, none, none] h =
      exB ⟨T, call T (k + 2)⟩ (match f__law_built.body with
        | .cons _ (.cons _ (.cons _ (.cons _ r))) => r
        | _ => .nil) [some (.ref 0), some (.int a), some (.int b), some (.int c), some (.int s), some (.int t), none, none, none, none, none, none, none] h := by
    by_cases g : (c.fdiv 225).fmod 4 = 3
    · exact ⟨(c.fdiv 900).fmod 1999999 - 999999, (c.fdiv 7).fmod 199999999 - 99999999, by omega, by omega, by simp [f__law_built, ec, run_fdiv, run_mod, d25, d225, d900, d7, g]⟩
    · exact ⟨c.fmod 25 - 12, (c.fdiv 25).fmod 9 - 4, by omega, by omega, by simp [f__law_built, ec, run_fdiv, run_mod, d25, d225, d900, d7, g]⟩
  have hl := S.len
  generalize hm : (if b < (ns.length : Int) then b else (ns.length : Int)) = m
  have m1 : 0 ≤ m ∧ m ≤ 63 := by rw [← hm]; split <;> omega
  have r := rng2_ok (h := h ++ [.lst []]) (i := a + 1) (j := m) ⟨by omega, by omega⟩ ⟨by omega, by omega⟩
  obtain ⟨s', h', e, l, p, q, s2, t2, w3, w8, w9, w10, w11, w12, es, eh, I⟩ := forE_ix (C := ⟨T, call T (k + 2)⟩) (tg := .one 8) (a := buBody) (ok := fun _ => True)
    (fun i σ H => ∃ l p q s t w3 w8 w9 w10 w11 w12, σ = [some (.ref 0), some (.int a), some (.int b), w3, some (.int s), some (.int t), some (.ref h.length), some (.tup [.int p, .int q]), w8, w9, w10, w11, w12] ∧ H = h ++ [.lst (l.map St.d)] ∧ BuI l p q s t i) (fun _ _ _ _ => trivial)
    (ds := rangeL (a + 1) (m - (a + 1)).toNat) (n := 0) (s := [some (.ref 0), some (.int a), some (.int b), some (.int c), some (.int s), some (.int t), some (.ref h.length), some (.tup [.int 0, .int 1]), none, none, none, none, none]) (h := h ++ [.lst []])
    (fun i d hd σ H ⟨l, p, q, s, t, w3, w8, w9, w10, w11, w12, es, eh, I⟩ => by
      obtain ⟨j, hj, rfl⟩ := rangeL_mem (List.mem_of_getElem? hd)
      have hi : i < (m - (a + 1)).toNat := by
        have := (List.getElem?_eq_some_iff.mp hd).1
        rwa [rangeL_len''] at this
      obtain ⟨l', p', q', s', t', I', t3, t9, t10, t11, t12, e⟩ := built_turn hC hL hD k h0 I (by omega) (a + 1 + j) (by omega) (by omega) (some (.int a)) (some (.int b)) w3 w9 w10 w11 w12
      subst es eh
      exact ⟨_, _, _, rfl, .inl e, l', p', q', s', t', _, _, _, _, _, _, rfl, rfl, by rw [show 0 + i + 1 = 0 + i + 1 from rfl]; exact I'⟩)
    ⟨[], 0, 1, s, t, _, _, _, _, _, _, rfl, by simp, ⟨.nil s t, by simp, by omega, by omega, by omega, fun x hx => by cases hx⟩⟩
  subst es eh
  rw [rangeL_len''] at I
  have hlen := I.len
  have hs := I.s
  have ht := I.t
  have mb : m ≤ b := by rw [← hm]; split <;> omega
  refine ⟨l ++ [⟨1, 1, s2, t2⟩], ⟨⟨⟨l, p, q, s2, t2, I.acc, rfl⟩, fun x hx => ?_, by simp; omega⟩, by simp; omega⟩, [.lst (l.map St.d), .lst [St.d ⟨1, 1, s2, t2⟩]], ?_, rfl⟩
  · rcases List.mem_append.mp hx with hx | hx
    · exact I.all x hx
    · rw [List.mem_singleton.mp hx]
      exact ⟨⟨show (0 : Int) ≤ 1 by decide, show (0 : Int) < 1 by decide, show (1 : Int) ≤ 1 by decide⟩, Bd.of (show (1 : Int).natAbs < 2 ^ 20 by decide), Bd.of (show (1 : Int).natAbs < 2 ^ 20 by decide), Bd.of (by simp only; omega), Bd.of (by simp only; omega)⟩
  · have ln := len_frz (h := h ++ [.lst []]) ((Gr.app h _).at h0)
    rw [List.length_map] at ln
    have ad := add_lsts (h := h ++ [O.lst (l.map St.d), O.lst [.tup [.tup [.int 1, .int 1], .int s2, .int t2]]]) (n := h.length) (m := h.length + 1) (xs := l.map St.d) (ys := [.tup [.tup [.int 1, .int 1], .int s2, .int t2]]) (by simp) (by simp) (by simp [SZ]; omega)
    simp only [buBody, f__law_built] at e
    rw [call_eq hB rfl]
    show SR.fin (exB _ f__law_built.body [some (.ref 0), some (.int a), some (.int b), none, none, none, none, none, none, none, none, none, none] h) = _
    rw [he]
    simp [f__law_built, ln, hm]
    simp only [r, kFor_ok, e]
    simp [ad, St.d]
where
  rangeL_len'' : ∀ {lo : Int} {n : Nat}, (rangeL lo n).length = n
    | _, 0 => rfl
    | lo, n + 1 => by rw [rangeL, List.length_cons, rangeL_len'']
theorem built_ok {T : Tab} (hB : T.fn "_law_built" = some f__law_built) (hC : T.fn "_law_cell_at" = some f__law_cell_at) (hL : T.fn "_law_lowest" = some f__law_lowest_v2) (hD : T.fn "_law_divisor" = some f__law_divisor) (k : Nat) {h : Hs} {ns : List Int} (h0 : h[0]? = some (.frz (ns.map .int))) (S : Scr ns)
    (a b : Int) (a0 : 0 ≤ a) (a1 : a < 90) (b0 : 0 ≤ b) (b1 : b < 64) : ∃ L, Ln L ∧ ∃ G, call T (k + 3) "_law_built" [.ref 0, .int a, .int b] h = .ok (.ref (h.length + 2)) (h ++ (G ++ [.lst (L.map St.d)])) ∧ G.length = 2 := by
  obtain ⟨L, ⟨n, _⟩, G, e, l⟩ := built_ok2 hB hC hL hD k h0 S a b a0 a1 b0 b1
  exact ⟨L, n, G, e, l⟩
end Q

/-! heights on a line, its bends -/
namespace Q
/-- the stretch of a / b -/
def hix (L : List St) (a b : Int) : Nat := L.findIdx fun x => !decide (x.p * b < a * x.q)
/-- a fraction from 0 to 1 -/
def Fr (a b : Int) : Prop := (0 < b ∧ 0 ≤ a ∧ a ≤ b) ∧ Bd 300 a ∧ Bd 300 b
theorem hix_lt {L : List St} (n : Ln L) {a b : Int} (f : Fr a b) : hix L a b < L.length := by
  obtain ⟨l, p, q, s, t, ac, rfl⟩ := n.acc
  have := f.1
  refine List.findIdx_lt_length.mpr ⟨⟨1, 1, s, t⟩, by simp, ?_⟩
  simp; omega
theorem hix_at {L : List St} {a b : Int} (h : hix L a b < L.length) : ¬ (L[hix L a b].p * b < a * L[hix L a b].q) := by
  unfold hix at h
  have := List.findIdx_getElem (w := h)
  simpa [hix] using this
theorem hix_before {L : List St} {a b : Int} {j : Nat} (hj : j < hix L a b) (hl : j < L.length) : L[j].p * b < a * L[j].q := by
  have := List.not_of_lt_findIdx (xs := L) (p := fun x => !decide (x.p * b < a * x.q)) hj
  simpa using this
theorem getI_line {L : List St} (h : Hs) {j : Nat} (hj : j < L.length) : getI (.tup (L.map St.d)) (.int j) h = .ok (L[j].d) h := by
  rw [getI_tup, atI_nat (by omega) (by simpa using hj)]
  simp
theorem getI_d1 (x : St) (h : Hs) : getI x.d (.int 0) h = .ok (.tup [.int x.p, .int x.q]) h := by simp [St.d]
theorem getI_d2 (x : St) (h : Hs) : getI x.d (.int 1) h = .ok (.int x.s) h := by simp [St.d]
theorem getI_d3 (x : St) (h : Hs) : getI x.d (.int 2) h = .ok (.int x.t) h := by simp [St.d]
theorem less_ok0 {T : Tab} (hT : T.fn "fractions.less" = some f_fractions_less) (k : Nat) (h : Hs) (a b c d : Int) (B : Bd 3900 a ∧ Bd 3900 b ∧ Bd 3900 c ∧ Bd 3900 d) :
    call T (k+1) "fractions.less" [.tup [.int a, .int b], .tup [.int c, .int d]] h = .ok (.bl (decide (a * d < c * b))) h := by
  obtain ⟨B1, B2, B3, B4⟩ := B
  rw [call_eq hT rfl]
  have m1 := B1.mulB (by decide)
  have m2 := B2.mulB (by decide)
  have m3 := B3.mulB (by decide)
  have m4 := B4.mulB (by decide)
  simp [f_fractions_less, start, List.replicate_succ, run_mul, m1, m2, m3, m4]
theorem hix_loop {C : Cl} {e : Ex} {L : List St} {a b : Int} (hl : hix L a b < L.length) {h : Hs} {s0 s1 : Option D} (he : ∀ j, (hj : j < L.length) → evT C e [s0, s1, some (.int (j : Int))] h = .ok (decide (L[j].p * b < a * L[j].q)) h) :
    ∀ (m j : Nat), j + m = hix L a b → whE C e (.cons (.set 2 (.bin .add (.v 2) (.k (.int 1)))) .nil) [s0, s1, some (.int (j : Int))] h = .nx [s0, s1, some (.int (hix L a b : Nat))] h
  | 0, j, hm => by
    have ej : j = hix L a b := by omega
    subst ej
    refine whE_f ?_
    rw [he _ hl, decide_eq_false (hix_at hl)]
  | m + 1, j, hm => by
    have ih := hix_loop hl he m (j + 1) (by omega)
    rw [whE_t (h2 := h) (h3 := h) (s2 := [s0, s1, some (.int ((j + 1 : Nat) : Int))]) (by rw [he j (by omega), decide_eq_true (hix_before (by omega) (by omega))]) (by simp)]
    exact ih
theorem ruleat_ok {T : Tab} (hR : T.fn "lines.rule_at" = some f_lines_rule_at) (hF : T.fn "fractions.fraction" = some f_fractions_fraction) (hS : T.fn "fractions.shared" = some f_fractions_shared) (k : Nat) (h : Hs) {x : St} (B : StB x) {a b : Int} (nb : b ≠ 0) (ba : Bd 300 a) (bb : Bd 300 b) :
    call T (k + 3) "lines.rule_at" [x.d, .tup [.int a, .int b]] h = .ok (lowD (x.s * a + x.t * b) b) h := by
  obtain ⟨_, b1, b2, b3, b4⟩ := B
  have m1 := b3.mulB (by decide)
  have m2 := b4.mulB (by decide)
  have m3 := ba.mulB (by decide)
  have m4 := bb.mulB (by decide)
  have fo := fraction_ok hF hS k h (x.s * a + x.t * b) b nb (bb.mono (by decide))
  rw [call_eq hR rfl]
  simp [f_lines_rule_at, start, getI_d2, getI_d3, run_mul, m1, m2, m3, m4, fo]
structure KLn (T : Tab) : Prop where
  less : T.fn "fractions.less" = some f_fractions_less
  fraction : T.fn "fractions.fraction" = some f_fractions_fraction
  shared : T.fn "fractions.shared" = some f_fractions_shared
  rule : T.fn "lines.rule_at" = some f_lines_rule_at
  nought : T.con "lines.NOUGHT" = some (.tup [.int 0, .int 1])
  one : T.con "lines.ONE" = some (.tup [.int 1, .int 1])
theorem height_ok {T : Tab} (K : KLn T) (hH : T.fn "lines.height_at" = some f_lines_height_at) (k : Nat) (h : Hs) {L : List St} (n : Ln L) {a b : Int} (f : Fr a b) :
    call T (k + 4) "lines.height_at" [.tup (L.map St.d), .tup [.int a, .int b]] h = .ok (lowD ((L[hix L a b]'(hix_lt n f)).s * a + (L[hix L a b]'(hix_lt n f)).t * b) b) h := by
  obtain ⟨⟨f1, f2, f3⟩, ba, bb⟩ := f
  have f : Fr a b := ⟨⟨f1, f2, f3⟩, ba, bb⟩
  have hl := hix_lt n f
  have bz : Bd 3900 0 := Bd.of (by decide)
  have bo : Bd 3900 1 := Bd.of (by decide)
  have l1 := less_ok0 K.less (k + 2) h a b 0 1 ⟨ba.mono (by decide), bb.mono (by decide), bz, bo⟩
  have l2 := less_ok0 K.less (k + 2) h 1 1 a b ⟨bo, bo, ba.mono (by decide), bb.mono (by decide)⟩
  rw [decide_eq_false (by omega)] at l1 l2
  have lo := hix_loop (C := ⟨T, call T (k + 3)⟩) (e := .call "fractions.less" (.cons (.sub (.sub (.v 0) (.v 2)) (.k (.int 0))) (.cons (.v 1) .nil))) hl (h := h) (s0 := some (.tup (L.map St.d))) (s1 := some (.tup [.int a, .int b])) (fun j hj => by
    have B := n.all _ (List.getElem_mem hj)
    have ls := less_ok0 K.less (k + 2) h L[j].p L[j].q a b ⟨B.2.1.mono (by decide), B.2.2.1.mono (by decide), ba.mono (by decide), bb.mono (by decide)⟩
    have gl := getI_line h hj
    simp [gl, getI_d1, ls]) (hix L a b) 0 (by omega)
  have gl := getI_line h hl
  have ra := ruleat_ok K.rule K.fraction K.shared k h (n.all _ (List.getElem_mem hl)) (show b ≠ 0 by omega) ba bb
  simp only [Int.natCast_zero] at lo
  have lo' : whE ⟨T, call T (k + 3)⟩ (.call "fractions.less" (.cons (.sub (.sub (.v 0) (.v 2)) (.k (.int 0))) (.cons (.v 1) .nil))) (.cons (.set 2 (.bin .add (.v 2) (.k (.int 1)))) .nil) [some (.tup (L.map St.d)), some (.tup [.int a, .int b]), some (.int 0)] h = .nx [some (.tup (L.map St.d)), some (.tup [.int a, .int b]), some (.int (hix L a b : Nat))] h := lo
  rw [call_eq hH rfl]
  simp [f_lines_height_at, start, List.replicate_succ, K.nought, K.one, l1, l2, lo', gl, ra]
theorem height_no {T : Tab} (K : KLn T) (hH : T.fn "lines.height_at" = some f_lines_height_at) (k : Nat) (h : Hs) (L : D) {a b : Int} (hb : 0 < b) (ba : Bd 300 a) (bb : Bd 300 b) (f : a < 0 ∨ b < a) :
    call T (k + 4) "lines.height_at" [L, .tup [.int a, .int b]] h = .exc .NoPoint [] h := by
  have bz : Bd 3900 0 := Bd.of (by decide)
  have bo : Bd 3900 1 := Bd.of (by decide)
  have l1 := less_ok0 K.less (k + 2) h a b 0 1 ⟨ba.mono (by decide), bb.mono (by decide), bz, bo⟩
  have l2 := less_ok0 K.less (k + 2) h 1 1 a b ⟨bo, bo, ba.mono (by decide), bb.mono (by decide)⟩
  rw [call_eq hH rfl]
  by_cases g : a < 0
  · rw [decide_eq_true (by omega)] at l1
    simp [f_lines_height_at, start, List.replicate_succ, K.nought, K.one, l1, raise_plain (d := .NoPoint) rfl]
  · rw [decide_eq_false (by omega)] at l1
    rw [decide_eq_true (by omega)] at l2
    simp [f_lines_height_at, start, List.replicate_succ, K.nought, K.one, l1, l2, raise_plain (d := .NoPoint) rfl]
theorem lheight_ok {T : Tab} (hH : T.fn "_law_height" = some f__law_height) (k : Nat) (h : Hs) {L : List St} (n : Ln L) {a b : Int} (f : Fr a b) :
    call T (k + 1) "_law_height" [.tup (L.map St.d), .tup [.int a, .int b]] h = .ok (.tup [.int ((L[hix L a b]'(hix_lt n f)).s * a + (L[hix L a b]'(hix_lt n f)).t * b), .int b]) h := by
  have hl := hix_lt n f
  obtain ⟨⟨f1, f2, f3⟩, ba, bb⟩ := f
  have m3 := ba.mulB (by decide)
  have m4 := bb.mulB (by decide)
  have lo := hix_loop (C := ⟨T, call T k⟩) (e := .cmp .lt (.bin .mul (.sub (.sub (.sub (.v 0) (.v 2)) (.k (.int 0))) (.k (.int 0))) (.sub (.v 1) (.k (.int 1)))) (.bin .mul (.sub (.v 1) (.k (.int 0))) (.sub (.sub (.sub (.v 0) (.v 2)) (.k (.int 0))) (.k (.int 1))))) hl (h := h) (s0 := some (.tup (L.map St.d))) (s1 := some (.tup [.int a, .int b])) (fun j hj => by
    have B := n.all _ (List.getElem_mem hj)
    have m1 := B.2.1.mulB (by decide)
    have m2 := B.2.2.1.mulB (by decide)
    have gl := getI_line h hj
    simp [gl, getI_d1, run_mul, m1, m2, m3, m4]) (hix L a b) 0 (by omega)
  have gl := getI_line h hl
  have B := n.all _ (List.getElem_mem hl)
  have m1 := B.2.2.2.1.mulB (by decide)
  have m2 := B.2.2.2.2.mulB (by decide)
  have lo' : whE ⟨T, call T k⟩ (.cmp .lt (.bin .mul (.sub (.sub (.sub (.v 0) (.v 2)) (.k (.int 0))) (.k (.int 0))) (.sub (.v 1) (.k (.int 1)))) (.bin .mul (.sub (.v 1) (.k (.int 0))) (.sub (.sub (.sub (.v 0) (.v 2)) (.k (.int 0))) (.k (.int 1))))) (.cons (.set 2 (.bin .add (.v 2) (.k (.int 1)))) .nil) [some (.tup (L.map St.d)), some (.tup [.int a, .int b]), some (.int 0)] h = .nx [some (.tup (L.map St.d)), some (.tup [.int a, .int b]), some (.int (hix L a b : Nat))] h := lo
  rw [call_eq hH rfl]
  simp [f__law_height, start, List.replicate_succ, lo', gl, getI_d2, getI_d3, run_mul, m1, m2, m3, m4]
theorem due_ok {T : Tab} (hU : T.fn "_law_due" = some f__law_due) (hH : T.fn "_law_height" = some f__law_height) (hL : T.fn "_law_lowest" = some f__law_lowest_v2) (hD : T.fn "_law_divisor" = some f__law_divisor) (k : Nat) (h : Hs) {L : List St} (n : Ln L) {a b : Int} (f : Fr a b) :
    call T (k + 3) "_law_due" [.tup (L.map St.d), .tup [.int a, .int b]] h = .ok (lowD ((L[hix L a b]'(hix_lt n f)).s * a + (L[hix L a b]'(hix_lt n f)).t * b) b) h := by
  have lh := lheight_ok hH (k + 1) h n f
  have lo := lowest2_ok hL hD k h ((L[hix L a b]'(hix_lt n f)).s * a + (L[hix L a b]'(hix_lt n f)).t * b) b (by have := f.1.1; omega) (f.2.2.mono (by decide))
  generalize ((L[hix L a b]'(hix_lt n f)).s * a + (L[hix L a b]'(hix_lt n f)).t * b) = v at *
  rw [call_eq hU rfl]
  simp [f__law_due, start, List.replicate_succ, lh, setTR_tup, lo]
/-- at its own end a stretch is met -/
theorem hix_end {L : List St} (n : Ln L) {j : Nat} (hj : j < L.length) : hix L L[j].p L[j].q = j := by
  have pw := List.pairwise_iff_getElem.mp n.pw
  refine (List.findIdx_eq hj).mpr ⟨by simp, fun i hi => ?_⟩
  have := pw i j (by omega) hj hi
  simpa using this
theorem hix_nought {L : List St} (n : Ln L) : hix L 0 1 = 0 := by
  have f : Fr 0 1 := ⟨by omega, Bd.of (by decide), Bd.of (by decide)⟩
  have hl : 0 < L.length := by have := hix_lt n f; omega
  refine (List.findIdx_eq hl).mpr ⟨?_, fun i hi => by omega⟩
  have B := n.all _ (List.getElem_mem hl)
  have := B.1.1
  simp; omega
def bendL (L : List St) : List D := match L with
  | [] => []
  | x :: _ => .tup [.tup [.int 0, .int 1], lowD (x.s * 0 + x.t * 1) 1] :: L.map fun y => .tup [.tup [.int y.p, .int y.q], lowD (y.s * y.p + y.t * y.q) y.q]
theorem bends_ok {T : Tab} (K : KLn T) (hB : T.fn "lines.bends" = some f_lines_bends) (k : Nat) (h : Hs) {L : List St} (n : Ln L) : call T (k + 4) "lines.bends" [.tup (L.map St.d)] h = .ok (.ref h.length) (h ++ [.lst (bendL L)]) := by
  have f : Fr 0 1 := ⟨by omega, Bd.of (by decide), Bd.of (by decide)⟩
  have hl : 0 < L.length := by have := hix_lt n f; omega
  have hlen := n.len
  cases hL : L with
  | nil => rw [hL] at hl; simp at hl
  | cons x r =>
    rw [← hL]
    have Bx : StB x := n.all x (by rw [hL]; simp)
    have r0 := ruleat_ok K.rule K.fraction K.shared k h Bx (a := 0) (b := 1) (by decide) (Bd.of (by decide)) (Bd.of (by decide))
    have g0 : getI (.tup (L.map St.d)) (.int 0) h = .ok x.d h := by rw [hL]; simp
    let fd : St → D := fun y => .tup [.tup [.int y.p, .int y.q], lowD (y.s * y.p + y.t * y.q) y.q]
    let d0 : D := .tup [.tup [.int 0, .int 1], lowD (x.s * 0 + x.t * 1) 1]
    have loop : ∀ (rest done : List St), done ++ rest = L → ∀ v, ∃ v', forE ⟨T, call T (k + 3)⟩ (.one 2) (.cons (.ex (.bm .append (.v 1) (.cons (.tup (.cons (.sub (.v 2) (.k (.int 0))) (.cons (.call "lines.rule_at" (.cons (.v 2) (.cons (.sub (.v 2) (.k (.int 0))) .nil))) .nil))) .nil))) .nil) (fun _ => True) (rest.map St.d)
        [some (.tup (L.map St.d)), some (.ref h.length), v] (h ++ [.lst (d0 :: done.map fd)]) = .nx [some (.tup (L.map St.d)), some (.ref h.length), v'] (h ++ [.lst (d0 :: L.map fd)]) := by
      intro rest
      induction rest with
      | nil =>
        intro done hd v
        rw [List.append_nil] at hd
        subst hd
        exact ⟨v, forE_nil trivial⟩
      | cons y rest ih =>
        intro done hd v
        obtain ⟨v', e⟩ := ih (done ++ [y]) (by rw [← hd]; simp) (some y.d)
        refine ⟨v', ?_⟩
        have By : StB y := n.all y (by rw [← hd]; simp)
        have ra := ruleat_ok K.rule K.fraction K.shared k (h ++ [.lst (d0 :: done.map fd)]) By (a := y.p) (b := y.q) (by have := By.1; omega) (By.2.1.mono (by decide)) (By.2.2.1.mono (by decide))
        have bk : bmK .append (.ref h.length) (h ++ [.lst (d0 :: done.map fd)]) = true := bmK_lst (xs := d0 :: done.map fd) .append (by simp)
        have dl : done.length ≤ L.length := by rw [← hd]; simp
        have ap : ∀ d, Bm.run .append (.ref h.length) [d] (h ++ [.lst (d0 :: done.map fd)]) = .ok .non (h ++ [.lst (d0 :: done.map fd ++ [d])]) := fun d => by
          rw [append_lst (xs := d0 :: done.map fd) (by simp) (by simp [SZ]; omega)]
          simp
        simp only [List.map_cons]
        rw [forE_nx (s2 := [some (.tup (L.map St.d)), some (.ref h.length), some y.d]) (s3 := [some (.tup (L.map St.d)), some (.ref h.length), some y.d]) (h3 := h ++ [.lst (d0 :: (done ++ [y]).map fd)]) trivial rfl (by simp [getI_d1, ra, bk, ap, fd])]
        exact e
    obtain ⟨v', e⟩ := loop L [] (by simp) none
    have eb : bendL L = d0 :: L.map fd := by rw [hL]; rfl
    rw [eb]
    simp only [List.map_nil] at e
    rw [call_eq hB rfl]
    simp [f_lines_bends, start, List.replicate_succ, K.nought, g0, r0]
    simp [d0] at e
    simp [e, d0]
theorem bend_flat (L : List St) : flats (bendL L) = true ∧ ddeps (bendL L) ≤ 3 := by
  cases L with
  | nil => exact ⟨rfl, Nat.zero_le _⟩
  | cons x r =>
    have h1 : ∀ y : St, flat (.tup [.tup [.int y.p, .int y.q], lowD (y.s * y.p + y.t * y.q) y.q]) = true := fun y => by simp [flat, flats, lowD]
    have h2 : ∀ y : St, ddep (.tup [.tup [.int y.p, .int y.q], lowD (y.s * y.p + y.t * y.q) y.q]) ≤ 3 := fun y => by simp [ddep, ddeps, lowD]
    constructor
    · simp only [bendL, flats, Bool.and_eq_true]
      exact ⟨by simp [flat, flats, lowD], flats_map _ _ fun y _ => h1 y⟩
    · simp only [bendL, ddeps]
      have := ddeps_map (fun y : St => D.tup [.tup [.int y.p, .int y.q], lowD (y.s * y.p + y.t * y.q) y.q]) 3 (x :: r) fun y _ => h2 y
      have h3 : ddep (.tup [.tup [.int 0, .int 1], lowD (x.s * 0 + x.t * 1) 1]) ≤ 3 := by simp [ddep, ddeps, lowD]
      omega
def dropB : Nat → Bl → Bl
  | 0, b => b
  | n + 1, .cons _ r => dropB n r
  | _ + 1, .nil => .nil
def forBody : Sm → Bl
  | .for _ _ a => a
  | _ => .nil
def headB : Bl → Sm
  | .cons x _ => x
  | .nil => .pass
theorem eq_tup2' (a b c d : Int) (h : Hs) : Cop.run .ne (.tup [.int a, .int b]) (.tup [.int c, .int d]) h = .ok (.bl (!(decide (a = c) && decide (b = d)))) h := by
  have e : ∀ i j : Int, (i == j) = decide (i = j) := fun _ _ => rfl
  simp [Cop.run, eqv, rsv, rsF, rsFs, ddep, ddeps, opt, deq, deqs, e]
end Q

/-! lines made: chains of stretches, line_made on them -/
namespace Q
/-- a stretch that a line may hold -/
def Sbd (x : St) : Prop := (0 ≤ x.p ∧ 0 < x.q ∧ x.p ≤ x.q) ∧ Bd 300 x.p ∧ Bd 300 x.q ∧ Bd 1000 x.s ∧ Bd 1000 x.t
theorem StB.sbd {x : St} (B : StB x) : Sbd x := ⟨B.1, B.2.1.mono (by decide), B.2.2.1.mono (by decide), B.2.2.2.1.mono (by decide), B.2.2.2.2.mono (by decide)⟩
/-- what follows goes on at the end -/
def jt (x : St) : List St → Prop
  | [] => True
  | y :: _ => (y.s - x.s) * x.p + (y.t - x.t) * x.q = 0
/-- from p / q on: ends that rise up to 1, no jump -/
def Ch : Int → Int → List St → Prop
  | p, q, [] => p = 1 ∧ q = 1
  | p, q, x :: r => (p * x.q < x.p * q ∧ Sbd x ∧ Int.gcd x.p x.q = 1 ∧ jt x r) ∧ Ch x.p x.q r
def same (x y : St) : Bool := decide (x.s = y.s) && decide (x.t = y.t)
/-- neighbours of unlike rules -/
def Df : List St → Prop
  | [] => True
  | x :: r => (∀ y r', r = y :: r' → same x y = false) ∧ Df r
theorem Acc.ch {l : List St} {p q s t : Int} (a : Acc l p q s t) : (∀ x ∈ l, StB x) → ∀ r, Ch p q r → (∀ y r', r = y :: r' → y.s = s ∧ y.t = t) → Ch 0 1 (l ++ r) := by
  induction a with
  | nil => intro _ r c _; exact c
  | @snoc l p q s t p' q' s' t' a h1 h2 h3 h4 h5 h6 h0 ih =>
    intro hb r c hr
    simp only [List.append_assoc, List.singleton_append]
    refine ih (fun x hx => hb x (List.mem_append_left _ hx)) _ ⟨⟨h1, (hb _ (by simp)).sbd, h4, ?_⟩, c⟩ ?_
    · cases r with
      | nil => trivial
      | cons y r' =>
        obtain ⟨e1, e2⟩ := hr y r' rfl
        simp only [jt, e1, e2]
        exact h5
    · intro y r' e
      cases e
      exact ⟨rfl, rfl⟩
theorem Acc.df {l : List St} {p q s t : Int} (a : Acc l p q s t) : ∀ r, Df r → (∀ y r', r = y :: r' → y.s = s ∧ y.t = t) → Df (l ++ r) := by
  induction a with
  | nil => intro r c _; exact c
  | @snoc l p q s t p' q' s' t' a h1 h2 h3 h4 h5 h6 h0 ih =>
    intro r c hr
    simp only [List.append_assoc, List.singleton_append]
    refine ih _ ⟨?_, c⟩ ?_
    · intro y r' e
      obtain ⟨e1, e2⟩ := hr y r' e
      simp only [same, e1, Bool.and_eq_false_iff, decide_eq_false_iff_not]
      exact .inl (by simpa using Ne.symm h6)
    · intro y r' e
      cases e
      exact ⟨rfl, rfl⟩
theorem Ln.ch {L : List St} (n : Ln L) : Ch 0 1 L := by
  obtain ⟨l, p, q, s, t, a, rfl⟩ := n.acc
  have ps := a.ps
  refine a.ch (fun x hx => n.all x (List.mem_append_left _ hx)) _ ⟨⟨by simp only; omega, (n.all _ (by simp)).sbd, (by show Int.gcd 1 1 = 1; decide), trivial⟩, rfl, rfl⟩ ?_
  intro y r' e
  cases e
  exact ⟨rfl, rfl⟩
theorem Ln.df {L : List St} (n : Ln L) : Df L := by
  obtain ⟨l, p, q, s, t, a, rfl⟩ := n.acc
  refine a.df _ ⟨fun y r' e => (by cases e), trivial⟩ ?_
  intro y r' e
  cases e
  exact ⟨rfl, rfl⟩
theorem Ln.pos {L : List St} (n : Ln L) : 0 < L.length := by
  obtain ⟨l, p, q, s, t, a, rfl⟩ := n.acc
  simp
theorem Ch.mem : ∀ {l : List St} {p q : Int}, Ch p q l → ∀ x ∈ l, Sbd x ∧ Int.gcd x.p x.q = 1
  | [], _, _, _, x, hx => by cases hx
  | y :: r, _, _, ⟨⟨_, b, g, _⟩, c⟩, x, hx => by
    rcases List.mem_cons.mp hx with rfl | hx
    · exact ⟨b, g⟩
    · exact Ch.mem c x hx
theorem Ch.step : ∀ {l : List St} {p q : Int}, Ch p q l → ∀ (j : Nat) (h : j + 1 < l.length), (l[j + 1].s - l[j].s) * l[j].p + (l[j + 1].t - l[j].t) * l[j].q = 0
  | [], _, _, _, j, h => by simp at h
  | [x], _, _, _, j, h => by simp at h
  | x :: y :: r, _, _, ⟨⟨_, _, _, e⟩, c⟩, 0, h => e
  | x :: y :: r, _, _, ⟨_, c⟩, j + 1, h => by
    have := Ch.step c j (by simpa using h)
    simpa using this
theorem ruleat2_ok {T : Tab} (hR : T.fn "lines.rule_at" = some f_lines_rule_at) (hF : T.fn "fractions.fraction" = some f_fractions_fraction) (hS : T.fn "fractions.shared" = some f_fractions_shared) (k : Nat) (h : Hs) {x : St} (B : Sbd x) {a b : Int} (nb : b ≠ 0) (ba : Bd 300 a) (bb : Bd 300 b) :
    call T (k + 3) "lines.rule_at" [x.d, .tup [.int a, .int b]] h = .ok (lowD (x.s * a + x.t * b) b) h := by
  obtain ⟨_, b1, b2, b3, b4⟩ := B
  have m1 := b3.mulB (by decide)
  have m2 := b4.mulB (by decide)
  have m3 := ba.mulB (by decide)
  have m4 := bb.mulB (by decide)
  have fo := fraction_ok hF hS k h (x.s * a + x.t * b) b nb (bb.mono (by decide))
  rw [call_eq hR rfl]
  simp [f_lines_rule_at, start, getI_d2, getI_d3, run_mul, m1, m2, m3, m4, fo]
/-! ### ends looked at -/
theorem ends_loop {T : Tab} (K : KLn T) (k : Nat) (h : Hs) (ok : Hs → Prop) (hok : ok h) (v0 : Option D) : ∀ (r : List St) (i : Nat) (p q : Int) (v2 v3 : Option D), Ch p q r → Bd 300 p → Bd 300 q → ∃ v2' v3',
    forE ⟨T, call T (k + 1)⟩ (.many [2, 3]) (forBody (headB (dropB 1 f_lines_look_at_ends.body))) ok (enumL i (r.map St.d)) [v0, some (.tup [.int p, .int q]), v2, v3] h = .nx [v0, some (.tup [.int 1, .int 1]), v2', v3'] h
  | [], i, p, q, v2, v3, c, _, _ => by
    obtain ⟨rfl, rfl⟩ := c
    exact ⟨v2, v3, forE_nil hok⟩
  | x :: r, i, p, q, v2, v3, c, bp, bq => by
    obtain ⟨⟨c1, c2, c3, c4⟩, c⟩ := c
    obtain ⟨⟨c0, cq, cl⟩, b1, b2, _⟩ := c2
    obtain ⟨v2', v3', ih⟩ := ends_loop K k h ok hok v0 r (i + 1) x.p x.q (some (.int i)) (some x.d) c b1 b2
    refine ⟨v2', v3', ?_⟩
    have l1 := less_ok0 K.less k h p q x.p x.q ⟨bp.mono (by decide), bq.mono (by decide), b1.mono (by decide), b2.mono (by decide)⟩
    have l2 := less_ok0 K.less k h 1 1 x.p x.q ⟨Bd.of (by decide), Bd.of (by decide), b1.mono (by decide), b2.mono (by decide)⟩
    rw [decide_eq_true c1] at l1
    rw [decide_eq_false (by omega)] at l2
    simp only [List.map_cons, enumL]
    rw [forE_nx (s2 := [v0, some (.tup [.int p, .int q]), some (.int i), some x.d]) (s3 := [v0, some (.tup [.int x.p, .int x.q]), some (.int i), some x.d]) (h3 := h) hok rfl (by simp [f_lines_look_at_ends, dropB, headB, forBody, getI_d1, l1, l2, K.one])]
    exact ih
theorem look_ok {T : Tab} (K : KLn T) (hE : T.fn "lines.look_at_ends" = some f_lines_look_at_ends) (k : Nat) {h : Hs} {n : Nat} {H : List St} (g : h[n]? = some (.lst (H.map St.d))) (c : Ch 0 1 H) : call T (k + 2) "lines.look_at_ends" [.ref n] h = .ok .non h := by
  obtain ⟨v2, v3, e⟩ := ends_loop K k h (fun h => h[n]? = some (.lst (H.map St.d))) g (some (.ref n)) H 0 0 1 none none c (Bd.of (by decide)) (Bd.of (by decide))
  have w : enumOf h (.ref n) = some ⟨enumL 0 (H.map St.d), fun h => h[n]? = some (.lst (H.map St.d))⟩ := by simp [enumOf, walkSq_lst g]
  simp only [f_lines_look_at_ends, dropB, headB, forBody] at e
  rw [call_eq hE rfl]
  simp [f_lines_look_at_ends, start, List.replicate_succ, K.nought, w]
  simp [e, K.one, eq_tup2']
/-! ### like neighbours made one -/
def jn1 (acc : List St) (x : St) : List St := match acc.getLast? with
  | some w => if same w x then acc.dropLast ++ [x] else acc ++ [x]
  | none => [x]
theorem jn1_nil (x : St) : jn1 [] x = [x] := rfl
theorem jn1_t {a : List St} {w x : St} (e : same w x = true) : jn1 (a ++ [w]) x = a ++ [x] := by simp [jn1, e]
theorem jn1_f {a : List St} {w x : St} (e : same w x = false) : jn1 (a ++ [w]) x = a ++ [w] ++ [x] := by simp [jn1, e]
theorem set_mid (h G : Hs) (o o' : O) : (h ++ o :: G).set h.length o' = h ++ o' :: G := by simp
theorem get_mid (h G : Hs) (o : O) : (h ++ o :: G)[h.length]? = some o := by simp
theorem atI_last {α : Type} (xs : List α) (y : α) : atI (xs ++ [y]) (-1) = some y := by
  have e : ixN (xs ++ [y]).length (-1) = some xs.length := by
    simp only [ixN, List.length_append, List.length_singleton]
    rw [if_neg (by omega), if_pos (by omega)]
    congr 1
    omega
  unfold atI
  rw [e]
  simp
theorem setI_last {h : Hs} {n : Nat} {xs : List D} {y v : D} (q : h[n]? = some (.lst (xs ++ [y]))) : setI (.ref n) (.int (-1)) v h = some (h.set n (.lst (xs ++ [v]))) := by
  have e : ixN (xs ++ [y]).length (-1) = some xs.length := by
    simp only [ixN, List.length_append, List.length_singleton]
    rw [if_neg (by omega), if_pos (by omega)]
    congr 1
    omega
  simp only [setI, q, e, Option.map_some]
  simp
theorem slc_d (x : St) (h : Hs) : slice x.d (some 1) none h = .ok (.tup [.int x.s, .int x.t]) h := by simp [slice, St.d, sIx, cut]
theorem flat_d (x : St) : flat x.d = true := rfl
theorem ddep_d (x : St) : ddep x.d ≤ 2 := by simp [St.d, ddep, ddeps]
theorem flats_d (L : List St) : flats (L.map St.d) = true := flats_map _ _ fun y _ => flat_d y
theorem ddeps_d (L : List St) : ddeps (L.map St.d) ≤ 2 := ddeps_map _ _ _ fun y _ => ddep_d y
theorem ne_nil {h : Hs} {n m : Nat} {xs : List D} (hn : h[n]? = some (.lst xs)) (hm : h[m]? = some (.lst [])) (f : flats xs = true) : Cop.run .ne (.ref n) (.ref m) h = .ok (.bl (!xs.isEmpty)) h := by
  have e : eqv h (.ref n) (.ref m) = some xs.isEmpty := by
    simp only [eqv, rsv, rsF, rdN, hn, hm, rsFs_flat _ xs f, Option.map_some, rsFs]
    rw [if_pos (by show min (ddeps xs + 1) (0 + 1) ≤ 150; omega)]
    cases xs <;> rfl
  simp only [Cop.run, e, Option.map_some, opt_some]
theorem eq2 (a b c d : Int) (h : Hs) : Cop.run .eq (.tup [.int a, .int b]) (.tup [.int c, .int d]) h = .ok (.bl (decide (a = c) && decide (b = d))) h := by
  have e : ∀ i j : Int, (i == j) = decide (i = j) := fun _ _ => rfl
  simp [Cop.run, eqv, rsv, rsF, rsFs, ddep, ddeps, opt, deq, deqs, e]
theorem setIR_of {h h2 : Hs} {s : Ev} {x y v : D} (q : setI x y v h = some h2) : setIR x y v s h = .nx s h2 := by simp only [setIR, q]
def jnBody : Bl := forBody (headB (dropB 1 f_lines_joined.body))
theorem jn_turn {C : Cl} (h G : Hs) (acc : List St) (x : St) (hl : acc.length < 1000) (v0 : Option D) : ∃ G', exB C jnBody [v0, some (.ref h.length), some x.d] (h ++ .lst (acc.map St.d) :: G) = .nx [v0, some (.ref h.length), some x.d] (h ++ .lst ((jn1 acc x).map St.d) :: G') := by
  have bk : ∀ (a : List St) (G : Hs), bmK .append (.ref h.length) (h ++ .lst (a.map St.d) :: G) = true := fun a G => bmK_lst (xs := a.map St.d) .append (get_mid h G _)
  have ap : ∀ (a : List St) (G : Hs), a.length < 1001 → Bm.run .append (.ref h.length) [x.d] (h ++ .lst (a.map St.d) :: G) = .ok .non (h ++ .lst ((a ++ [x]).map St.d) :: G) := fun a G hl => by
    rw [append_lst (xs := a.map St.d) (get_mid h G _) (by simp [SZ]; omega), set_mid]
    simp
  have nn : ∀ (a : List St) (G : Hs), Cop.run .ne (.ref h.length) (.ref (h.length + (G.length + 1))) (h ++ .lst (a.map St.d) :: (G ++ [.lst []])) = .ok (.bl (!(a.map St.d).isEmpty)) (h ++ .lst (a.map St.d) :: (G ++ [.lst []])) := fun a G =>
    ne_nil (get_mid h _ _) (by rw [List.getElem?_append_right (by omega)]; simp) (flats_d a)
  rcases List.eq_nil_or_concat acc with e | ⟨a, w, e⟩
  · subst e
    have bk0 := bk [] (G ++ [.lst []])
    have ap0 := ap [] (G ++ [.lst []]) (by simp)
    have nn0 := nn [] G
    simp at bk0 ap0 nn0
    refine ⟨G ++ [.lst []], ?_⟩
    simp [jnBody, f_lines_joined, dropB, headB, forBody, bk0, ap0, nn0, jn1_nil]
  · rw [List.concat_eq_append] at e
    subst e
    have nn0 := nn (a ++ [w]) G
    have gl : getI (.ref h.length) (.int (-1)) (h ++ .lst ((a ++ [w]).map St.d) :: (G ++ [.lst []])) = .ok w.d (h ++ .lst ((a ++ [w]).map St.d) :: (G ++ [.lst []])) := by
      rw [getI_lst (xs := (a ++ [w]).map St.d) (get_mid h _ _), List.map_append, List.map_singleton, atI_last]
      rfl
    have sl : setI (.ref h.length) (.int (-1)) x.d (h ++ .lst ((a ++ [w]).map St.d) :: (G ++ [.lst []])) = some (h ++ .lst ((a ++ [x]).map St.d) :: (G ++ [.lst []])) := by
      rw [setI_last (xs := a.map St.d) (y := w.d) (by rw [get_mid]; simp), set_mid]
      simp
    have ap0 := ap (a ++ [w]) (G ++ [.lst []]) (by omega)
    have bk0 := bk (a ++ [w]) (G ++ [.lst []])
    simp only [List.map_append, List.map_cons, List.map_nil] at nn0 gl sl ap0 bk0
    have en : (a.map St.d ++ [w.d]).isEmpty = false := by simp
    rw [en] at nn0
    refine ⟨G ++ [.lst []], ?_⟩
    by_cases e : same w x = true
    · rw [jn1_t e]
      have e' := e
      simp only [same, Bool.and_eq_true, decide_eq_true_eq] at e'
      simp [jnBody, f_lines_joined, dropB, headB, forBody, nn0, gl, slc_d, eq2, e', setIR_of sl]
    · have e : same w x = false := by simpa using e
      rw [jn1_f e]
      have e' : ¬(w.s = x.s ∧ w.t = x.t) := by
        simp only [same, Bool.and_eq_false_iff, decide_eq_false_iff_not] at e
        omega
      have e2 : (decide (w.s = x.s) && decide (w.t = x.t)) = false := e
      simp [jnBody, f_lines_joined, dropB, headB, forBody, nn0, gl, slc_d, eq2, e2, bk0, ap0]
theorem jn1_len (acc : List St) (x : St) : (jn1 acc x).length ≤ acc.length + 1 := by
  rcases List.eq_nil_or_concat acc with e | ⟨a, w, e⟩
  · subst e; simp [jn1_nil]
  · rw [List.concat_eq_append] at e
    subst e
    by_cases e : same w x = true
    · rw [jn1_t e]; simp
    · have e : same w x = false := by simpa using e
      rw [jn1_f e]; simp
theorem jn_loop {C : Cl} (h : Hs) (ok : Hs → Prop) (hok : ∀ G, ok (h ++ G)) (v0 : Option D) : ∀ (r acc : List St) (G : Hs) (v2 : Option D), acc.length + r.length < 1000 → ∃ G' v2', forE C (.one 2) jnBody ok (r.map St.d) [v0, some (.ref h.length), v2] (h ++ .lst (acc.map St.d) :: G) =
      .nx [v0, some (.ref h.length), v2'] (h ++ .lst ((r.foldl jn1 acc).map St.d) :: G')
  | [], acc, G, v2, _ => ⟨G, v2, forE_nil (hok _)⟩
  | x :: r, acc, G, v2, hl => by
    simp only [List.length_cons] at hl
    obtain ⟨G1, e⟩ := jn_turn (C := C) h G acc x (by omega) v0
    obtain ⟨G', v2', ih⟩ := jn_loop (C := C) h ok hok v0 r (jn1 acc x) G1 (some x.d) (by have := jn1_len acc x; omega)
    refine ⟨G', v2', ?_⟩
    simp only [List.map_cons, List.foldl_cons]
    rw [forE_nx (hok _) rfl e]
    exact ih
theorem joined_ok {T : Tab} (hJ : T.fn "lines.joined" = some f_lines_joined) (k : Nat) {h : Hs} {n : Nat} {H : List St} (g : h[n]? = some (.lst (H.map St.d))) (hl : H.length < 1000) : ∃ G, call T (k + 1) "lines.joined" [.ref n] h = .ok (.tup ((H.foldl jn1 []).map St.d)) (h ++ G) := by
  obtain ⟨G, v2, e⟩ := jn_loop (C := ⟨T, call T k⟩) h (fun h => h[n]? = some (.lst (H.map St.d))) (fun G => (Gr.app h G).at g) (some (.ref n)) H [] [] none (by simpa using hl)
  have w : walkSq (h ++ [.lst []]) (.ref n) = some ⟨H.map St.d, fun h => h[n]? = some (.lst (H.map St.d))⟩ := walkSq_lst ((Gr.app h _).at g)
  have tl := tuple_lst (get_mid h G (.lst ((H.foldl jn1 []).map St.d)))
  refine ⟨.lst ((H.foldl jn1 []).map St.d) :: G, ?_⟩
  simp only [jnBody, f_lines_joined, dropB, headB, forBody, List.map_nil] at e
  rw [call_eq hJ rfl]
  simp [f_lines_joined, start, List.replicate_succ, w]
  simp [e, tl]
theorem joined_tup {T : Tab} (hJ : T.fn "lines.joined" = some f_lines_joined) (k : Nat) (h : Hs) (H : List St) (hl : H.length < 1000) : ∃ G, call T (k + 1) "lines.joined" [.tup (H.map St.d)] h = .ok (.tup ((H.foldl jn1 []).map St.d)) (h ++ G) := by
  obtain ⟨G, v2, e⟩ := jn_loop (C := ⟨T, call T k⟩) h (fun h => True) (fun G => trivial) (some (.tup (H.map St.d))) H [] [] none (by simpa using hl)
  have tl := tuple_lst (get_mid h G (.lst ((H.foldl jn1 []).map St.d)))
  refine ⟨.lst ((H.foldl jn1 []).map St.d) :: G, ?_⟩
  simp only [jnBody, f_lines_joined, dropB, headB, forBody, List.map_nil] at e
  rw [call_eq hJ rfl]
  simp [f_lines_joined, start, List.replicate_succ]
  simp [e, tl]
/-! ### the whole of line_made -/
structure KMade (T : Tab) : Prop where
  ln : KLn T
  look : T.fn "lines.look_at_ends" = some f_lines_look_at_ends
  joined : T.fn "lines.joined" = some f_lines_joined
  made : T.fn "lines.line_made" = some f_lines_line_made
  most : T.con "lines.MOST" = some (.int 60)
theorem getI_stl {h : Hs} {n : Nat} {H : List St} (g : h[n]? = some (.lst (H.map St.d))) {j : Nat} (hj : j < H.length) : getI (.ref n) (.int j) h = .ok (H[j].d) h := by
  rw [getI_lst g, atI_nat (by omega) (by simpa using hj)]
  simp
def lmBody : Bl := forBody (headB (dropB 2 f_lines_line_made.body))
theorem lm_turn {T : Tab} (K : KMade T) (k : Nat) {h : Hs} {n : Nat} {H : List St} (g : h[n]? = some (.lst (H.map St.d))) (c : Ch 0 1 H) (j : Nat) (hj : j + 1 < H.length) (v2 : Option D) :
    exB ⟨T, call T (k + 3)⟩ lmBody [some (.ref n), some (.int ((j + 1 : Nat) : Int)), v2] h = .nx [some (.ref n), some (.int ((j + 1 : Nat) : Int)), some (.tup [.int H[j].p, .int H[j].q])] h := by
  have g1 := getI_stl g (j := j) (by omega)
  have g2 := getI_stl g hj
  obtain ⟨B1, _⟩ := c.mem _ (List.getElem_mem (show j < H.length by omega))
  obtain ⟨B2, _⟩ := c.mem _ (List.getElem_mem hj)
  have nb : H[j].q ≠ 0 := by have := B1.1; omega
  have r1 := ruleat2_ok K.ln.rule K.ln.fraction K.ln.shared k h B1 nb B1.2.1 B1.2.2.1
  have r2 := ruleat2_ok K.ln.rule K.ln.fraction K.ln.shared k h B2 nb B1.2.1 B1.2.2.1
  have st := c.step j hj
  have e : H[j + 1].s * H[j].p + H[j + 1].t * H[j].q = H[j].s * H[j].p + H[j].t * H[j].q := by
    rw [Int.sub_mul, Int.sub_mul] at st
    omega
  rw [e] at r2
  have ej : ((j + 1 : Nat) : Int) - 1 = (j : Int) := by omega
  have g1' : getI (.ref n) (.int (((j + 1 : Nat) : Int) - 1)) h = .ok (H[j].d) h := by rw [ej]; exact g1
  generalize ((j + 1 : Nat) : Int) = jj at *
  generalize H[j].s * H[j].p + H[j].t * H[j].q = v at *
  generalize H[j] = x at *
  generalize H[j + 1] = y at *
  simp [lmBody, f_lines_line_made, dropB, headB, forBody, g1', g2, getI_d1, r1, r2, lowD, eq_tup2']
end Q

/-! line_made -/
namespace Q
theorem made_ok {T : Tab} (K : KMade T) (k : Nat) {h : Hs} {n : Nat} {H : List St} (g : h[n]? = some (.lst (H.map St.d))) (c : Ch 0 1 H) (h0 : 0 < H.length) (h1 : H.length ≤ 60) : ∃ G, call T (k + 4) "lines.line_made" [.ref n] h = .ok (.tup ((H.foldl jn1 []).map St.d)) (h ++ G) := by
  obtain ⟨G, ej⟩ := joined_ok K.joined (k + 2) g (by omega)
  have el := look_ok K.ln K.look (k + 1) g c
  have ll := len_lst g
  rw [List.length_map] at ll
  have r := rng2_ok (h := h) (i := 1) (j := (H.length : Int)) ⟨by omega, by omega⟩ ⟨by omega, by omega⟩
  obtain ⟨s', h', e, v1, v2, rfl, rfl⟩ := forE_inv (C := ⟨T, call T (k + 3)⟩) (tg := .one 1) (a := lmBody) (ok := fun _ => True) (fun s z => ∃ v1 v2, s = [some (.ref n), v1, v2] ∧ z = h) (fun _ _ _ => trivial)
    (ds := rangeL 1 ((H.length : Int) - 1).toNat) (s := [some (.ref n), none, none]) (h := h) (fun d hd σ z ⟨v1, v2, e1, e2⟩ => by
      obtain ⟨j, hj, rfl⟩ := rangeL_mem hd
      subst e1 e2
      have hj' : j + 1 < H.length := by omega
      have t := lm_turn K k g c j hj' v2
      have ej : (1 + (j : Int)) = ((j + 1 : Nat) : Int) := by omega
      rw [ej]
      exact ⟨_, _, _, rfl, .inl t, _, _, rfl, rfl⟩) ⟨_, _, rfl, rfl⟩
  have c1 : ¬ ((H.length : Int) < 1) := by omega
  have c2 : ¬ ((60 : Int) < H.length) := by omega
  refine ⟨G, ?_⟩
  simp only [lmBody, f_lines_line_made, dropB, headB, forBody] at e
  rw [call_eq K.made rfl]
  simp [f_lines_line_made, start, List.replicate_succ, ll, K.most, c1, c2, el]
  simp only [r, kFor_ok, e]
  simp [ej]
end Q

/-! whether something is a line: it is -/
namespace Q
theorem whole_ok {T : Tab} (hW : T.fn "_law_whole" = some f__law_whole) (k : Nat) (h : Hs) (i : Int) : call T (k + 1) "_law_whole" [.int i] h = .ok (.bl true) h := by
  rw [call_eq hW rfl]
  simp [f__law_whole, start, isTys, isTy]
structure KIs (T : Tab) : Prop where
  whole : T.fn "_law_whole" = some f__law_whole
  divisor : T.fn "_law_divisor" = some f__law_divisor
  stretch : T.fn "_law_is_stretch" = some f__law_is_stretch
  line : T.fn "_law_is_line" = some f__law_is_line
theorem stretch_ok {T : Tab} (K : KIs T) (k : Nat) (h : Hs) (x : St) (B : 0 < x.q) (g : Int.gcd x.p x.q = 1) : call T (k + 2) "_law_is_stretch" [x.d] h = .ok (.bl true) h := by
  have w := fun i => whole_ok K.whole k h i
  have d := divisor_ok K.divisor k h x.p x.q
  rw [g] at d
  rw [call_eq K.stretch rfl]
  simp [f__law_is_stretch, start, List.replicate_succ, isTys, isTy, St.d, w, d, B]
theorem isl_loop {C : Cl} (h : Hs) (L : List St) (hl : L.length ≤ 1000) : ∀ (r d : List St) (p q : Int) (v2 v3 v4 v5 v6 : Option D), d ++ r = L → Ch p q r → Df r → Bd 300 p → Bd 300 q →
    (d = [] ∨ ∃ d' w, d = d' ++ [w] ∧ w.p = p ∧ w.q = q ∧ Sbd w ∧ (∀ y r', r = y :: r' → same w y = false) ∧ jt w r) → ∃ v2' v3' v4' v5' v6',
    forE C (.many [2, 3]) (forBody (headB (dropB 2 f__law_is_line.body))) (fun _ => True) (enumL d.length (r.map St.d)) [some (.tup (L.map St.d)), some (.tup [.int p, .int q]), v2, v3, v4, v5, v6] h =
      .nx [some (.tup (L.map St.d)), some (.tup [.int 1, .int 1]), v2', v3', v4', v5', v6'] h
  | [], d, p, q, v2, v3, v4, v5, v6, _, c, _, _, _, _ => by
    obtain ⟨rfl, rfl⟩ := c
    exact ⟨v2, v3, v4, v5, v6, forE_nil trivial⟩
  | y :: r, d, p, q, v2, v3, v4, v5, v6, e, c, f, bp, bq, o => by
    obtain ⟨⟨c1, c2, c3, c4⟩, c⟩ := c
    obtain ⟨f1, f⟩ := f
    have B := c2
    obtain ⟨⟨c0, cq, cl⟩, b1, b2, b3, b4⟩ := c2
    have m1 := b1.mulB (by decide)
    have m2 := b2.mulB (by decide)
    have m3 := bp.mulB (by decide)
    have m4 := bq.mulB (by decide)
    have le : ¬ (y.p * q ≤ p * y.q) := by omega
    have go := fun v2 v3 v4 v5 v6 => isl_loop (C := C) h L hl r (d ++ [y]) y.p y.q v2 v3 v4 v5 v6 (by rw [← e]; simp) c f b1 b2 (.inr ⟨d, y, rfl, rfl, rfl, B, f1, c4⟩)
    simp only [List.map_cons, enumL]
    rw [List.length_append, List.length_singleton] at go
    rcases o with rfl | ⟨d', w, rfl, rfl, rfl, Bw, sm, jw⟩
    · obtain ⟨x2, x3, x4, x5, x6, g⟩ := go (some (.int 0)) (some y.d) (some (.tup [.int y.p, .int y.q])) v5 v6
      refine ⟨x2, x3, x4, x5, x6, ?_⟩
      rw [forE_nx (s2 := [some (.tup (L.map St.d)), some (.tup [.int p, .int q]), some (.int 0), some y.d, v4, v5, v6]) (s3 := [some (.tup (L.map St.d)), some (.tup [.int y.p, .int y.q]), some (.int 0), some y.d, some (.tup [.int y.p, .int y.q]), v5, v6]) (h3 := h) trivial rfl
        (by simp [f__law_is_line, dropB, headB, forBody, getI_d1, run_mul, m1, m2, m3, m4, le])]
      exact g
    · have sm := sm y r rfl
      simp only [jt] at jw
      simp only [List.length_append, List.length_singleton] at go ⊢
      obtain ⟨x2, x3, x4, x5, x6, g⟩ := go (some (.int (d'.length + 1 : Nat))) (some y.d) (some (.tup [.int y.p, .int y.q])) (some w.d) (some (.int 0))
      refine ⟨x2, x3, x4, x5, x6, ?_⟩
      have hd : d'.length < L.length := by rw [← e]; simp
      have gl := getI_line h hd
      have ew : L[d'.length] = w := by simp [← e]
      rw [ew] at gl
      have m5 : mulB (y.s - w.s) := (b3.sub Bw.2.2.2.1).mulB (by decide)
      have m6 : mulB (y.t - w.t) := (b4.sub Bw.2.2.2.2).mulB (by decide)
      have e1 : (((d'.length + 1 : Nat) : Int) - 1) = (d'.length : Int) := by omega
      have gl' : getI (.tup (L.map St.d)) (.int (((d'.length + 1 : Nat) : Int) - 1)) h = .ok w.d h := by rw [e1]; exact gl
      have k0 : (0 : Int) < ((d'.length + 1 : Nat) : Int) := by omega
      have sm2 : (decide (y.s = w.s) && decide (y.t = w.t)) = false := by
        rw [← sm]
        unfold same
        simp [eq_comm]
      have k1 : ((d'.length + 1 : Nat) : Int).toNat = d'.length + 1 := by omega
      generalize ((d'.length + 1 : Nat) : Int) = kk at *
      rw [forE_nx (s2 := [some (.tup (L.map St.d)), some (.tup [.int w.p, .int w.q]), some (.int kk), some y.d, v4, v5, v6]) (s3 := [some (.tup (L.map St.d)), some (.tup [.int y.p, .int y.q]), some (.int kk), some y.d, some (.tup [.int y.p, .int y.q]), some w.d, some (.int 0)]) (h3 := h) trivial rfl
        (by simp [f__law_is_line, dropB, headB, forBody, getI_d1, getI_d2, getI_d3, run_mul, m1, m2, m3, m4, m5, m6, le, k0, gl', jw, slc_d, eq2, sm2])]
      exact g
theorem isline_ok {T : Tab} (K : KIs T) (k : Nat) (h : Hs) {L : List St} (c : Ch 0 1 L) (f : Df L) (h0 : 0 < L.length) (hl : L.length ≤ 1000) : ∃ o, call T (k + 3) "_law_is_line" [.tup (L.map St.d)] h = .ok (.bl true) (h ++ [o]) := by
  have cm := kComp_mapL (C := ⟨T, call T (k + 2)⟩) (s := [some (.tup (L.map St.d)), none, none, none, none, none, none]) (h := h) (e := .call "_law_is_stretch" (.cons (.v 3) .nil)) (tg := .one 3) (own := [3]) (w := ⟨L.map St.d, fun _ => True⟩) L St.d (fun _ => .bl true) rfl trivial
    (fun y hy => ⟨_, rfl, by
      obtain ⟨B, g⟩ := c.mem y hy
      have so := stretch_ok K k h y B.1.2.1 g
      simp [wipe, so]⟩) (by simp only [SZ]; omega)
  have al := all_rep (h := h ++ [.lst (L.map fun _ => D.bl true)]) (n := h.length) L (by simp)
  obtain ⟨x2, x3, x4, x5, x6, e⟩ := isl_loop (C := ⟨T, call T (k + 2)⟩) (h ++ [.lst (L.map fun _ => D.bl true)]) L hl L [] 0 1 none none none none none rfl c f (Bd.of (by decide)) (Bd.of (by decide)) (.inl rfl)
  have n0 : ¬ L = [] := fun e => by rw [e] at h0; cases h0
  refine ⟨.lst (L.map fun _ => D.bl true), ?_⟩
  simp only [f__law_is_line, dropB, headB, forBody, List.length_nil] at e
  rw [call_eq K.line rfl]
  simp [f__law_is_line, start, List.replicate_succ, isTys, isTy, n0, cm, al, enumOf]
  simp [e, eq2]
end Q

/-! lines in plain numbers: heights, like neighbours made one, a line is told by its heights -/
namespace Q
/-! ### fractions in order -/
theorem lt_trans2 {a b c d e f : Int} (hb : 0 < b) (hd : 0 < d) (hf : 0 < f) (h1 : a * d < c * b) (h2 : c * f ≤ e * d) : a * f < e * b := by
  have k1 : a * d * f < c * b * f := Int.mul_lt_mul_of_pos_right h1 hf
  have k2 : c * f * b ≤ e * d * b := Int.mul_le_mul_of_nonneg_right h2 (by omega)
  have e1 : c * b * f = c * f * b := Int.mul_right_comm c b f
  have e2 : a * d * f = a * f * d := Int.mul_right_comm a d f
  have e3 : e * d * b = e * b * d := Int.mul_right_comm e d b
  have k3 : a * f * d < e * b * d := by omega
  exact Int.lt_of_mul_lt_mul_right k3 (by omega)
theorem le_trans3 {a b c d e f : Int} (hb : 0 < b) (hd : 0 < d) (hf : 0 < f) (h1 : a * d ≤ c * b) (h2 : c * f ≤ e * d) : a * f ≤ e * b := by
  have k1 : a * d * f ≤ c * b * f := Int.mul_le_mul_of_nonneg_right h1 (by omega)
  have k2 : c * f * b ≤ e * d * b := Int.mul_le_mul_of_nonneg_right h2 (by omega)
  have e1 : c * b * f = c * f * b := Int.mul_right_comm c b f
  have e2 : a * d * f = a * f * d := Int.mul_right_comm a d f
  have e3 : e * d * b = e * b * d := Int.mul_right_comm e d b
  have k3 : a * f * d ≤ e * b * d := by omega
  exact Int.le_of_mul_le_mul_right k3 hd
theorem dvd_cop {a b d : Int} (g : Int.gcd a b = 1) (h : b ∣ a * d) : b ∣ d := by
  have h2 : b.natAbs ∣ a.natAbs * d.natAbs := by rw [← Int.natAbs_mul]; exact Int.natAbs_dvd_natAbs.mpr h
  have g2 : Nat.Coprime b.natAbs a.natAbs := by
    show Nat.gcd b.natAbs a.natAbs = 1
    rw [Nat.gcd_comm]
    exact g
  exact Int.natAbs_dvd_natAbs.mp (g2.dvd_of_dvd_mul_left h2)
/-- lowest terms tell a fraction -/
theorem low_same {a b c d : Int} (hb : 0 < b) (hd : 0 < d) (g1 : Int.gcd a b = 1) (g2 : Int.gcd c d = 1) (e : a * d = c * b) : a = c ∧ b = d := by
  have d1 : b ∣ d := by
    have : b ∣ a * d := ⟨c, by rw [e, Int.mul_comm]⟩
    exact dvd_cop g1 this
  have d2 : d ∣ b := by
    have : d ∣ c * b := ⟨a, by rw [← e, Int.mul_comm]⟩
    exact dvd_cop g2 this
  have l1 := Int.le_of_dvd hd d1
  have l2 := Int.le_of_dvd hb d2
  have eb : b = d := by omega
  subst eb
  exact ⟨Int.eq_of_mul_eq_mul_right (by omega) e, rfl⟩
/-! ### chains without bounds -/
/-- from p / q on: ends that rise up to 1, no jump -/
def Cn' : Int → Int → List St → Prop
  | p, q, [] => p = 1 ∧ q = 1
  | p, q, x :: r => (p * x.q < x.p * q ∧ (0 ≤ x.p ∧ 0 < x.q ∧ x.p ≤ x.q) ∧ Int.gcd x.p x.q = 1 ∧ jt x r) ∧ Cn' x.p x.q r
def Bx (n m : Nat) (x : St) : Prop := Bd n x.p ∧ Bd n x.q ∧ Bd m x.s ∧ Bd m x.t
theorem Ch.cn : ∀ {r : List St} {p q : Int}, Ch p q r → Cn' p q r ∧ ∀ x ∈ r, Bx 300 1000 x
  | [], _, _, c => ⟨c, fun x hx => by cases hx⟩
  | x :: r, p, q, ⟨⟨h1, h2, h3, h4⟩, c⟩ => by
    obtain ⟨i1, i2⟩ := Ch.cn c
    refine ⟨⟨⟨h1, h2.1, h3, h4⟩, i1⟩, fun y hy => ?_⟩
    rcases List.mem_cons.mp hy with rfl | hy
    · exact h2.2
    · exact i2 y hy
theorem Cn'.ch : ∀ {r : List St} {p q : Int}, Cn' p q r → (∀ x ∈ r, Bx 300 1000 x) → Ch p q r
  | [], _, _, c, _ => c
  | x :: r, p, q, ⟨⟨h1, h2, h3, h4⟩, c⟩, b => ⟨⟨h1, ⟨h2, b x List.mem_cons_self⟩, h3, h4⟩, Cn'.ch c fun y hy => b y (List.mem_cons_of_mem _ hy)⟩
/-! ### heights -/
def vl (x : St) (a b : Int) : Int := x.s * a + x.t * b
def hv : List St → Int → Int → Int
  | [], _, _ => 0
  | x :: r, a, b => if x.p * b < a * x.q then hv r a b else vl x a b
theorem hv_lo {x : St} {r : List St} {a b : Int} (h : a * x.q ≤ x.p * b) : hv (x :: r) a b = vl x a b := if_neg (by omega)
theorem hv_hi {x : St} {r : List St} {a b : Int} (h : x.p * b < a * x.q) : hv (x :: r) a b = hv r a b := if_pos h
/-! ### like neighbours made one -/
def jnr : List St → List St
  | [] => []
  | [x] => [x]
  | x :: y :: r => if same x y then jnr (y :: r) else x :: jnr (y :: r)
theorem jn_jnr : ∀ (r a : List St) (w : St), r.foldl jn1 (a ++ [w]) = a ++ jnr (w :: r)
  | [], a, w => by simp [jnr]
  | x :: r, a, w => by
    rw [List.foldl_cons]
    by_cases e : same w x = true
    · rw [jn1_t e, jn_jnr r a x]
      simp [jnr, e]
    · have e : same w x = false := by simpa using e
      rw [jn1_f e, jn_jnr r (a ++ [w]) x]
      simp [jnr, e]
theorem jn_eq (r : List St) : r.foldl jn1 [] = jnr r := by
  cases r with
  | nil => rfl
  | cons x r => exact jn_jnr r [] x
/-- the rule it begins with -/
def hdr : List St → Option (Int × Int)
  | [] => none
  | x :: _ => some (x.s, x.t)
theorem hdr_jnr : ∀ r : List St, hdr (jnr r) = hdr r
  | [] => rfl
  | [x] => rfl
  | x :: y :: r => by
    rw [jnr]
    split
    · rename_i e
      rw [hdr_jnr (y :: r)]
      simp only [same, Bool.and_eq_true, decide_eq_true_eq] at e
      simp [hdr, e]
    · rfl
theorem jt_hdr {x : St} {r r' : List St} (e : hdr r = hdr r') (h : jt x r) : jt x r' := by
  cases r with
  | nil => cases r' with
    | nil => trivial
    | cons y r' => cases e
  | cons z r => cases r' with
    | nil => trivial
    | cons y r' =>
      simp only [hdr, Option.some.injEq, Prod.mk.injEq] at e
      simp only [jt] at h ⊢
      rw [← e.1, ← e.2]
      exact h
/-- begins with another rule -/
def nd (x : St) (r : List St) : Prop := ∀ y r', r = y :: r' → same x y = false
theorem nd_hdr {x : St} {r r' : List St} (e : hdr r = hdr r') (h : nd x r) : nd x r' := by
  intro y r2 er
  subst er
  cases r with
  | nil => cases e
  | cons z r =>
    simp only [hdr, Option.some.injEq, Prod.mk.injEq] at e
    have := h z r rfl
    unfold same at this ⊢
    rw [← e.1, ← e.2]
    exact this
theorem jt_same {w x y : St} {r : List St} (e : same x y = true) (h : jt w (x :: r)) : jt w (y :: r) := by
  simp only [same, Bool.and_eq_true, decide_eq_true_eq] at e
  simp only [jt] at h ⊢
  rw [← e.1, ← e.2]
  exact h
theorem jnr_cn : ∀ (r : List St) (p q : Int), 0 < q → Cn' p q r → Cn' p q (jnr r)
  | [], _, _, _, c => c
  | [x], _, _, _, c => c
  | x :: y :: r, p, q, q0, ⟨⟨h1, h2, h3, h4⟩, c⟩ => by
    rw [jnr]
    have c' := c
    obtain ⟨⟨k1, k2, k3, k4⟩, c2⟩ := c
    split
    · exact jnr_cn (y :: r) p q q0 ⟨⟨lt_trans q0 h2.2.1 k2.2.1 (Int.le_of_lt h1) k1, k2, k3, k4⟩, c2⟩
    · exact ⟨⟨h1, h2, h3, jt_hdr (hdr_jnr (y :: r)).symm h4⟩, jnr_cn (y :: r) x.p x.q h2.2.1 c'⟩
theorem jnr_df : ∀ r : List St, Df (jnr r)
  | [] => trivial
  | [x] => ⟨fun y r' e => by (cases e), trivial⟩
  | x :: y :: r => by
    rw [jnr]
    split
    · exact jnr_df (y :: r)
    · rename_i e
      refine ⟨?_, jnr_df (y :: r)⟩
      refine nd_hdr (r := y :: r) (hdr_jnr (y :: r)).symm ?_
      intro z r' e'
      cases e'
      simpa using e
theorem jnr_mem : ∀ (r : List St), ∀ x ∈ jnr r, x ∈ r
  | [], _, h => h
  | [x], _, h => h
  | x :: y :: r, z, h => by
    rw [jnr] at h
    split at h
    · exact List.mem_cons_of_mem _ (jnr_mem (y :: r) z h)
    · rcases List.mem_cons.mp h with rfl | h
      · exact List.mem_cons_self
      · exact List.mem_cons_of_mem _ (jnr_mem (y :: r) z h)
theorem jnr_len : ∀ (r : List St), (jnr r).length ≤ r.length
  | [] => Nat.le_refl _
  | [x] => Nat.le_refl _
  | x :: y :: r => by
    have := jnr_len (y :: r)
    rw [jnr]
    split <;> simp only [List.length_cons] at this ⊢ <;> omega
theorem jnr_pos : ∀ (r : List St), 0 < r.length → 0 < (jnr r).length
  | [], h => h
  | [x], h => h
  | x :: y :: r, h => by
    rw [jnr]
    split
    · exact jnr_pos (y :: r) (by simp)
    · simp
theorem jnr_hv {a b : Int} (hb : 0 < b) : ∀ (r : List St) (p q : Int), Cn' p q r → hv (jnr r) a b = hv r a b
  | [], _, _, _ => rfl
  | [x], _, _, _ => rfl
  | x :: y :: r, p, q, ⟨⟨h1, h2, h3, h4⟩, c⟩ => by
    have ih := jnr_hv (a := a) hb (y :: r) x.p x.q c
    rw [jnr]
    split
    · rename_i e
      rw [ih]
      by_cases g : x.p * b < a * x.q
      · rw [hv_hi g]
      · have k := c.1.1
        have yq := c.1.2.1.2.1
        rw [hv_lo (x := x) (by omega), hv_lo (Int.le_of_lt (lt_trans hb h2.2.1 yq (show a * x.q ≤ x.p * b by omega) k))]
        simp only [same, Bool.and_eq_true, decide_eq_true_eq] at e
        simp [vl, e]
    · by_cases g : x.p * b < a * x.q
      · rw [hv_hi g, hv_hi g, ih]
      · rw [hv_lo (by omega), hv_lo (by omega)]
/-! ### a line is told by its heights -/
theorem rule_two {s t s' t' a b c d : Int} (e1 : s * a + t * b = s' * a + t' * b) (e2 : s * c + t * d = s' * c + t' * d) (n : a * d ≠ c * b) (hb : 0 < b) : s = s' ∧ t = t' := by
  have f1 : (s - s') * a = (t' - t) * b := by rw [Int.sub_mul, Int.sub_mul]; omega
  have f2 : (s - s') * c = (t' - t) * d := by rw [Int.sub_mul, Int.sub_mul]; omega
  have g1 : (s - s') * (a * d) = (t' - t) * b * d := by rw [← Int.mul_assoc, f1]
  have g2 : (s - s') * (c * b) = (t' - t) * b * d := by rw [← Int.mul_assoc, f2, Int.mul_right_comm]
  have g3 : (s - s') * (a * d - c * b) = 0 := by rw [Int.mul_sub]; omega
  have z : s - s' = 0 := by
    rcases Int.mul_eq_zero.mp g3 with h | h
    · exact h
    · omega
  have z2 : (t' - t) * b = 0 := by rw [← f1, z, Int.zero_mul]
  have z3 : t' - t = 0 := by
    rcases Int.mul_eq_zero.mp z2 with h | h
    · exact h
    · omega
  omega
/-- between two fractions lies one -/
theorem between {p q a b : Int} (hq : 0 < q) (hb : 0 < b) (h : p * b < a * q) : p * (2 * q * b) < (p * b + a * q) * q ∧ (p * b + a * q) * b < a * (2 * q * b) := by
  have k1 := Int.mul_lt_mul_of_pos_right h hq
  have k2 := Int.mul_lt_mul_of_pos_right h hb
  constructor
  · have e : p * (2 * q * b) = 2 * (p * b * q) := by simp only [Int.mul_assoc, Int.mul_comm, Int.mul_left_comm]
    rw [e, Int.add_mul]
    omega
  · have e : a * (2 * q * b) = 2 * (a * q * b) := by simp only [Int.mul_assoc, Int.mul_comm, Int.mul_left_comm]
    rw [e, Int.add_mul]
    omega
/-- two rules alike between two fractions -/
theorem rule_like {x y : St} {p q a b : Int} (hq : 0 < q) (hb : 0 < b) (h : p * b < a * q) (e : ∀ c d, 0 < d → p * d < c * q → c * b ≤ a * d → vl x c d = vl y c d) : same x y = true := by
  obtain ⟨m1, m2⟩ := between hq hb h
  have d0 : 0 < 2 * q * b := Int.mul_pos (Int.mul_pos (by decide) hq) hb
  have e1 := e a b hb h (by rw [Int.mul_comm]; exact Int.le_refl _)
  have e2 := e (p * b + a * q) (2 * q * b) d0 m1 (by omega)
  obtain ⟨r1, r2⟩ := rule_two e1 e2 (by omega) hb
  simp [same, r1, r2]
theorem line_unique : ∀ (l m : List St) (p q : Int), 0 < q → Cn' p q l → Cn' p q m → Df l → Df m → (∀ a b, 0 < b → p * b < a * q → a ≤ b → hv l a b = hv m a b) → l = m
  | [], [], _, _, _, _, _, _, _, _ => rfl
  | [], y :: m, p, q, q0, c, d, _, _, _ => by
    obtain ⟨rfl, rfl⟩ := c
    have := d.1.1
    have := d.1.2.1
    omega
  | x :: l, [], p, q, q0, c, d, _, _, _ => by
    obtain ⟨rfl, rfl⟩ := d
    have := c.1.1
    have := c.1.2.1
    omega
  | x :: l, y :: m, p, q, q0, ⟨⟨c1, c2, c3, c4⟩, c⟩, ⟨⟨d1, d2, d3, d4⟩, d⟩, ⟨f1, f⟩, ⟨g1, g⟩, e => by
    -- the shorter one of the two first stretches has the other's rule
    have xq := c2.2.1
    have yq := d2.2.1
    have sm : same x y = true := by
      by_cases h : x.p * y.q ≤ y.p * x.q
      · refine rule_like q0 xq c1 fun a b hb h1 h2 => ?_
        have ax : a ≤ b := by
          have := le_trans3 (a := a) (b := b) (c := x.p) (d := x.q) (e := 1) (f := 1) hb xq (by decide) h2 (by omega)
          omega
        have := e a b hb h1 ax
        rw [hv_lo h2, hv_lo (le_trans3 hb xq yq h2 h)] at this
        exact this
      · refine rule_like q0 yq d1 fun a b hb h1 h2 => ?_
        have ax : a ≤ b := by
          have := le_trans3 (a := a) (b := b) (c := y.p) (d := y.q) (e := 1) (f := 1) hb yq (by decide) h2 (by omega)
          omega
        have := e a b hb h1 ax
        rw [hv_lo h2, hv_lo (le_trans3 hb yq xq h2 (by omega))] at this
        exact this
    have ends : x.p * y.q = y.p * x.q := by
      rcases Int.lt_trichotomy (x.p * y.q) (y.p * x.q) with h | h | h
      · exfalso
        cases l with
        | nil =>
          obtain ⟨e1, e2⟩ := c
          rw [e1, e2] at h
          omega
        | cons x' l =>
          obtain ⟨⟨k1, k2, _⟩, _⟩ := c
          have xq' := k2.2.1
          have n := f1 x' l rfl
          have s2 : same x' y = true := by
            by_cases h' : x'.p * y.q ≤ y.p * x'.q
            · refine rule_like xq xq' k1 fun a b hb h1 h2 => ?_
              have ax : a ≤ b := by
                have := le_trans3 (a := a) (b := b) (c := x'.p) (d := x'.q) (e := 1) (f := 1) hb xq' (by decide) h2 (by omega)
                omega
              have := e a b hb (lt_trans q0 xq hb (Int.le_of_lt c1) h1) ax
              rw [hv_hi h1, hv_lo h2, hv_lo (le_trans3 hb xq' yq h2 h')] at this
              exact this
            · refine rule_like xq yq h fun a b hb h1 h2 => ?_
              have ax : a ≤ b := by
                have := le_trans3 (a := a) (b := b) (c := y.p) (d := y.q) (e := 1) (f := 1) hb yq (by decide) h2 (by omega)
                omega
              have := e a b hb (lt_trans q0 xq hb (Int.le_of_lt c1) h1) ax
              rw [hv_hi h1, hv_lo (le_trans3 hb yq xq' h2 (by omega)), hv_lo h2] at this
              exact this
          simp only [same, Bool.and_eq_true, decide_eq_true_eq] at sm s2
          simp only [same, sm.1, sm.2, s2.1, s2.2] at n
          simp at n
      · exact h
      · exfalso
        cases m with
        | nil =>
          obtain ⟨e1, e2⟩ := d
          rw [e1, e2] at h
          omega
        | cons y' m =>
          obtain ⟨⟨k1, k2, _⟩, _⟩ := d
          have yq' := k2.2.1
          have n := g1 y' m rfl
          have s2 : same x y' = true := by
            by_cases h' : y'.p * x.q ≤ x.p * y'.q
            · refine rule_like yq yq' k1 fun a b hb h1 h2 => ?_
              have ax : a ≤ b := by
                have := le_trans3 (a := a) (b := b) (c := y'.p) (d := y'.q) (e := 1) (f := 1) hb yq' (by decide) h2 (by omega)
                omega
              have := e a b hb (lt_trans q0 yq hb (Int.le_of_lt d1) h1) ax
              rw [hv_lo (le_trans3 hb yq' xq h2 h'), hv_hi h1, hv_lo h2] at this
              exact this
            · refine rule_like yq xq h fun a b hb h1 h2 => ?_
              have ax : a ≤ b := by
                have := le_trans3 (a := a) (b := b) (c := x.p) (d := x.q) (e := 1) (f := 1) hb xq (by decide) h2 (by omega)
                omega
              have := e a b hb (lt_trans q0 yq hb (Int.le_of_lt d1) h1) ax
              rw [hv_lo h2, hv_hi h1, hv_lo (le_trans3 hb xq yq' h2 (by omega))] at this
              exact this
          simp only [same, Bool.and_eq_true, decide_eq_true_eq] at sm s2
          simp only [same, ← sm.1, ← sm.2, s2.1, s2.2] at n
          simp at n
    obtain ⟨e1, e2⟩ := low_same xq yq c3 d3 ends
    have ih := line_unique l m x.p x.q xq c (by rw [e1, e2]; exact d) f g fun a b hb h1 h2 => by
      have := e a b hb (lt_trans q0 xq hb (Int.le_of_lt c1) h1) h2
      rw [hv_hi h1, hv_hi (by rw [← e1, ← e2]; exact h1)] at this
      exact this
    simp only [same, Bool.and_eq_true, decide_eq_true_eq] at sm
    rw [ih]
    congr 1
    cases x
    cases y
    simp only at e1 e2 sm
    rw [e1, e2, sm.1, sm.2]
end Q

/-! two lines cut at the ends of both; sums -/
namespace Q
/-- a piece: its end, the stretches of both -/
structure Pc where
  e : Int
  f : Int
  x : St
  y : St
def Pc.d (u : Pc) : D := .tup [.tup [.int u.e, .int u.f], u.x.d, u.y.d]
def pcs : List St → List St → List Pc
  | x :: l, y :: m => if y.p * x.q < x.p * y.q then ⟨y.p, y.q, x, y⟩ :: pcs (x :: l) m else if x.p * y.q < y.p * x.q then ⟨x.p, x.q, x, y⟩ :: pcs l (y :: m) else ⟨x.p, x.q, x, y⟩ :: pcs l m
  | _, _ => []
termination_by l m => l.length + m.length
theorem pcs_nil (m : List St) : pcs [] m = [] := by unfold pcs; rfl
theorem pcs_nil2 (l : List St) : pcs l [] = [] := by cases l <;> (unfold pcs; rfl)
theorem pcs_cons (x y : St) (l m : List St) : pcs (x :: l) (y :: m) = if y.p * x.q < x.p * y.q then ⟨y.p, y.q, x, y⟩ :: pcs (x :: l) m else if x.p * y.q < y.p * x.q then ⟨x.p, x.q, x, y⟩ :: pcs l (y :: m) else ⟨x.p, x.q, x, y⟩ :: pcs l m := by
  rw [pcs]
/-- what holds of two chains' pieces, step by step -/
theorem pcs_ind {M : Int → Int → List St → List St → Prop} (h1 : ∀ p q m, Cn' p q [] → Cn' p q m → M p q [] m) (h2 : ∀ p q l, Cn' p q l → Cn' p q [] → M p q l [])
    (h3 : ∀ p q x l y m, 0 < q → Cn' p q (x :: l) → Cn' p q (y :: m) → y.p * x.q < x.p * y.q → Cn' y.p y.q (x :: l) → M y.p y.q (x :: l) m → M p q (x :: l) (y :: m))
    (h4 : ∀ p q x l y m, 0 < q → Cn' p q (x :: l) → Cn' p q (y :: m) → x.p * y.q < y.p * x.q → Cn' x.p x.q (y :: m) → M x.p x.q l (y :: m) → M p q (x :: l) (y :: m))
    (h5 : ∀ p q x l y m, 0 < q → Cn' p q (x :: l) → Cn' p q (y :: m) → x.p = y.p → x.q = y.q → M x.p x.q l m → M p q (x :: l) (y :: m)) :
    ∀ (n : Nat) (l m : List St) (p q : Int), l.length + m.length ≤ n → 0 < q → Cn' p q l → Cn' p q m → M p q l m
  | _, [], m, p, q, _, _, c, d => h1 p q m c d
  | _, x :: l, [], p, q, _, _, c, d => h2 p q _ c d
  | 0, x :: l, y :: m, _, _, hn, _, _, _ => by simp at hn
  | n + 1, x :: l, y :: m, p, q, hn, q0, c, d => by
    simp only [List.length_cons] at hn
    have c' := c
    have d' := d
    obtain ⟨⟨c1, c2, c3, c4⟩, c⟩ := c
    obtain ⟨⟨d1, d2, d3, d4⟩, d⟩ := d
    rcases Int.lt_trichotomy (y.p * x.q) (x.p * y.q) with h | h | h
    · have cx : Cn' y.p y.q (x :: l) := ⟨⟨h, c2, c3, c4⟩, c⟩
      exact h3 p q x l y m q0 c' d' h cx (pcs_ind h1 h2 h3 h4 h5 n (x :: l) m y.p y.q (by simp only [List.length_cons]; omega) d2.2.1 cx d)
    · obtain ⟨e1, e2⟩ := low_same c2.2.1 d2.2.1 c3 d3 h.symm
      exact h5 p q x l y m q0 c' d' e1 e2 (pcs_ind h1 h2 h3 h4 h5 n l m x.p x.q (by omega) c2.2.1 c (by rw [e1, e2]; exact d))
    · have dx : Cn' x.p x.q (y :: m) := ⟨⟨h, d2, d3, d4⟩, d⟩
      exact h4 p q x l y m q0 c' d' h dx (pcs_ind h1 h2 h3 h4 h5 n l (y :: m) x.p x.q (by simp only [List.length_cons]; omega) c2.2.1 c dx)
theorem pcs_a {x y : St} {l m : List St} (h : y.p * x.q < x.p * y.q) : pcs (x :: l) (y :: m) = ⟨y.p, y.q, x, y⟩ :: pcs (x :: l) m := by rw [pcs_cons, if_pos h]
theorem pcs_b {x y : St} {l m : List St} (h : x.p * y.q < y.p * x.q) : pcs (x :: l) (y :: m) = ⟨x.p, x.q, x, y⟩ :: pcs l (y :: m) := by rw [pcs_cons, if_neg (by omega), if_pos h]
theorem pcs_c {x y : St} {l m : List St} (h1 : x.p = y.p) (h2 : x.q = y.q) : pcs (x :: l) (y :: m) = ⟨x.p, x.q, x, y⟩ :: pcs l m := by rw [pcs_cons, h1, h2, if_neg (by omega), if_neg (by omega)]
/-! ### sums -/
def sm (u : Pc) : St := ⟨u.e, u.f, u.x.s + u.y.s, u.x.t + u.y.t⟩
theorem hdr_sm (x y : St) (l m : List St) : hdr ((pcs (x :: l) (y :: m)).map sm) = some (x.s + y.s, x.t + y.t) := by
  rw [pcs_cons]
  split
  · rfl
  · split <;> rfl
theorem jt_of_hdr {x : St} {r : List St} (h : ∀ s t, hdr r = some (s, t) → (s - x.s) * x.p + (t - x.t) * x.q = 0) : jt x r := by
  cases r with
  | nil => trivial
  | cons y r => exact h y.s y.t rfl
theorem sum_cn (l m : List St) {p q : Int} (q0 : 0 < q) (c : Cn' p q l) (d : Cn' p q m) : Cn' p q ((pcs l m).map sm) := by
  refine pcs_ind (M := fun p q l m => Cn' p q ((pcs l m).map sm)) ?_ ?_ ?_ ?_ ?_ (l.length + m.length) l m p q (Nat.le_refl _) q0 c d
  · intro p q m c d
    rw [pcs_nil]
    exact c
  · intro p q l c d
    rw [pcs_nil2]
    exact d
  · intro p q x l y m q0 ⟨⟨c1, c2, c3, c4⟩, c⟩ ⟨⟨d1, d2, d3, d4⟩, d⟩ h cx ih
    rw [pcs_a h]
    refine ⟨⟨d1, d2, d3, jt_of_hdr fun s t e => ?_⟩, ih⟩
    cases m with
    | nil => rw [pcs_nil2] at e; cases e
    | cons y' m =>
      rw [hdr_sm] at e
      simp only [Option.some.injEq, Prod.mk.injEq] at e
      simp only [jt] at d4
      obtain ⟨rfl, rfl⟩ := e
      simp only [sm]
      rw [show x.s + y'.s - (x.s + y.s) = y'.s - y.s by omega, show x.t + y'.t - (x.t + y.t) = y'.t - y.t by omega]
      exact d4
  · intro p q x l y m q0 ⟨⟨c1, c2, c3, c4⟩, c⟩ ⟨⟨d1, d2, d3, d4⟩, d⟩ h cx ih
    rw [pcs_b h]
    refine ⟨⟨c1, c2, c3, jt_of_hdr fun s t e => ?_⟩, ih⟩
    cases l with
    | nil => rw [pcs_nil] at e; cases e
    | cons x' l =>
      rw [hdr_sm] at e
      simp only [Option.some.injEq, Prod.mk.injEq] at e
      simp only [jt] at c4
      obtain ⟨rfl, rfl⟩ := e
      simp only [sm]
      rw [show x'.s + y.s - (x.s + y.s) = x'.s - x.s by omega, show x'.t + y.t - (x.t + y.t) = x'.t - x.t by omega]
      exact c4
  · intro p q x l y m q0 ⟨⟨c1, c2, c3, c4⟩, c⟩ ⟨⟨d1, d2, d3, d4⟩, d⟩ e1 e2 ih
    rw [pcs_c e1 e2]
    refine ⟨⟨c1, c2, c3, jt_of_hdr fun s t e => ?_⟩, ih⟩
    cases l with
    | nil => rw [pcs_nil] at e; cases e
    | cons x' l =>
      cases m with
      | nil => rw [pcs_nil2] at e; cases e
      | cons y' m =>
        rw [hdr_sm] at e
        simp only [Option.some.injEq, Prod.mk.injEq] at e
        simp only [jt] at c4 d4
        obtain ⟨rfl, rfl⟩ := e
        simp only [sm]
        rw [← e1, ← e2] at d4
        rw [show x'.s + y'.s - (x.s + y.s) = (x'.s - x.s) + (y'.s - y.s) by omega, show x'.t + y'.t - (x.t + y.t) = (x'.t - x.t) + (y'.t - y.t) by omega, Int.add_mul, Int.add_mul]
        omega
theorem cn_one : ∀ {m : List St}, Cn' 1 1 m → m = []
  | [], _ => rfl
  | y :: m, ⟨⟨h, g, _⟩, _⟩ => by omega
theorem sum_hv {a b : Int} (hb : 0 < b) (hab : a ≤ b) (l m : List St) {p q : Int} (q0 : 0 < q) (c : Cn' p q l) (d : Cn' p q m) (h : p * b ≤ a * q) : hv ((pcs l m).map sm) a b = hv l a b + hv m a b := by
  refine pcs_ind (M := fun p q l m => p * b ≤ a * q → hv ((pcs l m).map sm) a b = hv l a b + hv m a b) ?_ ?_ ?_ ?_ ?_ (l.length + m.length) l m p q (Nat.le_refl _) q0 c d h
  · intro p q m c d h
    obtain ⟨rfl, rfl⟩ := c
    rw [pcs_nil, cn_one d]
    rfl
  · intro p q l c d h
    obtain ⟨rfl, rfl⟩ := d
    rw [pcs_nil2, cn_one c]
    rfl
  · intro p q x l y m q0 ⟨⟨c1, c2, c3, c4⟩, c⟩ ⟨⟨d1, d2, d3, d4⟩, d⟩ g cx ih h
    rw [pcs_a g, List.map_cons]
    by_cases k : y.p * b < a * y.q
    · rw [hv_hi (show (sm ⟨y.p, y.q, x, y⟩).p * b < a * (sm ⟨y.p, y.q, x, y⟩).q from k), ih (Int.le_of_lt k), hv_hi (x := y) k]
    · rw [hv_lo (show a * (sm ⟨y.p, y.q, x, y⟩).q ≤ (sm ⟨y.p, y.q, x, y⟩).p * b by simp only [sm]; omega), hv_lo (x := y) (by omega), hv_lo (x := x) (le_trans3 hb d2.2.1 c2.2.1 (by omega) (Int.le_of_lt g))]
      simp only [vl, sm, Int.add_mul]
      omega
  · intro p q x l y m q0 ⟨⟨c1, c2, c3, c4⟩, c⟩ ⟨⟨d1, d2, d3, d4⟩, d⟩ g cx ih h
    rw [pcs_b g, List.map_cons]
    by_cases k : x.p * b < a * x.q
    · rw [hv_hi (show (sm ⟨x.p, x.q, x, y⟩).p * b < a * (sm ⟨x.p, x.q, x, y⟩).q from k), ih (Int.le_of_lt k), hv_hi (x := x) k]
    · rw [hv_lo (show a * (sm ⟨x.p, x.q, x, y⟩).q ≤ (sm ⟨x.p, x.q, x, y⟩).p * b by simp only [sm]; omega), hv_lo (x := x) (by omega), hv_lo (x := y) (le_trans3 hb c2.2.1 d2.2.1 (by omega) (Int.le_of_lt g))]
      simp only [vl, sm, Int.add_mul]
      omega
  · intro p q x l y m q0 ⟨⟨c1, c2, c3, c4⟩, c⟩ ⟨⟨d1, d2, d3, d4⟩, d⟩ e1 e2 ih h
    rw [pcs_c e1 e2, List.map_cons]
    by_cases k : x.p * b < a * x.q
    · rw [hv_hi (show (sm ⟨x.p, x.q, x, y⟩).p * b < a * (sm ⟨x.p, x.q, x, y⟩).q from k), ih (Int.le_of_lt k), hv_hi (x := x) k, hv_hi (x := y) (by rw [← e1, ← e2]; exact k)]
    · rw [hv_lo (show a * (sm ⟨x.p, x.q, x, y⟩).q ≤ (sm ⟨x.p, x.q, x, y⟩).p * b by simp only [sm]; omega), hv_lo (x := x) (by omega), hv_lo (x := y) (by rw [← e1, ← e2]; omega)]
      simp only [vl, sm, Int.add_mul]
      omega
/-- where a piece comes from -/
theorem pcs_mem : ∀ (n : Nat) (l m : List St), l.length + m.length ≤ n → (∀ u ∈ pcs l m, u.x ∈ l ∧ u.y ∈ m ∧ ((u.e = u.x.p ∧ u.f = u.x.q) ∨ (u.e = u.y.p ∧ u.f = u.y.q))) ∧ (pcs l m).length ≤ l.length + m.length
  | _, [], m, _ => by rw [pcs_nil]; simp
  | _, x :: l, [], _ => by rw [pcs_nil2]; simp
  | 0, x :: l, y :: m, h => by simp at h
  | n + 1, x :: l, y :: m, h => by
    simp only [List.length_cons] at h
    rw [pcs_cons]
    split
    · obtain ⟨i1, i2⟩ := pcs_mem n (x :: l) m (by simp only [List.length_cons]; omega)
      refine ⟨fun u hu => ?_, by simp only [List.length_cons] at i2 ⊢; omega⟩
      rcases List.mem_cons.mp hu with rfl | hu
      · exact ⟨List.mem_cons_self, List.mem_cons_self, .inr ⟨rfl, rfl⟩⟩
      · obtain ⟨j1, j2, j3⟩ := i1 u hu
        exact ⟨j1, List.mem_cons_of_mem _ j2, j3⟩
    · split
      · obtain ⟨i1, i2⟩ := pcs_mem n l (y :: m) (by simp only [List.length_cons]; omega)
        refine ⟨fun u hu => ?_, by simp only [List.length_cons] at i2 ⊢; omega⟩
        rcases List.mem_cons.mp hu with rfl | hu
        · exact ⟨List.mem_cons_self, List.mem_cons_self, .inl ⟨rfl, rfl⟩⟩
        · obtain ⟨j1, j2, j3⟩ := i1 u hu
          exact ⟨List.mem_cons_of_mem _ j1, j2, j3⟩
      · obtain ⟨i1, i2⟩ := pcs_mem n l m (by omega)
        refine ⟨fun u hu => ?_, by simp only [List.length_cons] at i2 ⊢; omega⟩
        rcases List.mem_cons.mp hu with rfl | hu
        · exact ⟨List.mem_cons_self, List.mem_cons_self, .inl ⟨rfl, rfl⟩⟩
        · obtain ⟨j1, j2, j3⟩ := i1 u hu
          exact ⟨List.mem_cons_of_mem _ j1, List.mem_cons_of_mem _ j2, j3⟩
theorem sum_bx {l m : List St} {n k : Nat} (hl : ∀ x ∈ l, Bx n k x) (hm : ∀ x ∈ m, Bx n k x) : ∀ x ∈ (pcs l m).map sm, Bx n (k + 1) x := by
  intro z hz
  obtain ⟨u, hu, rfl⟩ := List.mem_map.mp hz
  obtain ⟨j1, j2, j3⟩ := (pcs_mem _ l m (Nat.le_refl _)).1 u hu
  obtain ⟨a1, a2, a3, a4⟩ := hl _ j1
  obtain ⟨b1, b2, b3, b4⟩ := hm _ j2
  refine ⟨?_, ?_, (a3.add b3).mono (by omega), (a4.add b4).mono (by omega)⟩
  · simp only [sm]; rcases j3 with ⟨e1, e2⟩ | ⟨e1, e2⟩ <;> rw [e1] <;> assumption
  · simp only [sm]; rcases j3 with ⟨e1, e2⟩ | ⟨e1, e2⟩ <;> rw [e2] <;> assumption
end Q

/-! lineworks: pieces, added, turned, raised; heights of any line -/
namespace Q
/-- a stretch as the works need it -/
def Lw1 (x : St) : Prop := 0 < x.q ∧ Int.gcd x.p x.q = 1 ∧ Bx 1000 2000 x
theorem Cn'.gq : ∀ {r : List St} {p q : Int}, Cn' p q r → ∀ x ∈ r, (0 ≤ x.p ∧ 0 < x.q ∧ x.p ≤ x.q) ∧ Int.gcd x.p x.q = 1
  | [], _, _, _, x, hx => by cases hx
  | y :: r, _, _, ⟨⟨_, h2, h3, _⟩, c⟩, x, hx => by
    rcases List.mem_cons.mp hx with rfl | hx
    · exact ⟨h2, h3⟩
    · exact Cn'.gq c x hx
theorem Bx.mono {n m n' m' : Nat} {x : St} (b : Bx n m x) (h : n ≤ n') (h' : m ≤ m') : Bx n' m' x := ⟨b.1.mono h, b.2.1.mono h, b.2.2.1.mono h', b.2.2.2.mono h'⟩
theorem lw1_of {r : List St} {p q : Int} {n m : Nat} (c : Cn' p q r) (b : ∀ x ∈ r, Bx n m x) (hn : n ≤ 1000) (hm : m ≤ 2000) : ∀ x ∈ r, Lw1 x := fun x hx => ⟨(c.gq x hx).1.2.1, (c.gq x hx).2, (b x hx).mono hn hm⟩
theorem getI_at {L : List St} (h : Hs) {j : Nat} (hj : j < L.length) : getI (.tup (L.map St.d)) (.int (j : Int)) h = .ok (L[j].d) h := getI_line h hj
def pcW : Sm := headB (dropB 3 f_lineworks_pieces.body)
def whCond : Sm → Ex
  | .whl c _ => c
  | _ => .k .non
def whBody : Sm → Bl
  | .whl _ b => b
  | _ => .nil
theorem pieces_loop {T : Tab} (hS : T.fn "fractions.less" = some f_fractions_less) (k : Nat) (h : Hs) {L M : List St} (hL : ∀ x ∈ L, Lw1 x) (hM : ∀ x ∈ M, Lw1 x) : ∀ (n i j : Nat) (acc : List Pc) (v5 v6 v7 : Option D), (L.length - i) + (M.length - j) ≤ n → acc.length + n ≤ 2000 → ∃ v3 v4 v5' v6' v7',
    whE ⟨T, call T (k + 1)⟩ (whCond pcW) (whBody pcW) [some (.tup (L.map St.d)), some (.tup (M.map St.d)), some (.ref h.length), some (.int (i : Int)), some (.int (j : Int)), v5, v6, v7] (h ++ [.lst (acc.map Pc.d)]) =
      .nx [some (.tup (L.map St.d)), some (.tup (M.map St.d)), some (.ref h.length), v3, v4, v5', v6', v7'] (h ++ [.lst ((acc ++ pcs (L.drop i) (M.drop j)).map Pc.d)]) := by
  intro n
  induction n with
  | zero =>
    intro i j acc v5 v6 v7 hn ha
    have h1 : ¬ ((i : Int) < L.length) := by omega
    refine ⟨some (.int (i : Int)), some (.int (j : Int)), v5, v6, v7, ?_⟩
    rw [whE_f (h2 := h ++ [.lst (acc.map Pc.d)]) (by
          simp only [pcW, f_lineworks_pieces, dropB, headB, whCond]
          have e1 : (L.map St.d).length = L.length := List.length_map ..
          generalize L.map St.d = LD at *
          rw [← e1] at h1
          generalize hA : (LD.length : Int) = A at *
          generalize (i : Int) = ii at *
          simp [hA, h1])]
    rw [List.drop_of_length_le (show L.length ≤ i by omega), pcs_nil, List.append_nil]
  | succ n ih =>
    intro i j acc v5 v6 v7 hn ha
    by_cases hi : i < L.length
    · by_cases hj : j < M.length
      · have dl : L.drop i = L[i] :: L.drop (i + 1) := List.drop_eq_getElem_cons hi
        have dm : M.drop j = M[j] :: M.drop (j + 1) := List.drop_eq_getElem_cons hj
        have gl := fun h => getI_at h hi
        have gm := fun h => getI_at h hj
        obtain ⟨xq, xg, xb1, xb2, _⟩ := hL _ (List.getElem_mem hi)
        obtain ⟨yq, yg, yb1, yb2, _⟩ := hM _ (List.getElem_mem hj)
        have hi' : (i : Int) < L.length := by omega
        have hj' : (j : Int) < M.length := by omega
        have cond : evT ⟨T, call T (k + 1)⟩ (whCond pcW) [some (.tup (L.map St.d)), some (.tup (M.map St.d)), some (.ref h.length), some (.int (i : Int)), some (.int (j : Int)), v5, v6, v7] (h ++ [.lst (acc.map Pc.d)]) = .ok true (h ++ [.lst (acc.map Pc.d)]) := by
          simp only [pcW, f_lineworks_pieces, dropB, headB, whCond]
          have e1 : (L.map St.d).length = L.length := List.length_map ..
          have e2 : (M.map St.d).length = M.length := List.length_map ..
          generalize L.map St.d = LD at *
          generalize M.map St.d = MD at *
          rw [← e1] at hi'
          rw [← e2] at hj'
          generalize hA : (LD.length : Int) = A at *
          generalize hB : (MD.length : Int) = B at *
          generalize (i : Int) = ii at *
          generalize (j : Int) = jj at *
          simp [hA, hB, hi', hj']
        have ls := less_ok0 hS k (h ++ [.lst (acc.map Pc.d)]) M[j].p M[j].q L[i].p L[i].q ⟨yb1.mono (by decide), yb2.mono (by decide), xb1.mono (by decide), xb2.mono (by decide)⟩
        have bk : bmK .append (.ref h.length) (h ++ [.lst (acc.map Pc.d)]) = true := bmK_lst (xs := acc.map Pc.d) .append (by simp)
        have ap : ∀ d, Bm.run .append (.ref h.length) [d] (h ++ [.lst (acc.map Pc.d)]) = .ok .non (h ++ [.lst (acc.map Pc.d ++ [d])]) := fun d => by
          rw [append_lst (xs := acc.map Pc.d) (by simp) (by simp [SZ]; omega)]
          simp
        have ei : (i : Int) + 1 = ((i + 1 : Nat) : Int) := by omega
        have ej : (j : Int) + 1 = ((j + 1 : Nat) : Int) := by omega
        have ihA := ih i (j + 1) (acc ++ [⟨M[j].p, M[j].q, L[i], M[j]⟩]) (some L[i].d) (some M[j].d) (some (.tup [.int M[j].p, .int M[j].q])) (by omega) (by simp; omega)
        have ihB := ih (i + 1) j (acc ++ [⟨L[i].p, L[i].q, L[i], M[j]⟩]) (some L[i].d) (some M[j].d) (some (.tup [.int L[i].p, .int L[i].q])) (by omega) (by simp; omega)
        have ihC := ih (i + 1) (j + 1) (acc ++ [⟨L[i].p, L[i].q, L[i], M[j]⟩]) (some L[i].d) (some M[j].d) (some (.tup [.int L[i].p, .int L[i].q])) (by omega) (by simp; omega)
        rw [dl] at ihA
        rw [dm] at ihB
        rw [dl, dm]
        rw [← ei] at ihB ihC
        rw [← ej] at ihA ihC
        simp only [pcW, f_lineworks_pieces, dropB, headB, whCond, whBody] at cond ihA ihB ihC ⊢
        generalize L[i] = x at *
        generalize M[j] = y at *
        generalize (i : Int) = ii at *
        generalize (j : Int) = jj at *
        have pd : ∀ e f : Int, D.tup [.tup [.int e, .int f], x.d, y.d] = (⟨e, f, x, y⟩ : Pc).d := fun _ _ => rfl
        rcases Int.lt_trichotomy (y.p * x.q) (x.p * y.q) with g | g | g
        · rw [decide_eq_true g] at ls
          have ne : (decide (x.p = y.p) && decide (x.q = y.q)) = false := by
            rw [← Bool.not_eq_true, Bool.and_eq_true, decide_eq_true_eq, decide_eq_true_eq]
            rintro ⟨e1, e2⟩
            rw [e1, e2] at g
            omega
          obtain ⟨v3, v4, v5', v6', v7', e⟩ := ihA
          refine ⟨v3, v4, v5', v6', v7', ?_⟩
          rw [whE_t (h3 := h ++ [.lst (acc.map Pc.d ++ [(⟨y.p, y.q, x, y⟩ : Pc).d])]) (s2 := [some (.tup (L.map St.d)), some (.tup (M.map St.d)), some (.ref h.length), some (.int ii), some (.int (jj + 1)), some x.d, some y.d, some (.tup [.int y.p, .int y.q])]) cond (by simp [gl, gm, getI_d1, ls, bk, ap, pd, eq2, ne])]
          rw [pcs_a g]
          simp only [List.map_append, List.map_cons, List.map_nil, List.append_assoc, List.cons_append, List.nil_append] at e ⊢
          exact e
        · rw [decide_eq_false (by omega)] at ls
          obtain ⟨e1, e2⟩ := low_same xq yq xg yg g.symm
          have f1 : (decide (y.p = x.p) && decide (y.q = x.q)) = true := by simp [e1, e2]
          obtain ⟨v3, v4, v5', v6', v7', e⟩ := ihC
          refine ⟨v3, v4, v5', v6', v7', ?_⟩
          rw [whE_t (h3 := h ++ [.lst (acc.map Pc.d ++ [(⟨x.p, x.q, x, y⟩ : Pc).d])]) (s2 := [some (.tup (L.map St.d)), some (.tup (M.map St.d)), some (.ref h.length), some (.int (ii + 1)), some (.int (jj + 1)), some x.d, some y.d, some (.tup [.int x.p, .int x.q])]) cond (by simp [gl, gm, getI_d1, ls, bk, ap, pd, eq2, f1])]
          rw [pcs_c e1 e2]
          simp only [List.map_append, List.map_cons, List.map_nil, List.append_assoc, List.cons_append, List.nil_append] at e ⊢
          exact e
        · rw [decide_eq_false (by omega)] at ls
          have ne : (decide (y.p = x.p) && decide (y.q = x.q)) = false := by
            rw [← Bool.not_eq_true, Bool.and_eq_true, decide_eq_true_eq, decide_eq_true_eq]
            rintro ⟨e1, e2⟩
            rw [e1, e2] at g
            omega
          obtain ⟨v3, v4, v5', v6', v7', e⟩ := ihB
          refine ⟨v3, v4, v5', v6', v7', ?_⟩
          rw [whE_t (h3 := h ++ [.lst (acc.map Pc.d ++ [(⟨x.p, x.q, x, y⟩ : Pc).d])]) (s2 := [some (.tup (L.map St.d)), some (.tup (M.map St.d)), some (.ref h.length), some (.int (ii + 1)), some (.int jj), some x.d, some y.d, some (.tup [.int x.p, .int x.q])]) cond (by simp [gl, gm, getI_d1, ls, bk, ap, pd, eq2, ne])]
          rw [pcs_b g]
          simp only [List.map_append, List.map_cons, List.map_nil, List.append_assoc, List.cons_append, List.nil_append] at e ⊢
          exact e
      · have h1 : ¬ ((j : Int) < M.length) := by omega
        have h2 : (i : Int) < L.length := by omega
        refine ⟨some (.int (i : Int)), some (.int (j : Int)), v5, v6, v7, ?_⟩
        rw [whE_f (h2 := h ++ [.lst (acc.map Pc.d)]) (by
          simp only [pcW, f_lineworks_pieces, dropB, headB, whCond]
          have e1 : (L.map St.d).length = L.length := List.length_map ..
          have e2 : (M.map St.d).length = M.length := List.length_map ..
          generalize L.map St.d = LD at *
          generalize M.map St.d = MD at *
          rw [← e1] at h2
          rw [← e2] at h1
          generalize hA : (LD.length : Int) = A at *
          generalize hB : (MD.length : Int) = B at *
          generalize (i : Int) = ii at *
          generalize (j : Int) = jj at *
          simp [hA, hB, h1, h2])]
        rw [List.drop_of_length_le (show M.length ≤ j by omega), pcs_nil2, List.append_nil]
    · have h1 : ¬ ((i : Int) < L.length) := by omega
      refine ⟨some (.int (i : Int)), some (.int (j : Int)), v5, v6, v7, ?_⟩
      rw [whE_f (h2 := h ++ [.lst (acc.map Pc.d)]) (by
          simp only [pcW, f_lineworks_pieces, dropB, headB, whCond]
          have e1 : (L.map St.d).length = L.length := List.length_map ..
          generalize L.map St.d = LD at *
          rw [← e1] at h1
          generalize hA : (LD.length : Int) = A at *
          generalize (i : Int) = ii at *
          simp [hA, h1])]
      rw [List.drop_of_length_le (show L.length ≤ i by omega), pcs_nil, List.append_nil]
theorem pieces_ok {T : Tab} (hP : T.fn "lineworks.pieces" = some f_lineworks_pieces) (hS : T.fn "fractions.less" = some f_fractions_less) (k : Nat) (h : Hs) {L M : List St} (hL : ∀ x ∈ L, Lw1 x) (hM : ∀ x ∈ M, Lw1 x) (hl : L.length + M.length ≤ 2000) :
    call T (k + 2) "lineworks.pieces" [.tup (L.map St.d), .tup (M.map St.d)] h = .ok (.ref h.length) (h ++ [.lst ((pcs L M).map Pc.d)]) := by
  obtain ⟨v3, v4, v5, v6, v7, e⟩ := pieces_loop hS k h hL hM (L.length + M.length) 0 0 [] none none none (by omega) (by simpa using hl)
  simp only [pcW, f_lineworks_pieces, dropB, headB, whCond, whBody, List.drop_zero, List.nil_append, List.map_nil] at e
  have z : ((0 : Nat) : Int) = 0 := rfl
  rw [z] at e
  rw [call_eq hP rfl]
  simp only [f_lineworks_pieces, start, List.replicate_succ, List.replicate_zero, List.map_cons, List.map_nil, List.append_nil, List.cons_append, List.nil_append]
  simp [e]
/-! ### comprehensions over a line -/
theorem added_ok {T : Tab} (hA : T.fn "lineworks.added" = some f_lineworks_added) (hJ : T.fn "lines.joined" = some f_lines_joined) (hP : T.fn "lineworks.pieces" = some f_lineworks_pieces) (hS : T.fn "fractions.less" = some f_fractions_less) (k : Nat) (h : Hs) {L M : List St} (hL : ∀ x ∈ L, Lw1 x) (hM : ∀ x ∈ M, Lw1 x) (hl : L.length + M.length ≤ 900) :
    ∃ G, call T (k + 3) "lineworks.added" [.tup (L.map St.d), .tup (M.map St.d)] h = .ok (.tup ((jnr ((pcs L M).map sm)).map St.d)) (h ++ G) := by
  have pc := pieces_ok hP hS k h hL hM (by omega)
  have lp := (pcs_mem _ L M (Nat.le_refl _)).2
  generalize pcs L M = P at *
  have w := walkSq_lst (h := h ++ [O.lst (P.map Pc.d)]) (n := h.length) (xs := P.map Pc.d) (by simp)
  have cm := kComp_mapL (C := ⟨T, call T (k + 2)⟩) (s := [some (.tup (L.map St.d)), some (.tup (M.map St.d)), none, none, none]) (h := h ++ [O.lst (P.map Pc.d)])
    (e := .tup (.cons (.v 2) (.cons (.bin .add (.sub (.v 3) (.k (.int 1))) (.sub (.v 4) (.k (.int 1)))) (.cons (.bin .add (.sub (.v 3) (.k (.int 2))) (.sub (.v 4) (.k (.int 2)))) .nil)))) (tg := .many [2, 3, 4]) (own := [2, 3, 4])
    (w := ⟨P.map Pc.d, fun z => z[h.length]? = some (.lst (P.map Pc.d))⟩) P Pc.d (fun u => (sm u).d) rfl (by simp)
    (fun u hu => ⟨_, asg_three .., by simp [wipe, getI_d2, getI_d3]; rfl⟩) (by simp [SZ]; omega)
  have em : (P.map fun u => (sm u).d) = (P.map sm).map St.d := by simp
  rw [em] at cm
  obtain ⟨G, ej⟩ := joined_ok hJ (k + 1) (h := h ++ [O.lst (P.map Pc.d)] ++ [O.lst ((P.map sm).map St.d)]) (n := (h ++ [O.lst (P.map Pc.d)]).length) (H := P.map sm) List.getElem?_concat_length (by simp; omega)
  rw [jn_eq] at ej
  refine ⟨[O.lst (P.map Pc.d)] ++ [O.lst ((P.map sm).map St.d)] ++ G, ?_⟩
  have ea : h ++ ([O.lst (P.map Pc.d)] ++ [O.lst ((P.map sm).map St.d)] ++ G) = h ++ [O.lst (P.map Pc.d)] ++ [O.lst ((P.map sm).map St.d)] ++ G := by simp
  rw [ea]
  generalize (P.map sm).map St.d = D2 at *
  generalize P.map Pc.d = D1 at *
  rw [call_eq hA rfl]
  show SR.fin (exB ⟨T, call T (k + 2)⟩ f_lineworks_added.body [some (.tup (L.map St.d)), some (.tup (M.map St.d)), none, none, none] h) = _
  simp only [f_lineworks_added, exB_cons, exS_ret, evE_call, evs_cons, evE_comp, walk_sq, evE_v, getL_zero, getL_succ, kVar_some, kCons1_ok, evs_nil, kCons2_ok, kCall_ok, pc, kSq_ok, w, kWalk_some, cm, ej, kRet_ok, kThen_rt, fin_rt]
theorem map_tup {T : Tab} {C : Cl} {s : Ev} {h : Hs} {L : List St} (f : St → St) {e : Ex} {i v : Nat} (hs : getL s v = some (.tup (L.map St.d))) (he : ∀ x ∈ L, evE C e ((wipe s [i]).set i (some x.d)) h = .ok (f x).d h) (hl : L.length ≤ 2000) :
    evE C (.b .tuple (.cons (.comp e (.one i) (.sq (.v v)) .none [i]) .nil)) s h = .ok (.tup ((L.map f).map St.d)) (h ++ [O.lst ((L.map f).map St.d)]) := by
  have cm := kComp_mapL (C := C) (s := s) (h := h) (e := e) (tg := .one i) (own := [i]) (w := ⟨L.map St.d, fun _ => True⟩) L St.d (fun x => (f x).d) rfl trivial
    (fun u hu => ⟨_, rfl, he u hu⟩) (by simp [SZ]; omega)
  have em : (L.map fun x => (f x).d) = (L.map f).map St.d := by simp
  rw [em] at cm
  have tl := tuple_lst (h := h ++ [O.lst ((L.map f).map St.d)]) (n := h.length) (xs := (L.map f).map St.d) (by simp)
  rw [evE_b, evs_cons, evE_comp, walk_sq, evE_v, hs, kVar_some, kSq_ok, walkSq_tup, kWalk_some, cm, kCons1_ok, evs_nil, kCons2_ok, kB_ok, tl]
def tn (x : St) : St := ⟨x.p, x.q, -x.s, -x.t⟩
def rs (by_ : Int) (x : St) : St := ⟨x.p, x.q, x.s, x.t + by_⟩
theorem turned_ok {T : Tab} (hT : T.fn "lineworks.turned" = some f_lineworks_turned) (k : Nat) (h : Hs) {L : List St} (hl : L.length ≤ 2000) : call T (k + 1) "lineworks.turned" [.tup (L.map St.d)] h = .ok (.tup ((L.map tn).map St.d)) (h ++ [O.lst ((L.map tn).map St.d)]) := by
  have m := map_tup (T := T) (C := ⟨T, call T k⟩) (s := [some (.tup (L.map St.d)), none]) (h := h) (L := L) tn (e := (.tup (.cons (.sub (.v 1) (.k (.int 0))) (.cons (.neg (.sub (.v 1) (.k (.int 1)))) (.cons (.neg (.sub (.v 1) (.k (.int 2)))) .nil))))) (i := 1) (v := 0) rfl (fun x _ => by simp [wipe, getI_d1, getI_d2, getI_d3]; rfl) hl
  rw [call_eq hT rfl]
  show SR.fin (exB ⟨T, call T k⟩ f_lineworks_turned.body [some (.tup (L.map St.d)), none] h) = _
  simp only [f_lineworks_turned]
  rw [exB_cons, exS_ret, m, kRet_ok, kThen_rt, fin_rt]
theorem raised_ok {T : Tab} (hT : T.fn "lineworks.raised" = some f_lineworks_raised) (k : Nat) (h : Hs) {L : List St} (hl : L.length ≤ 2000) (b : Int) : call T (k + 1) "lineworks.raised" [.tup (L.map St.d), .int b] h = .ok (.tup ((L.map (rs b)).map St.d)) (h ++ [O.lst ((L.map (rs b)).map St.d)]) := by
  have m := map_tup (T := T) (C := ⟨T, call T k⟩) (s := [some (.tup (L.map St.d)), some (.int b), none]) (h := h) (L := L) (rs b) (e := (.tup (.cons (.sub (.v 2) (.k (.int 0))) (.cons (.sub (.v 2) (.k (.int 1))) (.cons (.bin .add (.sub (.v 2) (.k (.int 2))) (.v 1)) .nil))))) (i := 2) (v := 0) rfl (fun x _ => by simp [wipe, getI_d1, getI_d2, getI_d3]; rfl) hl
  rw [call_eq hT rfl]
  show SR.fin (exB ⟨T, call T k⟩ f_lineworks_raised.body [some (.tup (L.map St.d)), some (.int b), none] h) = _
  simp only [f_lineworks_raised]
  rw [exB_cons, exS_ret, m, kRet_ok, kThen_rt, fin_rt]
/-! ### heights -/
theorem hv_find : ∀ (L : List St) (a b : Int) (h : hix L a b < L.length), hv L a b = vl L[hix L a b] a b
  | [], _, _, h => by simp [hix] at h
  | x :: r, a, b, h => by
    by_cases g : x.p * b < a * x.q
    · have e : hix (x :: r) a b = hix r a b + 1 := by simp [hix, List.findIdx_cons, g]
      have h' : hix r a b < r.length := by rw [e] at h; simpa using h
      rw [hv_hi g, hv_find r a b h']
      congr 1
      simp [e]
    · have e : hix (x :: r) a b = 0 := by simp [hix, List.findIdx_cons, g]
      rw [hv_lo (by omega)]
      congr 1
      simp [e]
theorem hix_ok : ∀ {L : List St} {p q : Int}, Cn' p q L → ∀ {a b : Int}, a ≤ b → L ≠ [] → hix L a b < L.length
  | [], _, _, _, _, _, _, h => absurd rfl h
  | [x], _, _, ⟨_, c1, c2⟩, a, b, hab, _ => by
    have g : ¬ (x.p * b < a * x.q) := by rw [c1, c2]; omega
    simp [hix, List.findIdx_cons, g]
  | x :: y :: r, _, _, ⟨_, c⟩, a, b, hab, _ => by
    by_cases g : x.p * b < a * x.q
    · have e : hix (x :: y :: r) a b = hix (y :: r) a b + 1 := by simp [hix, List.findIdx_cons, g]
      have := hix_ok c hab (by simp)
      rw [e]
      simpa using this
    · simp [hix, List.findIdx_cons, g]
theorem lheight2_ok {T : Tab} (hH : T.fn "_law_height" = some f__law_height) (k : Nat) (h : Hs) {L : List St} {p q : Int} (c : Cn' p q L) (n0 : L ≠ []) (hb : ∀ x ∈ L, Bx 1000 2000 x) {a b : Int} (hab : a ≤ b) (ba : Bd 2000 a) (bb : Bd 2000 b) :
    call T (k + 1) "_law_height" [.tup (L.map St.d), .tup [.int a, .int b]] h = .ok (.tup [.int (hv L a b), .int b]) h := by
  have hl := hix_ok c hab n0
  have m3 := ba.mulB (by decide)
  have m4 := bb.mulB (by decide)
  have lo := hix_loop (C := ⟨T, call T k⟩) (e := .cmp .lt (.bin .mul (.sub (.sub (.sub (.v 0) (.v 2)) (.k (.int 0))) (.k (.int 0))) (.sub (.v 1) (.k (.int 1)))) (.bin .mul (.sub (.v 1) (.k (.int 0))) (.sub (.sub (.sub (.v 0) (.v 2)) (.k (.int 0))) (.k (.int 1))))) hl (h := h) (s0 := some (.tup (L.map St.d))) (s1 := some (.tup [.int a, .int b])) (fun j hj => by
    have B := hb _ (List.getElem_mem hj)
    have m1 := B.1.mulB (by decide)
    have m2 := B.2.1.mulB (by decide)
    have gl := getI_line h hj
    simp [gl, getI_d1, run_mul, m1, m2, m3, m4]) (hix L a b) 0 (by omega)
  have gl := getI_line h hl
  have B := hb _ (List.getElem_mem hl)
  have m1 := B.2.2.1.mulB (by decide)
  have m2 := B.2.2.2.mulB (by decide)
  have lo' : whE ⟨T, call T k⟩ (.cmp .lt (.bin .mul (.sub (.sub (.sub (.v 0) (.v 2)) (.k (.int 0))) (.k (.int 0))) (.sub (.v 1) (.k (.int 1)))) (.bin .mul (.sub (.v 1) (.k (.int 0))) (.sub (.sub (.sub (.v 0) (.v 2)) (.k (.int 0))) (.k (.int 1))))) (.cons (.set 2 (.bin .add (.v 2) (.k (.int 1)))) .nil) [some (.tup (L.map St.d)), some (.tup [.int a, .int b]), some (.int 0)] h = .nx [some (.tup (L.map St.d)), some (.tup [.int a, .int b]), some (.int (hix L a b : Nat))] h := lo
  rw [hv_find L a b hl]
  rw [call_eq hH rfl]
  simp [f__law_height, start, List.replicate_succ, lo', gl, getI_d2, getI_d3, run_mul, m1, m2, m3, m4, vl]
end Q

/-! the places at which lines are looked at -/
namespace Q
def fd (u : Int × Int) : D := .tup [.int u.1, .int u.2]
/-- a fraction from 0 to 1 -/
def Pf (n : Nat) (u : Int × Int) : Prop := (0 < u.2 ∧ 0 ≤ u.1 ∧ u.1 ≤ u.2) ∧ Bd n u.1 ∧ Bd n u.2
theorem Pf.mono {n m : Nat} {u : Int × Int} (p : Pf n u) (h : n ≤ m) : Pf m u := ⟨p.1, p.2.1.mono h, p.2.2.mono h⟩
theorem flats_fd (U : List (Int × Int)) : flats (U.map fd) = true := flats_map _ _ fun _ _ => rfl
theorem low_pf {a b : Int} {n : Nat} (hb : 0 < b) (h0 : 0 ≤ a) (h1 : a ≤ b) (ba : Bd n a) (bb : Bd n b) : Pf n (low1 a b, low2 a b) := by
  have nb : b ≠ 0 := by omega
  obtain ⟨e1, e2⟩ := low_parts (a := a) nb
  have q := low2_pos (a := a) nb
  have g := gcd_pos (a := a) nb
  have es : sg a b = (Int.gcd a b : Int) := if_neg (by omega)
  have bq := low2_bd (a := a) nb bb
  have bp := low1_bd nb ba
  rw [es] at e1 e2
  refine ⟨⟨q, ?_, ?_⟩, bp, bq⟩
  · show 0 ≤ low1 a b
    by_cases z : 0 ≤ low1 a b
    · exact z
    · have := Int.mul_neg_of_neg_of_pos (show low1 a b < 0 by omega) g
      omega
  · show low1 a b ≤ low2 a b
    have k : low1 a b * (Int.gcd a b : Int) ≤ low2 a b * (Int.gcd a b : Int) := by omega
    exact Int.le_of_mul_le_mul_right k g
theorem getI_fd {h : Hs} {n : Nat} {V : List (Int × Int)} (g : h[n]? = some (.lst (V.map fd))) {j : Nat} (hj : j < V.length) : getI (.ref n) (.int (j : Int)) h = .ok (fd V[j]) h := by
  rw [getI_lst g, atI_nat (by omega) (by simpa using hj)]
  simp
theorem getI_f0 (u : Int × Int) (h : Hs) : getI (fd u) (.int 0) h = .ok (.int u.1) h := by simp [fd]
theorem getI_f1 (u : Int × Int) (h : Hs) : getI (fd u) (.int 1) h = .ok (.int u.2) h := by simp [fd]
theorem insert_lst {h : Hs} {n : Nat} {xs : List D} {d : D} {i : Nat} (q : h[n]? = some (.lst xs)) (hi : i ≤ xs.length) (l : xs.length < SZ) : Bm.run .insert (.ref n) [.int (i : Int), d] h = .ok .non (h.set n (.lst (xs.take i ++ d :: xs.drop i))) := by
  simp only [Bm.run, q]
  rw [if_pos ⟨by omega, by omega, l⟩]
  simp
/-! ### in rising order -/
def riW : Sm := headB (dropB 1 (forBody (headB (dropB 1 f__law_rising.body))))
theorem rising_while {C : Cl} {h : Hs} {m : Nat} {V : List (Int × Int)} (g : h[m]? = some (.lst (V.map fd))) {u : Int × Int} (hV : ∀ v ∈ V, Pf 1000 v) (hu : Pf 1000 u) (v0 : Option D) : ∀ (n j : Nat), j + n = V.length → ∃ j' : Nat, j' ≤ V.length ∧
    whE C (whCond riW) (whBody riW) [v0, some (.ref m), some (fd u), some (.int (j : Int))] h = .nx [v0, some (.ref m), some (fd u), some (.int (j' : Int))] h
  | 0, j, hj => by
    refine ⟨j, by omega, ?_⟩
    have h1 : ¬ ((j : Int) < V.length) := by omega
    have ln := len_lst g
    rw [List.length_map] at ln
    refine whE_f ?_
    simp only [riW, f__law_rising, dropB, headB, forBody, whCond]
    generalize (V.length : Int) = A at *
    generalize (j : Int) = jj at *
    simp [ln, h1]
  | n + 1, j, hj => by
    have hj' : j < V.length := by omega
    have h1 : (j : Int) < V.length := by omega
    have ln := len_lst g
    rw [List.length_map] at ln
    have gi := getI_fd g hj'
    obtain ⟨_, b1, b2⟩ := hV _ (List.getElem_mem hj')
    have hu' := hu
    obtain ⟨_, b3, b4⟩ := hu'
    have m1 := b1.mulB (by decide)
    have m2 := b2.mulB (by decide)
    have m3 := b3.mulB (by decide)
    have m4 := b4.mulB (by decide)
    by_cases c : V[j].1 * u.2 < u.1 * V[j].2
    · obtain ⟨j', l, e⟩ := rising_while (C := C) g hV hu v0 n (j + 1) (by omega)
      refine ⟨j', l, ?_⟩
      have ej : ((j + 1 : Nat) : Int) = (j : Int) + 1 := by omega
      rw [ej] at e
      simp only [riW, f__law_rising, dropB, headB, forBody, whCond, whBody] at e ⊢
      generalize (V.length : Int) = A at *
      generalize V[j] = v at *
      generalize (j : Int) = jj at *
      rw [whE_t (h2 := h) (h3 := h) (s2 := [v0, some (.ref m), some (fd u), some (.int (jj + 1))]) (by simp [ln, h1, gi, getI_f0, getI_f1, run_mul, m1, m2, m3, m4, c]) (by simp)]
      exact e
    · refine ⟨j, by omega, ?_⟩
      simp only [riW, f__law_rising, dropB, headB, forBody, whCond, whBody]
      generalize (V.length : Int) = A at *
      generalize V[j] = v at *
      generalize (j : Int) = jj at *
      exact whE_f (by simp [ln, h1, gi, getI_f0, getI_f1, run_mul, m1, m2, m3, m4, c])
theorem rising_ok {T : Tab} (hR : T.fn "_law_rising" = some f__law_rising) (k : Nat) {h : Hs} {n : Nat} {U : List (Int × Int)} (g : h[n]? = some (.lst (U.map fd))) {P : Int × Int → Prop} (hP : ∀ u, P u → Pf 1000 u) (hU : ∀ u ∈ U, P u) (hl : U.length ≤ 5000) :
    ∃ V : List (Int × Int), call T (k + 1) "_law_rising" [.ref n] h = .ok (.ref h.length) (h ++ [.lst (V.map fd)]) ∧ V.length = U.length ∧ ∀ v ∈ V, P v := by
  have loop : ∀ (r : List (Int × Int)) (V : List (Int × Int)) (v2 v3 : Option D), (∀ u ∈ r, P u) → (∀ v ∈ V, P v) → V.length + r.length ≤ 5000 → ∃ (V' : List (Int × Int)) (v2' v3' : Option D), V'.length = V.length + r.length ∧ (∀ v ∈ V', P v) ∧
      forE ⟨T, call T k⟩ (.one 2) (forBody (headB (dropB 1 f__law_rising.body))) (fun z => z[n]? = some (.lst (U.map fd))) (r.map fd) [some (.ref n), some (.ref h.length), v2, v3] (h ++ [.lst (V.map fd)]) =
        .nx [some (.ref n), some (.ref h.length), v2', v3'] (h ++ [.lst (V'.map fd)]) := by
    intro r
    induction r with
    | nil => intro V v2 v3 _ hV _; exact ⟨V, v2, v3, by simp, hV, forE_nil ((Gr.app h _).at g)⟩
    | cons u r ih =>
      intro V v2 v3 hr hV hl
      simp only [List.length_cons] at hl
      have gV : (h ++ [O.lst (V.map fd)])[h.length]? = some (.lst (V.map fd)) := by simp
      obtain ⟨j, lj, e⟩ := rising_while (C := ⟨T, call T k⟩) gV (fun v hv => hP v (hV v hv)) (hP u (hr u List.mem_cons_self)) (some (.ref n)) V.length 0 (by omega)
      have ins := insert_lst (d := fd u) (i := j) gV (by simpa using lj) (by simp [SZ]; omega)
      have bk : bmK .insert (.ref h.length) (h ++ [O.lst (V.map fd)]) = true := bmK_lst (xs := V.map fd) .insert gV
      obtain ⟨V', v2', v3', l', p', e'⟩ := ih (V.take j ++ u :: V.drop j) (some (fd u)) (some (.int (j : Int))) (fun w hw => hr w (List.mem_cons_of_mem _ hw)) (fun w hw => by
        rcases List.mem_append.mp hw with hw | hw
        · exact hV w (List.mem_of_mem_take hw)
        · rcases List.mem_cons.mp hw with rfl | hw
          · exact hr _ List.mem_cons_self
          · exact hV w (List.mem_of_mem_drop hw)) (by simp; omega)
      refine ⟨V', v2', v3', by simp at l'; simp; omega, p', ?_⟩
      have es : (h ++ [O.lst (V.map fd)]).set h.length (.lst ((V.map fd).take j ++ fd u :: (V.map fd).drop j)) = h ++ [.lst ((V.take j ++ u :: V.drop j).map fd)] := by simp
      rw [es] at ins
      simp only [riW, f__law_rising, dropB, headB, forBody, whCond, whBody] at e e' ⊢
      have z : ((0 : Nat) : Int) = 0 := rfl
      rw [z] at e
      generalize (V.take j ++ u :: V.drop j) = V2 at *
      simp only [List.map_cons]
      rw [forE_nx ((Gr.app h _).at g) rfl (s3 := [some (.ref n), some (.ref h.length), some (fd u), some (.int (j : Int))]) (h3 := h ++ [.lst (V2.map fd)]) (by simp [e, bk, ins])]
      exact e'
  obtain ⟨V, v2, v3, l, p, e⟩ := loop U [] none none hU (by simp) (by simpa using hl)
  refine ⟨V, ?_, by simpa using l, p⟩
  have w : walkSq (h ++ [.lst []]) (.ref n) = some ⟨U.map fd, fun h => h[n]? = some (.lst (U.map fd))⟩ := walkSq_lst ((Gr.app h _).at g)
  simp only [f__law_rising, dropB, headB, forBody, List.map_nil] at e
  rw [call_eq hR rfl]
  simp [f__law_rising, start, List.replicate_succ, w]
  simp [e]
/-! ### the places -/
theorem inSeq_fd (h : Hs) (u : Int × Int) : ∀ V : List (Int × Int), ∃ b, inSeq h (fd u) (V.map fd) = some b
  | [] => ⟨false, by simp [inSeq, fd, rsv, rsF, rsFs]⟩
  | v :: V => by
    obtain ⟨b, e⟩ := inSeq_fd h u V
    have q : ∃ a, eqv h (fd v) (fd u) = some a := by
      simp only [eqv, rsv, fd, rsF, rsFs, Option.map_some]
      exact ⟨_, if_pos (by simp [ddep, ddeps])⟩
    obtain ⟨a, q⟩ := q
    exact ⟨a || b, by simp [inSeq, e, q]⟩
theorem fd_list (f : D → D) (P : Int × Int → Prop) : ∀ l : List D, (∀ d ∈ l, ∃ u, f d = fd u ∧ P u) → ∃ U : List (Int × Int), l.map f = U.map fd ∧ (∀ u ∈ U, P u) ∧ U.length = l.length
  | [], _ => ⟨[], rfl, by simp, rfl⟩
  | d :: l, h => by
    obtain ⟨U, e, p, n⟩ := fd_list f P l fun x hx => h x (List.mem_cons_of_mem _ hx)
    obtain ⟨u, e1, p1⟩ := h d List.mem_cons_self
    refine ⟨u :: U, by simp [e, e1], fun v hv => ?_, by simp [n]⟩
    rcases List.mem_cons.mp hv with rfl | hv
    · exact p1
    · exact p v hv
def fstD : D → D
  | .tup (e :: _) => e
  | _ => .non
theorem extend_lst {h : Hs} {n m : Nat} {xs ys : List D} (q : h[n]? = some (.lst xs)) (r : h[m]? = some (.lst ys)) (l : xs.length + ys.length ≤ SZ) : Bm.run .extend (.ref n) [.ref m] h = .ok .non (h.set n (.lst (xs ++ ys))) := by
  simp only [Bm.run, q, r]
  rw [if_pos l]
def spB1 : Bl := forBody (headB (dropB 1 f__law_spots.body))
theorem spots_ends {C : Cl} (h : Hs) (ok : Hs → Prop) (hok : ∀ G, ok (h ++ G)) (v0 : Option D) : ∀ (r : List (List St)) (U : List (Int × Int)) (G : Hs) (v2 : Option D), (∀ L ∈ r, L.length ≤ 1000 ∧ ∀ x ∈ L, Pf 900 (x.p, x.q)) → (∀ u ∈ U, Pf 900 u) → U.length + 1000 * r.length ≤ 4500 →
    ∃ (U' : List (Int × Int)) (G' : Hs) (v2' : Option D), (∀ u ∈ U', Pf 900 u) ∧ U'.length ≤ U.length + 1000 * r.length ∧
      forE C (.one 2) spB1 ok (r.map fun L => D.tup (L.map St.d)) [v0, some (.ref h.length), v2, none, none, none, none, none] (h ++ .lst (U.map fd) :: G) =
        .nx [v0, some (.ref h.length), v2', none, none, none, none, none] (h ++ .lst (U'.map fd) :: G')
  | [], U, G, v2, _, hU, _ => ⟨U, G, v2, hU, by simp, forE_nil (hok _)⟩
  | L :: r, U, G, v2, hL, hU, hl => by
    simp only [List.length_cons] at hl
    obtain ⟨lL, pL⟩ := hL L List.mem_cons_self
    generalize hh : h ++ O.lst (U.map fd) :: G = h1
    have g1 : h1[h.length]? = some (.lst (U.map fd)) := by rw [← hh]; exact get_mid h G _
    have isn : ∀ d ∈ L.map St.d, ∃ b, isIn h1 (fstD d) (.ref h.length) = some b := fun d hd => by
      obtain ⟨x, hx, rfl⟩ := List.mem_map.mp hd
      obtain ⟨b, e⟩ := inSeq_fd h1 (x.p, x.q) U
      exact ⟨b, by simp only [isIn, g1]; exact e⟩
    have cm := kComp_filter (C := C) (s := [v0, some (.ref h.length), some (.tup (L.map St.d)), none, none, none, none, none]) (h := h1) (e := .sub (.v 4) (.k (.int 0))) (q := .cmp .notin (.sub (.v 4) (.k (.int 0))) (.v 1)) (tg := .one 4) (own := [4])
      (w := ⟨L.map St.d, fun _ => True⟩) fstD (fun d => !(isIn h1 (fstD d) (.ref h.length)).getD false) trivial
      (fun d hd => by
        obtain ⟨b, eb⟩ := isn d hd
        obtain ⟨x, hx, rfl⟩ := List.mem_map.mp hd
        have ef : fstD x.d = .tup [.int x.p, .int x.q] := rfl
        rw [ef] at eb ⊢
        have e0 : ∀ s : Ev, getL s 4 = some x.d → evE C (.sub (.v 4) (.k (.int 0))) s h1 = .ok (.tup [.int x.p, .int x.q]) h1 := fun s hs => by simp [hs, getI_d1]
        refine ⟨_, rfl, ?_, fun _ => ?_⟩
        · rw [evT_eq, evE_cmp, e0 _ rfl]
          simp [wipe, Cop.run, eb]
        · exact e0 _ rfl) (by simp [SZ]; omega)
    obtain ⟨U2, e2, p2, l2⟩ := fd_list fstD (Pf 900) ((L.map St.d).filter fun d => !(isIn h1 (fstD d) (.ref h.length)).getD false) (fun d hd => by
      obtain ⟨x, hx, rfl⟩ := List.mem_map.mp (List.mem_filter.mp hd).1
      exact ⟨(x.p, x.q), rfl, pL x hx⟩)
    rw [e2] at cm
    have lU2 : U2.length ≤ 1000 := by
      rw [l2]
      exact Nat.le_trans (List.length_filter_le _ _) (by simpa using lL)
    have g2 : (h1 ++ [O.lst (U2.map fd)])[h.length]? = some (.lst (U.map fd)) := (Gr.app h1 _).at g1
    have ex := extend_lst g2 (show (h1 ++ [O.lst (U2.map fd)])[h1.length]? = some (O.lst (U2.map fd)) from List.getElem?_concat_length) (by simp [SZ]; omega)
    have bk : bmK .extend (.ref h.length) h1 = true := bmK_lst (xs := U.map fd) .extend g1
    obtain ⟨U', G', v2', q1, q2, e'⟩ := spots_ends (C := C) h ok hok v0 r (U ++ U2) (G ++ [O.lst (U2.map fd)]) (some (.tup (L.map St.d))) (fun M hM => hL M (List.mem_cons_of_mem _ hM)) (fun u hu => by
      rcases List.mem_append.mp hu with hu | hu
      · exact hU u hu
      · exact p2 u hu) (by simp; omega)
    refine ⟨U', G', v2', q1, by simp at q2 ⊢; omega, ?_⟩
    have es : (h1 ++ [O.lst (U2.map fd)]).set h.length (.lst (U.map fd ++ U2.map fd)) = h ++ .lst ((U ++ U2).map fd) :: (G ++ [O.lst (U2.map fd)]) := by
      rw [← hh]; simp
    rw [es] at ex
    have ok1 : ok h1 := by rw [← hh]; exact hok _
    generalize h ++ .lst ((U ++ U2).map fd) :: (G ++ [O.lst (U2.map fd)]) = h3 at *
    simp only [List.map_cons]
    have tn : exB C spB1 [v0, some (.ref h.length), some (.tup (L.map St.d)), none, none, none, none, none] h1 = .nx [v0, some (.ref h.length), some (.tup (L.map St.d)), none, none, none, none, none] h3 := by
      generalize L.map St.d = LD at *
      generalize U2.map fd = UD at *
      simp only [spB1, f__law_spots, dropB, headB, forBody]
      rw [exB_cons, exS_ex, evE_bm, evE_v, getL_succ, getL_zero, kVar_some, kBm1_ok, bk, kBm2_t, evs_cons, evE_comp, walk_sq, evE_v, getL_succ, getL_succ, getL_zero, kVar_some, kSq_ok, walkSq_tup, kWalk_some, cm, kCons1_ok, evs_nil, kCons2_ok, kBm3_ok, ex, kEx_ok, kThen_nx, exB_nil]
    rw [forE_nx ok1 rfl tn]
    exact e'
end Q

/-! the places between; all places -/
namespace Q
def mp (u w : Int × Int) (c : Int) : Int × Int := (low1 (u.1 * w.2 * (4 - c) + w.1 * u.2 * c) (4 * u.2 * w.2), low2 (u.1 * w.2 * (4 - c) + w.1 * u.2 * c) (4 * u.2 * w.2))
theorem mp_pf {u w : Int × Int} (hu : Pf 900 u) (hw : Pf 900 w) {c : Int} (hc : c = 1 ∨ c = 2 ∨ c = 3) : Pf 1900 (mp u w c) ∧ 4 * u.2 * w.2 ≠ 0 ∧ Bd 8000 (4 * u.2 * w.2) := by
  obtain ⟨⟨b1, a1, l1⟩, p1, q1⟩ := hu
  obtain ⟨⟨b2, a2, l2⟩, p2, q2⟩ := hw
  have y0 : 0 < u.2 * w.2 := Int.mul_pos b1 b2
  have x1 : 0 ≤ u.1 * w.2 := Int.mul_nonneg a1 (by omega)
  have x2 : 0 ≤ w.1 * u.2 := Int.mul_nonneg a2 (by omega)
  have x3 : u.1 * w.2 ≤ u.2 * w.2 := Int.mul_le_mul_of_nonneg_right l1 (by omega)
  have x4 : w.1 * u.2 ≤ u.2 * w.2 := by rw [Int.mul_comm u.2]; exact Int.mul_le_mul_of_nonneg_right l2 (by omega)
  have e4 : 4 * u.2 * w.2 = 4 * (u.2 * w.2) := Int.mul_assoc ..
  have bY : Bd 1900 (4 * u.2 * w.2) := by rw [e4]; exact ((show Bd 3 4 from Bd.of (by decide)).mul (q1.mul q2)).mono (by decide)
  have b4 : Bd 3 (4 - c) := Bd.of (by omega)
  have bc : Bd 3 c := Bd.of (by omega)
  have bT : Bd 1900 (u.1 * w.2 * (4 - c) + w.1 * u.2 * c) := (((p1.mul q2).mul b4).add ((p2.mul q1).mul bc)).mono (by decide)
  refine ⟨low_pf (by omega) ?_ ?_ bT bY, by omega, bY.mono (by decide)⟩
  · generalize u.1 * w.2 = X at *
    generalize w.1 * u.2 = Z at *
    rcases hc with rfl | rfl | rfl <;> omega
  · rw [e4]
    generalize u.1 * w.2 = X at *
    generalize w.1 * u.2 = Z at *
    generalize u.2 * w.2 = Y at *
    rcases hc with rfl | rfl | rfl <;> omega
def spB2 : Bl := forBody (headB (dropB 4 f__law_spots.body))
def spB3 : Bl := forBody (headB spB2)
theorem mid_turn {T : Tab} (hL : T.fn "_law_lowest" = some f__law_lowest_v2) (hD : T.fn "_law_divisor" = some f__law_divisor) (k : Nat) (h G : Hs) {W : List (Int × Int)} (hl : W.length ≤ 100000) {u w : Int × Int} (hu : Pf 900 u) (hw : Pf 900 w) {c : Int} (hc : c = 1 ∨ c = 2 ∨ c = 3) (s0 s1 s2 s7 : Option D) :
    exB ⟨T, call T (k + 2)⟩ spB3 [s0, s1, s2, some (.ref h.length), some (fd u), some (fd w), some (.int c), s7] (h ++ .lst (W.map fd) :: G) =
      .nx [s0, s1, s2, some (.ref h.length), some (fd u), some (fd w), some (.int c), some (.int (u.1 * w.2 * (4 - c) + w.1 * u.2 * c))] (h ++ .lst ((W ++ [mp u w c]).map fd) :: G) := by
  obtain ⟨pf, nz, bz⟩ := mp_pf hu hw hc
  obtain ⟨_, p1, q1⟩ := hu
  obtain ⟨_, p2, q2⟩ := hw
  have lo := lowest2_ok hL hD k (h ++ .lst (W.map fd) :: G) (u.1 * w.2 * (4 - c) + w.1 * u.2 * c) (4 * u.2 * w.2) nz bz
  have m1 := p1.mulB (by decide)
  have m2 := p2.mulB (by decide)
  have m3 := q1.mulB (by decide)
  have m4 := q2.mulB (by decide)
  have m5 : mulB (u.1 * w.2) := (p1.mul q2).mulB (by decide)
  have m6 : mulB (w.1 * u.2) := (p2.mul q1).mulB (by decide)
  have m7 : mulB (4 - c) := (show Bd 3 (4 - c) from Bd.of (by omega)).mulB (by decide)
  have m8 : mulB c := (show Bd 3 c from Bd.of (by omega)).mulB (by decide)
  have m9 : mulB (4 * u.2) := ((show Bd 3 4 from Bd.of (by decide)).mul q1).mulB (by decide)
  have m4' : mulB 4 := by decide
  have bk : bmK .append (.ref h.length) (h ++ .lst (W.map fd) :: G) = true := bmK_lst (xs := W.map fd) .append (get_mid h G _)
  have ap : Bm.run .append (.ref h.length) [fd (mp u w c)] (h ++ .lst (W.map fd) :: G) = .ok .non (h ++ .lst ((W ++ [mp u w c]).map fd) :: G) := by
    rw [append_lst (xs := W.map fd) (get_mid h G _) (by simp [SZ]; omega), set_mid]
    simp
  have ed : lowD (u.1 * w.2 * (4 - c) + w.1 * u.2 * c) (4 * u.2 * w.2) = fd (mp u w c) := rfl
  rw [ed] at lo
  generalize mp u w c = z at *
  generalize (h ++ .lst ((W ++ [z]).map fd) :: G) = h2 at *
  generalize (h ++ .lst (W.map fd) :: G) = h1 at *
  simp only [spB3, spB2, f__law_spots, dropB, headB, forBody]
  simp [getI_f0, getI_f1, run_mul, m1, m2, m3, m4, m5, m6, m7, m8, m9, m4', bk, lo, ap]
theorem pair_turn {T : Tab} (hL : T.fn "_law_lowest" = some f__law_lowest_v2) (hD : T.fn "_law_divisor" = some f__law_divisor) (k : Nat) (h G : Hs) {W : List (Int × Int)} (hl : W.length ≤ 90000) {u w : Int × Int} (hu : Pf 900 u) (hw : Pf 900 w) (s0 s1 s2 s6 s7 : Option D) :
    ∃ t6 t7, exB ⟨T, call T (k + 2)⟩ spB2 [s0, s1, s2, some (.ref h.length), some (fd u), some (fd w), s6, s7] (h ++ .lst (W.map fd) :: G) =
      .nx [s0, s1, s2, some (.ref h.length), some (fd u), some (fd w), t6, t7] (h ++ .lst ((W ++ [mp u w 1, mp u w 2, mp u w 3]).map fd) :: G) := by
  have t1 := mid_turn hL hD k h G (W := W) (by omega) hu hw (.inl rfl) s0 s1 s2 s7
  have t2 := mid_turn hL hD k h G (W := W ++ [mp u w 1]) (by simp; omega) hu hw (.inr (.inl rfl)) s0 s1 s2 (some (.int (u.1 * w.2 * (4 - 1) + w.1 * u.2 * 1)))
  have t3 := mid_turn hL hD k h G (W := W ++ [mp u w 1] ++ [mp u w 2]) (by simp; omega) hu hw (.inr (.inr rfl)) s0 s1 s2 (some (.int (u.1 * w.2 * (4 - 2) + w.1 * u.2 * 2)))
  refine ⟨some (.int 3), some (.int (u.1 * w.2 * (4 - 3) + w.1 * u.2 * 3)), ?_⟩
  have e3 : W ++ [mp u w 1] ++ [mp u w 2] ++ [mp u w 3] = W ++ [mp u w 1, mp u w 2, mp u w 3] := by simp
  rw [e3] at t3
  have fe : forE ⟨T, call T (k + 2)⟩ (.one 6) spB3 (fun _ => True) [.int 1, .int 2, .int 3] [s0, s1, s2, some (.ref h.length), some (fd u), some (fd w), s6, s7] (h ++ .lst (W.map fd) :: G) =
      .nx [s0, s1, s2, some (.ref h.length), some (fd u), some (fd w), some (.int 3), some (.int (u.1 * w.2 * (4 - 3) + w.1 * u.2 * 3))] (h ++ .lst ((W ++ [mp u w 1, mp u w 2, mp u w 3]).map fd) :: G) := by
    refine Eq.trans (forE_nx trivial rfl t1) ?_
    refine Eq.trans (forE_nx trivial rfl t2) ?_
    refine Eq.trans (forE_nx trivial rfl t3) ?_
    exact forE_nil trivial
  generalize (h ++ .lst ((W ++ [mp u w 1, mp u w 2, mp u w 3]).map fd) :: G) = h2 at *
  generalize (h ++ .lst (W.map fd) :: G) = h1 at *
  generalize (u.1 * w.2 * (4 - 3) + w.1 * u.2 * 3) = zz at *
  simp only [spB3, spB2, f__law_spots, dropB, headB, forBody] at fe ⊢
  simp [fe]
theorem zipL_mem : ∀ (xs ys : List D) (d : D), d ∈ zipL xs ys → ∃ x y, x ∈ xs ∧ y ∈ ys ∧ d = .tup [x, y]
  | [], _, d, h => by simp [zipL] at h
  | _ :: _, [], d, h => by simp [zipL] at h
  | x :: xs, y :: ys, d, h => by
    simp only [zipL, List.mem_cons] at h
    rcases h with rfl | h
    · exact ⟨x, y, List.mem_cons_self, List.mem_cons_self, rfl⟩
    · obtain ⟨a, b, h1, h2, h3⟩ := zipL_mem xs ys d h
      exact ⟨a, b, List.mem_cons_of_mem _ h1, List.mem_cons_of_mem _ h2, h3⟩
theorem zipL_le : ∀ (xs ys : List D), (zipL xs ys).length ≤ xs.length
  | [], _ => by simp [zipL]
  | _ :: _, [] => by simp [zipL]
  | x :: xs, y :: ys => by
    simp only [zipL, List.length_cons]
    have := zipL_le xs ys
    omega
theorem slc_one {h : Hs} {n : Nat} {xs : List D} (g : h[n]? = some (.lst xs)) : slice (.ref n) (some 1) none h = .ok (.ref h.length) (h ++ [.lst (xs.drop 1)]) := by
  have e : cut xs (some 1) none = xs.drop 1 := by
    cases xs with
    | nil => rfl
    | cons x r =>
      simp [cut, sIx]
  simp only [slice, g, e]
structure KSp (T : Tab) : Prop where
  lowest : T.fn "_law_lowest" = some f__law_lowest_v2
  divisor : T.fn "_law_divisor" = some f__law_divisor
  rising : T.fn "_law_rising" = some f__law_rising
  spots : T.fn "_law_spots" = some f__law_spots
theorem spots_ok {T : Tab} (K : KSp T) (k : Nat) {h : Hs} {n : Nat} {Ls : List (List St)} (g : h[n]? = some (.lst (Ls.map fun L => D.tup (L.map St.d)))) (hL : ∀ L ∈ Ls, L.length ≤ 1000 ∧ ∀ x ∈ L, Pf 900 (x.p, x.q)) (hl : Ls.length ≤ 4) :
    ∃ (W : List (Int × Int)) (m : Nat) (G : Hs), call T (k + 3) "_law_spots" [.ref n] h = .ok (.ref m) (h ++ G) ∧ (h ++ G)[m]? = some (.lst (W.map fd)) ∧ ∀ w ∈ W, Pf 1900 w := by
  have w0 : ∀ G, walkSq (h ++ G) (.ref n) = some ⟨Ls.map fun L => D.tup (L.map St.d), fun z => z[n]? = some (.lst (Ls.map fun L => D.tup (L.map St.d)))⟩ := fun G => walkSq_lst ((Gr.app h G).at g)
  obtain ⟨U, G, v2, hU, lU, e1⟩ := spots_ends (C := ⟨T, call T (k + 2)⟩) h (fun z => z[n]? = some (.lst (Ls.map fun L => D.tup (L.map St.d)))) (fun G => (Gr.app h G).at g) (some (.ref n)) Ls [(0, 1)] [] none hL (fun u hu => by
    rw [List.mem_singleton.mp hu]
    exact ⟨by decide, (show Bd 1 0 from Bd.of (by decide)).mono (by decide), (show Bd 2 1 from Bd.of (by decide)).mono (by decide)⟩) (by simp; omega)
  simp only [List.length_singleton] at lU
  generalize hh1 : h ++ O.lst (U.map fd) :: G = h1 at e1
  have gr1 : Gr h h1 := by rw [← hh1]; exact ⟨_, rfl⟩
  have g1 : h1[h.length]? = some (.lst (U.map fd)) := by rw [← hh1]; exact get_mid h G _
  obtain ⟨V, e2, lV, hV⟩ := rising_ok K.rising (k + 1) g1 (P := Pf 900) (fun u hu => hu.mono (by decide)) hU (by omega)
  have g2 : (h1 ++ [O.lst (V.map fd)])[h1.length]? = some (.lst (V.map fd)) := List.getElem?_concat_length
  have e3 := list_lst g2
  generalize hh2 : h1 ++ [O.lst (V.map fd)] = h2 at *
  have gr2 : Gr h1 h2 := by rw [← hh2]; exact Gr.app _ _
  have l12 : h1.length < h2.length := by rw [← hh2]; simp
  have g3 := (Gr.app h2 [O.lst (V.map fd)]).at g2
  have e4 := slc_one g3
  have g4 : (h2 ++ [O.lst (V.map fd)] ++ [O.lst ((V.map fd).drop 1)])[h1.length]? = some (.lst (V.map fd)) := (Gr.app _ _).at g3
  have g5 : (h2 ++ [O.lst (V.map fd)] ++ [O.lst ((V.map fd).drop 1)])[(h2 ++ [O.lst (V.map fd)]).length]? = some (.lst ((V.map fd).drop 1)) := List.getElem?_concat_length
  have ez : zipOf (h2 ++ [O.lst (V.map fd)] ++ [O.lst ((V.map fd).drop 1)]) (.ref h1.length) (.ref (h2 ++ [O.lst (V.map fd)]).length) = some ⟨zipL (V.map fd) ((V.map fd).drop 1), fun z => z[h1.length]? = some (.lst (V.map fd)) ∧ z[(h2 ++ [O.lst (V.map fd)]).length]? = some (.lst ((V.map fd).drop 1))⟩ := by
    simp only [zipOf, walkSq_lst g4, walkSq_lst g5]
  have lz := zipL_le (V.map fd) ((V.map fd).drop 1)
  rw [List.length_map] at lz
  have eH : ∀ W : List (Int × Int), h2 ++ [O.lst (W.map fd)] ++ [O.lst ((V.map fd).drop 1)] = h2 ++ O.lst (W.map fd) :: [O.lst ((V.map fd).drop 1)] := fun W => by simp
  rw [eH] at ez
  obtain ⟨s', h', e5, W, v4, v5, v6, v7, rfl, rfl, hW, lW⟩ := forE_ix (C := ⟨T, call T (k + 2)⟩) (tg := .many [4, 5]) (a := spB2) (ok := fun z => z[h1.length]? = some (.lst (V.map fd)) ∧ z[(h2 ++ [O.lst (V.map fd)]).length]? = some (.lst ((V.map fd).drop 1)))
    (fun i σ z => ∃ (W : List (Int × Int)) (v4 v5 v6 v7 : Option D), σ = [some (.ref n), some (.ref h1.length), v2, some (.ref h2.length), v4, v5, v6, v7] ∧ z = h2 ++ O.lst (W.map fd) :: [O.lst ((V.map fd).drop 1)] ∧ (∀ w ∈ W, Pf 1900 w) ∧ W.length ≤ 5000 + 3 * i)
    (fun i σ z ⟨W, _, _, _, _, _, ez, _, _⟩ => by
      subst ez
      refine ⟨(Gr.app h2 _).at g2, ?_⟩
      rw [List.length_append, List.length_singleton, List.getElem?_append_right (by omega)]
      simp)
    (ds := zipL (V.map fd) ((V.map fd).drop 1)) (n := 0) (s := [some (.ref n), some (.ref h1.length), v2, some (.ref h2.length), none, none, none, none]) (h := h2 ++ O.lst (V.map fd) :: [O.lst ((V.map fd).drop 1)])
    (fun i d hd σ z ⟨W, v4, v5, v6, v7, es, ez, hW, lW⟩ => by
      subst es ez
      have hi : i < (zipL (V.map fd) ((V.map fd).drop 1)).length := (List.getElem?_eq_some_iff.mp hd).1
      obtain ⟨x, y, hx, hy, rfl⟩ := zipL_mem _ _ d (List.mem_of_getElem? hd)
      obtain ⟨u, hu, rfl⟩ := List.mem_map.mp hx
      obtain ⟨w, hw, rfl⟩ := List.mem_map.mp (List.mem_of_mem_drop hy)
      obtain ⟨t6, t7, et⟩ := pair_turn K.lowest K.divisor k h2 [O.lst ((V.map fd).drop 1)] (W := W) (by omega) (hV u hu) (hV w hw) (some (.ref n)) (some (.ref h1.length)) v2 v6 v7
      refine ⟨_, _, _, asg_two .., .inl et, _, _, _, _, _, rfl, rfl, fun z hz => ?_, by simp; omega⟩
      rcases List.mem_append.mp hz with hz | hz
      · exact hW z hz
      · simp only [List.mem_cons, List.not_mem_nil, or_false] at hz
        rcases hz with rfl | rfl | rfl
        · exact (mp_pf (hV u hu) (hV w hw) (.inl rfl)).1
        · exact (mp_pf (hV u hu) (hV w hw) (.inr (.inl rfl))).1
        · exact (mp_pf (hV u hu) (hV w hw) (.inr (.inr rfl))).1)
    ⟨V, none, none, none, none, rfl, rfl, fun w hw => (hV w hw).mono (by decide), by omega⟩
  obtain ⟨Gx, eGx⟩ := gr1.trans (gr2.trans (Gr.app h2 (O.lst (W.map fd) :: [O.lst ((V.map fd).drop 1)])))
  refine ⟨W, h2.length, Gx, ?_, by rw [← eGx]; exact get_mid h2 _ _, hW⟩
  rw [← eGx]
  have w00 := w0 [O.lst [fd (0, 1)]]
  have i0 : [fd (0, 1)] = [(0, 1)].map fd := rfl
  have d0 : (D.tup [.int 0, .int 1]) = fd (0, 1) := rfl
  rw [call_eq K.spots rfl]
  show SR.fin (exB ⟨T, call T (k + 2)⟩ f__law_spots.body [some (.ref n), none, none, none, none, none, none, none] h) = _
  have lst0 : evE ⟨T, call T (k + 2)⟩ (.lst (.cons (.tup (.cons (.k (.int 0)) (.cons (.k (.int 1)) .nil))) .nil)) [some (.ref n), none, none, none, none, none, none, none] h = .ok (.ref h.length) (h ++ [O.lst ([(0, 1)].map fd)]) := by simp [fd]
  simp only [spB1, spB2, f__law_spots, dropB, headB, forBody] at e1 e5 ⊢
  rw [exB_cons, exS_set, lst0, kSet_ok, kThen_nx, exB_cons, exS_for, walk_sq, evE_v]
  simp only [List.set_cons_succ, List.set_cons_zero, getL_zero, kVar_some, kSq_ok, w0, kWalk_some, kFor_ok, e1, kThen_nx]
  rw [exB_cons, exS_set, evE_call, evs_cons, evE_v]
  simp only [getL_succ, getL_zero, kVar_some, kCons1_ok, evs_nil, kCons2_ok, kCall_ok, e2, kSet_ok, kThen_nx, List.set_cons_succ, List.set_cons_zero]
  rw [exB_cons, exS_set, evE_b, evs_cons, evE_v]
  simp only [getL_succ, getL_zero, kVar_some, kCons1_ok, evs_nil, kCons2_ok, kB_ok, e3, kSet_ok, kThen_nx, List.set_cons_succ, List.set_cons_zero]
  rw [exB_cons, exS_for, walk_zip, evE_v]
  simp only [getL_succ, getL_zero, kVar_some, kZip1_ok, evE_slc, evE_v, kSlc1_ok, evO_some, evE_k, kOptI_ok, kSlc2_ok, evO_none, kSlc3_ok, e4, kZip2_ok, eH, ez, kWalk_some, kFor_ok, e5, kThen_nx]
  simp
end Q

/-! lines looked at, place by place -/
namespace Q
theorem hv_bd : ∀ {L : List St} {a b : Int}, (∀ x ∈ L, Bx 1000 2000 x) → Bd 2000 a → Bd 2000 b → Bd 5000 (hv L a b)
  | [], _, _, _, _, _ => (show Bd 1 0 from Bd.of (by decide)).mono (by decide)
  | x :: r, a, b, h, ba, bb => by
    unfold hv
    split
    · exact hv_bd (fun y hy => h y (List.mem_cons_of_mem _ hy)) ba bb
    · obtain ⟨_, _, b3, b4⟩ := h x List.mem_cons_self
      exact ((b3.mul ba).add (b4.mul bb)).mono (by decide)
/-- a line with bounds -/
structure Lin (n m : Nat) (L : List St) : Prop where
  cn : Cn' 0 1 L
  df : Df L
  bx : ∀ x ∈ L, Bx n m x
  len : L.length ≤ 800
theorem Lin.ne {n m : Nat} {L : List St} (l : Lin n m L) : L ≠ [] := fun e => by
  have := l.cn
  rw [e] at this
  exact absurd this.1 (by decide)
theorem Lin.pos {n m : Nat} {L : List St} (l : Lin n m L) : 0 < L.length := List.length_pos_iff.mpr l.ne
theorem Lin.mono {n m n' m' : Nat} {L : List St} (l : Lin n m L) (h : n ≤ n') (h' : m ≤ m') : Lin n' m' L := ⟨l.cn, l.df, fun x hx => (l.bx x hx).mono h h', l.len⟩
theorem Lin.pf {n m : Nat} {L : List St} (l : Lin n m L) : ∀ x ∈ L, Pf n (x.p, x.q) := fun x hx => by
  obtain ⟨⟨a, b, c⟩, _⟩ := l.cn.gq x hx
  exact ⟨⟨b, a, c⟩, (l.bx x hx).1, (l.bx x hx).2.1⟩
/-- heights summed with signs -/
def sgs : List (List St) → List Int → Int → Int → Int
  | L :: Ls, s :: ss, a, b => s * hv L a b + sgs Ls ss a b
  | _, _, _, _ => 0
structure KAs (T : Tab) : Prop where
  is_ : KIs T
  sp : KSp T
  height : T.fn "_law_height" = some f__law_height
def asB : Bl := forBody (headB (dropB 1 f__law_as.body))
def asB2 : Bl := forBody (headB (dropB 2 asB))
theorem as_inner {T : Tab} (K : KAs T) (k : Nat) (h : Hs) (ok : Hs → Prop) (hok : ok h) {u : Int × Int} (hu : Pf 1900 u) (s0 s1 s2 s3 s5 : Option D) : ∀ (Ls : List (List St)) (ss : List Int) (v : Int) (s7 s8 : Option D), (∀ L ∈ Ls, Lin 800 2000 L) → (∀ s ∈ ss, Bd 10 s) → ∃ t7 t8,
    forE ⟨T, call T (k + 1)⟩ (.many [7, 8]) asB2 ok (zipL (Ls.map fun L => D.tup (L.map St.d)) (ss.map .int)) [s0, s1, s2, s3, some (fd u), s5, some (.int v), s7, s8] h =
      .nx [s0, s1, s2, s3, some (fd u), s5, some (.int (v + sgs Ls ss u.1 u.2)), t7, t8] h
  | [], ss, v, s7, s8, _, _ => ⟨s7, s8, by simp only [List.map_nil, zipL, sgs, Int.add_zero]; exact forE_nil hok⟩
  | L :: Ls, [], v, s7, s8, _, _ => ⟨s7, s8, by simp only [List.map_nil, List.map_cons, zipL, sgs, Int.add_zero]; exact forE_nil hok⟩
  | L :: Ls, s :: ss, v, s7, s8, hL, hs => by
    obtain ⟨t7, t8, e⟩ := as_inner K k h ok hok hu s0 s1 s2 s3 s5 Ls ss (v + s * hv L u.1 u.2) (some (.tup (L.map St.d))) (some (.int s)) (fun M hM => hL M (List.mem_cons_of_mem _ hM)) (fun z hz => hs z (List.mem_cons_of_mem _ hz))
    refine ⟨t7, t8, ?_⟩
    have l := hL L List.mem_cons_self
    have bx : ∀ x ∈ L, Bx 1000 2000 x := fun x hx => (l.bx x hx).mono (by decide) (Nat.le_refl _)
    have he := lheight2_ok K.height k h l.cn l.ne bx hu.1.2.2 (hu.2.1.mono (by decide)) (hu.2.2.mono (by decide))
    have m1 := (hs s List.mem_cons_self).mulB (by decide)
    have m2 := (hv_bd bx (hu.2.1.mono (by decide)) (hu.2.2.mono (by decide))).mulB (by decide)
    have ef : D.tup [.int u.1, .int u.2] = fd u := rfl
    rw [ef] at he
    simp only [List.map_cons, zipL, sgs]
    generalize hv L u.1 u.2 = x at *
    rw [← Int.add_assoc]
    refine Eq.trans (forE_nx (s2 := [s0, s1, s2, s3, some (fd u), s5, some (.int v), some (.tup (L.map St.d)), some (.int s)]) (s3 := [s0, s1, s2, s3, some (fd u), s5, some (.int (v + s * x)), some (.tup (L.map St.d)), some (.int s)]) (h3 := h) hok (by rfl) ?_) e
    generalize L.map St.d = LD at *
    simp [asB2, asB, f__law_as, dropB, headB, forBody, he, run_mul, m1, m2]
theorem as_ok {T : Tab} (K : KAs T) (hA : T.fn "_law_as" = some f__law_as) (k : Nat) {h : Hs} {n1 n2 : Nat} {F : List St} {Ls : List (List St)} {ss : List Int} {b : Int} (hF : Lin 300 1000 F) (hL : ∀ L ∈ Ls, Lin 300 1000 L) (hs : ∀ s ∈ ss, Bd 10 s) (bb : Bd 1000 b) (lL : Ls.length ≤ 3)
    (g1 : h[n1]? = some (.lst (Ls.map fun L => D.tup (L.map St.d)))) (g2 : h[n2]? = some (.lst (ss.map .int))) (e : ∀ a c : Int, 0 < c → 0 ≤ a → a ≤ c → hv F a c = b * c + sgs Ls ss a c) :
    ∃ G, call T (k + 4) "_law_as" [.tup (F.map St.d), .ref n1, .ref n2, .int b] h = .ok (.bl true) (h ++ G) := by
  obtain ⟨o, e1⟩ := isline_ok K.is_ k h (hF.cn.ch hF.bx) hF.df hF.pos (by have := hF.len; omega)
  generalize hh1 : h ++ [o] = h1 at e1
  have gr1 : Gr h h1 := by rw [← hh1]; exact Gr.app _ _
  have i1 := gr1.at g1
  have i2 := gr1.at g2
  have ad := add_lsts (h := h1 ++ [O.lst [.tup (F.map St.d)]]) (n := h1.length) (m := n1) (xs := [.tup (F.map St.d)]) (ys := Ls.map fun L => D.tup (L.map St.d)) (by simp) ((Gr.app h1 _).at i1) (by simp [SZ]; omega)
  have eF : [D.tup (F.map St.d)] ++ (Ls.map fun L => D.tup (L.map St.d)) = (F :: Ls).map fun L => D.tup (L.map St.d) := rfl
  rw [eF] at ad
  generalize hh2 : h1 ++ [O.lst [.tup (F.map St.d)]] ++ [O.lst ((F :: Ls).map fun L => D.tup (L.map St.d))] = h2 at ad
  have gr2 : Gr h1 h2 := by rw [← hh2]; exact ⟨[O.lst [.tup (F.map St.d)]] ++ [O.lst ((F :: Ls).map fun L => D.tup (L.map St.d))], by simp⟩
  have g3 : h2[(h1 ++ [O.lst [.tup (F.map St.d)]]).length]? = some (.lst ((F :: Ls).map fun L => D.tup (L.map St.d))) := by rw [← hh2]; exact List.getElem?_concat_length
  obtain ⟨W, m, G, e2, g4, hW⟩ := spots_ok K.sp k g3 (fun L hL' => by
    rcases List.mem_cons.mp hL' with rfl | hL'
    · exact ⟨by have := hF.len; omega, fun x hx => (hF.pf x hx).mono (by decide)⟩
    · exact ⟨by have := (hL L hL').len; omega, fun x hx => ((hL L hL').pf x hx).mono (by decide)⟩) (by simp only [List.length_cons]; omega)
  generalize hh3 : h2 ++ G = h3 at *
  have gr3 : Gr h2 h3 := by rw [← hh3]; exact Gr.app _ _
  have j1 := gr3.at (gr2.at i1)
  have j2 := gr3.at (gr2.at i2)
  have ez : zipOf h3 (.ref n1) (.ref n2) = some ⟨zipL (Ls.map fun L => D.tup (L.map St.d)) (ss.map .int), fun z => z[n1]? = some (.lst (Ls.map fun L => D.tup (L.map St.d))) ∧ z[n2]? = some (.lst (ss.map .int))⟩ := by
    simp only [zipOf, walkSq_lst j1, walkSq_lst j2]
  have w3 := walkSq_lst g4
  obtain ⟨s', h', e5, rfl, v4, v5, v6, v7, v8, rfl⟩ := forE_inv (C := ⟨T, call T (k + 3)⟩) (tg := .one 4) (a := asB) (ok := fun z => z[m]? = some (.lst (W.map fd)))
    (fun σ z => z = h3 ∧ ∃ v4 v5 v6 v7 v8, σ = [some (.tup (F.map St.d)), some (.ref n1), some (.ref n2), some (.int b), v4, v5, v6, v7, v8]) (fun σ z ⟨ez, _⟩ => by rw [ez]; exact g4)
    (ds := W.map fd) (s := [some (.tup (F.map St.d)), some (.ref n1), some (.ref n2), some (.int b), none, none, none, none, none]) (h := h3)
    (fun d hd σ z ⟨e0, v4, v5, v6, v7, v8, es⟩ => by
      obtain ⟨u, hu, rfl⟩ := List.mem_map.mp hd
      have pu := hW u hu
      subst es
      rw [e0]
      have bx : ∀ x ∈ F, Bx 1000 2000 x := fun x hx => (hF.bx x hx).mono (by decide) (by decide)
      have he := lheight2_ok K.height (k + 2) h3 hF.cn hF.ne bx pu.1.2.2 (pu.2.1.mono (by decide)) (pu.2.2.mono (by decide))
      have ef : D.tup [.int u.1, .int u.2] = fd u := rfl
      rw [ef] at he
      obtain ⟨t7, t8, ei⟩ := as_inner K (k + 2) h3 (fun z => z[n1]? = some (.lst (Ls.map fun L => D.tup (L.map St.d))) ∧ z[n2]? = some (.lst (ss.map .int))) ⟨j1, j2⟩ pu (some (.tup (F.map St.d))) (some (.ref n1)) (some (.ref n2)) (some (.int b)) (some (.tup [.int (hv F u.1 u.2), .int u.2])) Ls ss (b * u.2) v7 v8 (fun L hL' => (hL L hL').mono (by decide) (by decide)) hs
      have m1 := bb.mulB (by decide)
      have m2 := pu.2.2.mulB (by decide)
      have ev := e u.1 u.2 pu.1.1 pu.1.2.1 pu.1.2.2
      rw [← ev] at ei
      refine ⟨_, [some (.tup (F.map St.d)), some (.ref n1), some (.ref n2), some (.int b), some (fd u), some (.tup [.int (hv F u.1 u.2), .int u.2]), some (.int (hv F u.1 u.2)), t7, t8], h3, rfl, .inl ?_, rfl, _, _, _, _, _, rfl⟩
      generalize hv F u.1 u.2 = x at *
      generalize F.map St.d = FD at *
      generalize zipL (Ls.map fun L => D.tup (L.map St.d)) (ss.map .int) = Z at *
      simp only [asB2, asB, f__law_as, dropB, headB, forBody] at ei ⊢
      simp [he, getI_f1, run_mul, m1, m2, ez]
      simp [ei])
    ⟨rfl, _, _, _, _, _, rfl⟩
  obtain ⟨Gx, eGx⟩ := gr1.trans (gr2.trans gr3)
  refine ⟨Gx, ?_⟩
  rw [← eGx]
  generalize (F :: Ls).map (fun L => D.tup (L.map St.d)) = FL at *
  generalize F.map St.d = FD at *
  rw [call_eq hA rfl]
  show SR.fin (exB ⟨T, call T (k + 3)⟩ f__law_as.body [some (.tup FD), some (.ref n1), some (.ref n2), some (.int b), none, none, none, none, none] h) = _
  simp only [asB, f__law_as, dropB, headB, forBody] at e5 ⊢
  rw [exB_cons, exS_ite, evT_eq, evE_not, evE_call, evs_cons, evE_v]
  simp only [getL_zero, kVar_some, kCons1_ok, evs_nil, kCons2_ok, kCall_ok, e1, kNot_ok, tru_bl, kNot2_some, Bool.not_true, kTru_ok, kTru2_some, kIf_f, exB_nil, kThen_nx]
  rw [exB_cons, exS_for, walk_sq, evE_call, evs_cons, evE_bin, evE_lst, evs_cons, evE_v]
  simp only [getL_zero, getL_succ, kVar_some, kCons1_ok, evs_nil, kCons2_ok, kLst_ok, kBin1_ok, evE_v, kBin2_ok, ad, kCall_ok, e2, kSq_ok, w3, kWalk_some, kFor_ok, e5, kThen_nx]
  simp
end Q

/-! a line turned or raised; the sum of two -/
namespace Q
/-- the rule times a sign, raised -/
def gm (σ c : Int) (x : St) : St := ⟨x.p, x.q, σ * x.s, σ * x.t + c⟩
theorem tn_gm : tn = gm (-1) 0 := by funext x; simp [tn, gm]
theorem rs_gm (b : Int) : rs b = gm 1 b := by funext x; simp [rs, gm]
theorem jt_gm {σ c : Int} {x : St} {r : List St} (h : jt x r) : jt (gm σ c x) (r.map (gm σ c)) := by
  cases r with
  | nil => trivial
  | cons y r =>
    simp only [jt, gm, List.map_cons] at h ⊢
    have e1 : σ * y.s - σ * x.s = σ * (y.s - x.s) := (Int.mul_sub ..).symm
    have e2 : σ * y.t + c - (σ * x.t + c) = σ * (y.t - x.t) := by rw [Int.mul_sub]; omega
    rw [e1, e2, Int.mul_assoc, Int.mul_assoc, ← Int.mul_add, h, Int.mul_zero]
theorem cn_gm {σ c : Int} : ∀ {r : List St} {p q : Int}, Cn' p q r → Cn' p q (r.map (gm σ c))
  | [], _, _, h => h
  | x :: r, p, q, ⟨⟨h1, h2, h3, h4⟩, h⟩ => ⟨⟨h1, h2, h3, jt_gm h4⟩, cn_gm h⟩
theorem same_gm {σ c : Int} (hσ : σ ≠ 0) (x y : St) : same (gm σ c x) (gm σ c y) = same x y := by
  have e1 : (σ * x.s = σ * y.s) ↔ x.s = y.s := ⟨fun h => Int.eq_of_mul_eq_mul_left hσ h, fun h => by rw [h]⟩
  have e2 : (σ * x.t + c = σ * y.t + c) ↔ x.t = y.t := ⟨fun h => Int.eq_of_mul_eq_mul_left hσ (by omega), fun h => by rw [h]⟩
  simp only [same, gm, e1, e2]
theorem df_gm {σ c : Int} (hσ : σ ≠ 0) : ∀ {r : List St}, Df r → Df (r.map (gm σ c))
  | [], _ => trivial
  | x :: r, ⟨h, h2⟩ => by
    refine ⟨fun y r' e => ?_, df_gm hσ h2⟩
    cases r with
    | nil => cases e
    | cons z r =>
      simp only [List.map_cons, List.cons.injEq] at e
      rw [← e.1, same_gm hσ]
      exact h z r rfl
theorem hv_gm {σ c : Int} {a b : Int} (hab : a ≤ b) : ∀ {r : List St} {p q : Int}, Cn' p q r → r ≠ [] → hv (r.map (gm σ c)) a b = σ * hv r a b + c * b
  | [], _, _, _, h => absurd rfl h
  | [x], p, q, ⟨_, c1, c2⟩, _ => by
    have g : ¬ (x.p * b < a * x.q) := by rw [c1, c2]; omega
    rw [List.map_cons, hv_lo (x := gm σ c x) (show a * x.q ≤ x.p * b by omega), hv_lo (by omega)]
    simp only [vl, gm, Int.add_mul, Int.mul_add, Int.mul_assoc]
    omega
  | x :: y :: r, p, q, ⟨_, h⟩, _ => by
    by_cases g : x.p * b < a * x.q
    · rw [List.map_cons, hv_hi (x := gm σ c x) (show x.p * b < a * x.q from g), hv_hi g]
      exact hv_gm hab h (by simp)
    · rw [List.map_cons, hv_lo (x := gm σ c x) (show a * x.q ≤ x.p * b by omega), hv_lo (by omega)]
      simp only [vl, gm, Int.add_mul, Int.mul_add, Int.mul_assoc]
      omega
theorem Lin.gm {n m : Nat} {L : List St} (l : Lin n m L) {σ c : Int} (hσ : σ = 1 ∨ σ = -1) (hc : Bd m c) : Lin n (m + 1) (L.map (gm σ c)) := by
  refine ⟨cn_gm l.cn, df_gm (by omega) l.df, fun z hz => ?_, by rw [List.length_map]; exact l.len⟩
  obtain ⟨x, hx, rfl⟩ := List.mem_map.mp hz
  obtain ⟨b1, b2, b3, b4⟩ := l.bx x hx
  refine ⟨b1, b2, ?_, ?_⟩
  · show Bd (m + 1) (σ * x.s)
    rcases hσ with rfl | rfl
    · rw [Int.one_mul]; exact b3.mono (by omega)
    · rw [Int.neg_mul, Int.one_mul]; exact b3.neg.mono (by omega)
  · show Bd (m + 1) (σ * x.t + c)
    rcases hσ with rfl | rfl
    · rw [Int.one_mul]; exact (b4.add hc).mono (by omega)
    · rw [Int.neg_mul, Int.one_mul]; exact (b4.neg.add hc).mono (by omega)
/-- both heights together -/
def addL (L M : List St) : List St := jnr ((pcs L M).map sm)
theorem addL_lin {n m : Nat} {L M : List St} (l : Lin n m L) (k : Lin n m M) (h : L.length + M.length ≤ 800) : Lin n (m + 1) (addL L M) := by
  refine ⟨jnr_cn _ 0 1 (by decide) (sum_cn L M (by decide) l.cn k.cn), jnr_df _, fun x hx => sum_bx l.bx k.bx x (jnr_mem _ x hx), ?_⟩
  have h1 := jnr_len ((pcs L M).map sm)
  have h2 := (pcs_mem _ L M (Nat.le_refl _)).2
  rw [List.length_map] at h1
  unfold addL
  omega
theorem addL_hv {n m : Nat} {L M : List St} (l : Lin n m L) (k : Lin n m M) {a b : Int} (hb : 0 < b) (h0 : 0 ≤ a) (hab : a ≤ b) : hv (addL L M) a b = hv L a b + hv M a b := by
  unfold addL
  rw [jnr_hv hb _ 0 1 (sum_cn L M (by decide) l.cn k.cn), sum_hv hb hab L M (by decide) l.cn k.cn (by omega)]
/-- lines of like heights are one -/
theorem Lin.eq {n m n' m' : Nat} {L M : List St} (l : Lin n m L) (k : Lin n' m' M) (h : ∀ a b, 0 < b → 0 ≤ a → a ≤ b → hv L a b = hv M a b) : L = M :=
  line_unique L M 0 1 (by decide) l.cn k.cn l.df k.df fun a b hb h1 h2 => h a b hb (by omega) h2
theorem addL_comm {n m : Nat} {L M : List St} (l : Lin n m L) (k : Lin n m M) (h : L.length + M.length ≤ 800) : addL M L = addL L M :=
  (addL_lin k l (by omega)).eq (addL_lin l k h) fun a b hb h0 hab => by rw [addL_hv k l hb h0 hab, addL_hv l k hb h0 hab, Int.add_comm]
end Q

/-! the greater of two lines -/
namespace Q
def mx (a b : Int) : Int := if a < b then b else a
theorem mx_comm (a b : Int) : mx a b = mx b a := by unfold mx; split <;> split <;> omega
theorem mx_l {a b : Int} (h : b ≤ a) : mx a b = a := if_neg (by omega)
theorem mx_r {a b : Int} (h : a ≤ b) : mx a b = b := by rw [mx_comm]; exact mx_l h
/-- the stretches of the greater rule from p / q to the piece's end -/
def hg (p q : Int) (u : Pc) : List St :=
  if vl u.x p q < vl u.y p q ∧ vl u.y u.e u.f < vl u.x u.e u.f then [⟨low1 (u.y.t - u.x.t) (u.x.s - u.y.s), low2 (u.y.t - u.x.t) (u.x.s - u.y.s), u.y.s, u.y.t⟩, ⟨u.e, u.f, u.x.s, u.x.t⟩]
  else if vl u.x u.e u.f < vl u.y u.e u.f ∧ vl u.y p q < vl u.x p q then [⟨low1 (u.y.t - u.x.t) (u.x.s - u.y.s), low2 (u.y.t - u.x.t) (u.x.s - u.y.s), u.x.s, u.x.t⟩, ⟨u.e, u.f, u.y.s, u.y.t⟩]
  else if vl u.x p q < vl u.y p q ∨ vl u.x u.e u.f < vl u.y u.e u.f then [⟨u.e, u.f, u.y.s, u.y.t⟩] else [⟨u.e, u.f, u.x.s, u.x.t⟩]
def gr (p q : Int) : List Pc → List St
  | [] => []
  | u :: r => hg p q u ++ gr u.e u.f r
/-- a rule that is not below nought at both ends is not so between -/
theorem lin_between {S U p q e f a b : Int} (hq : 0 < q) (hf : 0 < f) (hb : 0 < b) (h : p * f < e * q) (h1 : p * b ≤ a * q) (h2 : a * f ≤ e * b) (d1 : 0 ≤ S * p + U * q) (d2 : 0 ≤ S * e + U * f) : 0 ≤ S * a + U * b := by
  have id : (e * q - p * f) * (S * a + U * b) = (a * q - p * b) * (S * e + U * f) + (e * b - a * f) * (S * p + U * q) := by
    simp only [Int.sub_mul, Int.mul_add]
    have t1 : e * q * (S * a) = a * q * (S * e) := by simp only [Int.mul_assoc, Int.mul_comm, Int.mul_left_comm]
    have t2 : p * f * (U * b) = p * b * (U * f) := by simp only [Int.mul_assoc, Int.mul_comm, Int.mul_left_comm]
    have t3 : e * q * (U * b) = e * b * (U * q) := by simp only [Int.mul_assoc, Int.mul_comm, Int.mul_left_comm]
    have t4 : p * f * (S * a) = a * f * (S * p) := by simp only [Int.mul_assoc, Int.mul_comm, Int.mul_left_comm]
    have t5 : p * b * (S * e) = e * b * (S * p) := by simp only [Int.mul_assoc, Int.mul_comm, Int.mul_left_comm]
    have t6 : a * q * (U * f) = a * f * (U * q) := by simp only [Int.mul_assoc, Int.mul_comm, Int.mul_left_comm]
    omega
  have n1 := Int.mul_nonneg (show 0 ≤ a * q - p * b by omega) d2
  have n2 := Int.mul_nonneg (show 0 ≤ e * b - a * f by omega) d1
  have n3 : 0 ≤ (e * q - p * f) * (S * a + U * b) := by omega
  rcases Int.lt_or_le (S * a + U * b) 0 with hn | hn
  · have := Int.mul_neg_of_pos_of_neg (show 0 < e * q - p * f by omega) hn
    omega
  · exact hn
theorem vl_sub (x y : St) (a b : Int) : vl y a b - vl x a b = (y.s - x.s) * a + (y.t - x.t) * b := by
  simp only [vl, Int.sub_mul]
  omega
/-- where two rules cross -/
theorem cross {x y : St} {p q e f : Int} (p0 : 0 ≤ p) (hq : 0 < q) (hf : 0 < f) (hef : e ≤ f) (h : p * f < e * q) (h1 : vl x p q < vl y p q) (h2 : vl y e f < vl x e f) :
    ∃ c1 c2 g : Int, c1 = low1 (y.t - x.t) (x.s - y.s) ∧ c2 = low2 (y.t - x.t) (x.s - y.s) ∧ (0 ≤ c1 ∧ 0 < c2 ∧ c1 ≤ c2) ∧ Int.gcd c1 c2 = 1 ∧ p * c2 < c1 * q ∧ c1 * f < e * c2 ∧ 0 < g ∧ (∀ a b, vl y a b - vl x a b = g * (c1 * b - a * c2)) ∧ 0 < x.s - y.s := by
  have d1 := vl_sub x y p q
  have d2 := vl_sub x y e f
  obtain ⟨N, hN⟩ : ∃ N, N = y.t - x.t := ⟨_, rfl⟩
  obtain ⟨D, hD⟩ : ∃ D, D = x.s - y.s := ⟨_, rfl⟩
  have eD : y.s - x.s = -D := by omega
  rw [eD, ← hN, Int.neg_mul] at d1 d2
  have k1 : D * p < N * q := by omega
  have k2 : N * f < D * e := by omega
  have D0 : 0 < D := by
    have a1 := Int.mul_lt_mul_of_pos_right k1 hf
    have a2 := Int.mul_lt_mul_of_pos_right k2 hq
    have e1 : D * p * f = D * (p * f) := Int.mul_assoc ..
    have e2 : D * e * q = D * (e * q) := Int.mul_assoc ..
    have e3 : N * q * f = N * f * q := Int.mul_right_comm ..
    have a3 : D * (p * f) < D * (e * q) := by omega
    rcases Int.lt_or_le 0 D with hp | hp
    · exact hp
    · have := Int.mul_le_mul_of_nonpos_left hp (Int.le_of_lt h)
      omega
  have nD : D ≠ 0 := by omega
  obtain ⟨e1, e2⟩ := low_parts (a := N) nD
  have g0 := gcd_pos (a := N) nD
  have es : sg N D = (Int.gcd N D : Int) := if_neg (by omega)
  rw [es] at e1 e2
  have c20 := low2_pos (a := N) nD
  have gc := low_gcd (a := N) nD
  rw [← hN, ← hD]
  generalize hc1 : low1 N D = c1 at *
  generalize hc2 : low2 N D = c2 at *
  generalize (Int.gcd N D : Int) = g at *
  have m1 : p * c2 < c1 * q := by
    have : g * (p * c2) < g * (c1 * q) := by
      have t1 : g * (p * c2) = D * p := by rw [e2]; simp only [Int.mul_assoc, Int.mul_comm, Int.mul_left_comm]
      have t2 : g * (c1 * q) = N * q := by rw [e1]; simp only [Int.mul_assoc, Int.mul_comm, Int.mul_left_comm]
      omega
    exact Int.lt_of_mul_lt_mul_left this (by omega)
  have m2 : c1 * f < e * c2 := by
    have : g * (c1 * f) < g * (e * c2) := by
      have t1 : g * (e * c2) = D * e := by rw [e2]; simp only [Int.mul_assoc, Int.mul_comm, Int.mul_left_comm]
      have t2 : g * (c1 * f) = N * f := by rw [e1]; simp only [Int.mul_assoc, Int.mul_comm, Int.mul_left_comm]
      omega
    exact Int.lt_of_mul_lt_mul_left this (by omega)
  have c10 : 0 ≤ c1 := by
    have h1 : 0 ≤ p * c2 := Int.mul_nonneg p0 (by omega)
    rcases Int.lt_or_le c1 0 with z | z
    · have := Int.mul_neg_of_neg_of_pos z hq
      omega
    · exact z
  have c12 : c1 ≤ c2 := by
    have h1 : e * c2 ≤ f * c2 := Int.mul_le_mul_of_nonneg_right hef (by omega)
    have h2 : c1 * f < c2 * f := by rw [Int.mul_comm c2]; omega
    exact Int.le_of_lt (Int.lt_of_mul_lt_mul_right h2 (by omega))
  refine ⟨c1, c2, g, rfl, rfl, ⟨c10, c20, c12⟩, gc, m1, m2, g0, fun a b => ?_, D0⟩
  rw [vl_sub, eD, ← hN, e1, e2, Int.mul_sub]
  have t1 : -(c2 * g) * a = -(g * (a * c2)) := by rw [Int.neg_mul]; congr 1; simp only [Int.mul_assoc, Int.mul_comm, Int.mul_left_comm]
  have t2 : c1 * g * b = g * (c1 * b) := by simp only [Int.mul_assoc, Int.mul_comm, Int.mul_left_comm]
  rw [t1, t2]
  omega
/-- what a list of stretches is: the greater of x and y from p / q to e / f -/
structure Gs (p q e f : Int) (x y : St) (H : List St) : Prop where
  cn : ∀ r, Cn' e f r → (∀ s t, hdr r = some (s, t) → s * e + t * f = mx (vl x e f) (vl y e f)) → Cn' p q (H ++ r)
  hd : ∃ z H', H = z :: H' ∧ vl z p q = mx (vl x p q) (vl y p q)
  hv : ∀ r a b, 0 < b → p * b ≤ a * q → hv (H ++ r) a b = if e * b < a * f then hv r a b else mx (vl x a b) (vl y a b)
  len : H.length ≤ 2
theorem Gs.swap {p q e f : Int} {x y : St} {H : List St} (g : Gs p q e f x y H) : Gs p q e f y x H :=
  ⟨fun r c h => g.cn r c fun s t e => by rw [mx_comm]; exact h s t e, by obtain ⟨z, H', e1, e2⟩ := g.hd; exact ⟨z, H', e1, by rw [mx_comm]; exact e2⟩, fun r a b h1 h2 => by rw [g.hv r a b h1 h2, mx_comm], g.len⟩
theorem gs_one {x y : St} {p q e f : Int} (q0 : 0 < q) (e0 : 0 ≤ e ∧ 0 < f ∧ e ≤ f) (g : Int.gcd e f = 1) (h : p * f < e * q) (h1 : vl x p q ≤ vl y p q) (h2 : vl x e f ≤ vl y e f) : Gs p q e f x y [⟨e, f, y.s, y.t⟩] := by
  refine ⟨fun r c hr => ⟨⟨h, e0, g, jt_of_hdr fun s t eh => ?_⟩, c⟩, ⟨_, [], rfl, ?_⟩, fun r a b hb hab => ?_, by simp⟩
  · have := hr s t eh
    rw [mx_r h2] at this
    simp only [vl] at this
    simp only [Int.sub_mul]
    omega
  · rw [mx_r h1]; rfl
  · by_cases k : e * b < a * f
    · rw [if_pos k]; exact hv_hi (x := ⟨e, f, y.s, y.t⟩) k
    · rw [if_neg k, List.cons_append, hv_lo (x := ⟨e, f, y.s, y.t⟩) (show a * f ≤ e * b by omega)]
      have d1 := vl_sub x y p q
      have d2 := vl_sub x y e f
      have d3 := vl_sub x y a b
      have := lin_between (S := y.s - x.s) (U := y.t - x.t) q0 e0.2.1 hb h hab (by omega) (by omega) (by omega)
      rw [mx_r (by omega)]
      rfl
theorem gs_two {x y : St} {p q e f : Int} (p0 : 0 ≤ p) (q0 : 0 < q) (e0 : 0 ≤ e ∧ 0 < f ∧ e ≤ f) (g : Int.gcd e f = 1) (h : p * f < e * q) (h1 : vl x p q < vl y p q) (h2 : vl y e f < vl x e f) :
    Gs p q e f x y [⟨low1 (y.t - x.t) (x.s - y.s), low2 (y.t - x.t) (x.s - y.s), y.s, y.t⟩, ⟨e, f, x.s, x.t⟩] := by
  obtain ⟨c1, c2, gg, ec1, ec2, cc, gc, m1, m2, g0, dv, _⟩ := cross p0 q0 e0.2.1 e0.2.2 h h1 h2
  rw [← ec1, ← ec2]
  refine ⟨fun r c hr => ⟨⟨m1, cc, gc, ?_⟩, ⟨m2, e0, g, jt_of_hdr fun s t eh => ?_⟩, c⟩, ⟨_, _, rfl, ?_⟩, fun r a b hb hab => ?_, by simp⟩
  · have d := dv c1 c2
    have d2 := vl_sub x y c1 c2
    have z : c1 * c2 - c1 * c2 = 0 := by omega
    rw [z, Int.mul_zero] at d
    show (x.s - y.s) * c1 + (x.t - y.t) * c2 = 0
    have e1 : (x.s - y.s) * c1 = -((y.s - x.s) * c1) := by rw [← Int.neg_mul]; congr 1; omega
    have e2 : (x.t - y.t) * c2 = -((y.t - x.t) * c2) := by rw [← Int.neg_mul]; congr 1; omega
    omega
  · have := hr s t eh
    rw [mx_l (Int.le_of_lt h2)] at this
    simp only [vl] at this
    simp only [Int.sub_mul]
    omega
  · rw [mx_r (Int.le_of_lt h1)]; rfl
  · have d := dv a b
    by_cases k : c1 * b < a * c2
    · rw [List.cons_append, hv_hi (x := ⟨c1, c2, y.s, y.t⟩) k]
      by_cases k2 : e * b < a * f
      · rw [if_pos k2]; exact hv_hi (x := ⟨e, f, x.s, x.t⟩) k2
      · rw [if_neg k2, List.cons_append, hv_lo (x := ⟨e, f, x.s, x.t⟩) (show a * f ≤ e * b by omega)]
        have := Int.mul_neg_of_pos_of_neg g0 (show c1 * b - a * c2 < 0 by omega)
        rw [mx_l (by omega)]
        rfl
    · have k2 : ¬ (e * b < a * f) := by
        have := lt_trans hb cc.2.1 e0.2.1 (show a * c2 ≤ c1 * b by omega) m2
        omega
      rw [if_neg k2, List.cons_append, hv_lo (x := ⟨c1, c2, y.s, y.t⟩) (show a * c2 ≤ c1 * b by omega)]
      have := Int.mul_nonneg (Int.le_of_lt g0) (show 0 ≤ c1 * b - a * c2 by omega)
      rw [mx_r (by omega)]
      rfl
theorem low_swap {a b : Int} (hb : b ≠ 0) : low1 (-a) (-b) = low1 a b ∧ low2 (-a) (-b) = low2 a b := by
  have := low_factor (a := a) (b := b) (f := -1) hb (by decide)
  rw [Int.neg_mul, Int.neg_mul, Int.one_mul, Int.one_mul] at this
  simp only [lowD, D.tup.injEq, List.cons.injEq, D.int.injEq, and_true] at this
  exact this
theorem hg_spec {p q : Int} {u : Pc} (p0 : 0 ≤ p) (q0 : 0 < q) (e0 : 0 ≤ u.e ∧ 0 < u.f ∧ u.e ≤ u.f) (g : Int.gcd u.e u.f = 1) (h : p * u.f < u.e * q) : Gs p q u.e u.f u.x u.y (hg p q u) := by
  unfold hg
  split
  · rename_i c
    exact gs_two p0 q0 e0 g h c.1 c.2
  · rename_i c
    split
    · rename_i d
      have G := gs_two p0 q0 e0 g h d.2 d.1
      obtain ⟨_, _, _, _, _, _, _, _, _, _, _, D0⟩ := cross p0 q0 e0.2.1 e0.2.2 h d.2 d.1
      have s := low_swap (a := u.x.t - u.y.t) (b := u.y.s - u.x.s) (by omega)
      rw [show -(u.x.t - u.y.t) = u.y.t - u.x.t by omega, show -(u.y.s - u.x.s) = u.x.s - u.y.s by omega] at s
      rw [s.1, s.2]
      exact G.swap
    · rename_i d
      split
      · rename_i o
        exact gs_one q0 e0 g h (by omega) (by omega)
      · rename_i o
        exact (gs_one (x := u.y) (y := u.x) q0 e0 g h (by omega) (by omega)).swap
theorem hdr_app {z : St} {H r : List St} {s t : Int} (h : hdr ((z :: H) ++ r) = some (s, t)) : z.s = s ∧ z.t = t := by
  simpa [hdr] using h
theorem jt_vl {x y : St} {r : List St} (h : jt x (y :: r)) : vl y x.p x.q = vl x x.p x.q := by
  simp only [jt, Int.sub_mul] at h
  simp only [vl]
  omega
theorem gr_all (l m : List St) {p q : Int} (p0 : 0 ≤ p) (q0 : 0 < q) (c : Cn' p q l) (d : Cn' p q m) :
    Cn' p q (gr p q (pcs l m)) ∧ (∀ s t, hdr (gr p q (pcs l m)) = some (s, t) → ∃ x l' y m', l = x :: l' ∧ m = y :: m' ∧ s * p + t * q = mx (vl x p q) (vl y p q)) ∧
    (∀ a b, 0 < b → p * b ≤ a * q → a ≤ b → hv (gr p q (pcs l m)) a b = mx (hv l a b) (hv m a b)) := by
  refine pcs_ind (M := fun p q l m => 0 ≤ p → Cn' p q (gr p q (pcs l m)) ∧ (∀ s t, hdr (gr p q (pcs l m)) = some (s, t) → ∃ x l' y m', l = x :: l' ∧ m = y :: m' ∧ s * p + t * q = mx (vl x p q) (vl y p q)) ∧
    (∀ a b, 0 < b → p * b ≤ a * q → a ≤ b → hv (gr p q (pcs l m)) a b = mx (hv l a b) (hv m a b))) ?_ ?_ ?_ ?_ ?_ (l.length + m.length) l m p q (Nat.le_refl _) q0 c d p0
  · intro p q m c d _
    rw [pcs_nil]
    refine ⟨c, fun s t e => (by cases e), fun a b _ _ _ => ?_⟩
    obtain ⟨rfl, rfl⟩ := c
    rw [cn_one d]
    rfl
  · intro p q l c d _
    rw [pcs_nil2]
    refine ⟨d, fun s t e => (by cases e), fun a b _ _ _ => ?_⟩
    obtain ⟨rfl, rfl⟩ := d
    rw [cn_one c]
    rfl
  · intro p q x l y m q0 ⟨⟨c1, c2, c3, c4⟩, c⟩ ⟨⟨d1, d2, d3, d4⟩, d⟩ g cx ih p0
    obtain ⟨i1, i2, i3⟩ := ih d2.1
    rw [pcs_a g, gr]
    have G := hg_spec (u := ⟨y.p, y.q, x, y⟩) p0 q0 d2 d3 d1
    refine ⟨G.cn _ i1 fun s t e => ?_, fun s t e => ?_, fun a b hb h1 h2 => ?_⟩
    · obtain ⟨x', l', y', m', e1, e2, e3⟩ := i2 s t e
      cases e1
      subst e2
      rw [jt_vl d4] at e3
      exact e3
    · obtain ⟨z, H, e1, e2⟩ := G.hd
      rw [e1] at e
      obtain ⟨f1, f2⟩ := hdr_app e
      exact ⟨x, l, y, m, rfl, rfl, by rw [← f1, ← f2]; exact e2⟩
    · rw [G.hv _ a b hb h1]
      by_cases k : y.p * b < a * y.q
      · rw [if_pos k, i3 a b hb (Int.le_of_lt k) h2, hv_hi (x := y) k]
      · rw [if_neg k, hv_lo (x := y) (by omega), hv_lo (x := x) (le_trans3 hb d2.2.1 c2.2.1 (by omega) (Int.le_of_lt g))]
  · intro p q x l y m q0 ⟨⟨c1, c2, c3, c4⟩, c⟩ ⟨⟨d1, d2, d3, d4⟩, d⟩ g cx ih p0
    obtain ⟨i1, i2, i3⟩ := ih c2.1
    rw [pcs_b g, gr]
    have G := hg_spec (u := ⟨x.p, x.q, x, y⟩) p0 q0 c2 c3 c1
    refine ⟨G.cn _ i1 fun s t e => ?_, fun s t e => ?_, fun a b hb h1 h2 => ?_⟩
    · obtain ⟨x', l', y', m', e1, e2, e3⟩ := i2 s t e
      cases e2
      subst e1
      rw [jt_vl c4] at e3
      exact e3
    · obtain ⟨z, H, e1, e2⟩ := G.hd
      rw [e1] at e
      obtain ⟨f1, f2⟩ := hdr_app e
      exact ⟨x, l, y, m, rfl, rfl, by rw [← f1, ← f2]; exact e2⟩
    · rw [G.hv _ a b hb h1]
      by_cases k : x.p * b < a * x.q
      · rw [if_pos k, i3 a b hb (Int.le_of_lt k) h2, hv_hi (x := x) k]
      · rw [if_neg k, hv_lo (x := x) (by omega), hv_lo (x := y) (le_trans3 hb c2.2.1 d2.2.1 (by omega) (Int.le_of_lt g))]
  · intro p q x l y m q0 ⟨⟨c1, c2, c3, c4⟩, c⟩ ⟨⟨d1, d2, d3, d4⟩, d⟩ e1' e2' ih p0
    obtain ⟨i1, i2, i3⟩ := ih c2.1
    rw [pcs_c e1' e2', gr]
    have G := hg_spec (u := ⟨x.p, x.q, x, y⟩) p0 q0 c2 c3 c1
    refine ⟨G.cn _ i1 fun s t e => ?_, fun s t e => ?_, fun a b hb h1 h2 => ?_⟩
    · obtain ⟨x', l', y', m', e1, e2, e3⟩ := i2 s t e
      subst e1 e2
      rw [jt_vl c4] at e3
      have j2 := jt_vl d4
      rw [← e1', ← e2'] at j2
      rw [j2] at e3
      exact e3
    · obtain ⟨z, H, e1, e2⟩ := G.hd
      rw [e1] at e
      obtain ⟨f1, f2⟩ := hdr_app e
      exact ⟨x, l, y, m, rfl, rfl, by rw [← f1, ← f2]; exact e2⟩
    · rw [G.hv _ a b hb h1]
      by_cases k : x.p * b < a * x.q
      · rw [if_pos k, i3 a b hb (Int.le_of_lt k) h2, hv_hi (x := x) k, hv_hi (x := y) (by rw [← e1', ← e2']; exact k)]
      · rw [if_neg k, hv_lo (x := x) (by omega), hv_lo (x := y) (by rw [← e1', ← e2']; omega)]
end Q

/-! the greater and the lesser line as they are reckoned -/
namespace Q
theorem low_bd0 {a b : Int} {n : Nat} (ba : Bd n a) (bb : Bd n b) : Bd n (low1 a b) ∧ Bd n (low2 a b) := by
  by_cases h : b = 0
  · subst h
    have e : sg a 0 = (a.natAbs : Int) := by
      unfold sg
      rw [if_neg (by omega), Int.gcd_zero_right]
    constructor
    · unfold low1
      rw [e]
      by_cases z : a = 0
      · subst z; exact ba
      · exact ba.le (natAbs_fdiv_le a _ (by omega))
    · unfold low2
      rw [Int.zero_fdiv]
      exact bb
  · exact ⟨low1_bd h ba, low2_bd h bb⟩
theorem hg_bx {n m : Nat} {p q : Int} {u : Pc} (hm : m + 1 ≤ n) (hx : Bx n m u.x) (hy : Bx n m u.y) (he : Bd n u.e) (hf : Bd n u.f) : ∀ z ∈ hg p q u, Bx n m z := by
  have c := low_bd0 (n := n) (a := u.y.t - u.x.t) (b := u.x.s - u.y.s) ((hy.2.2.2.sub hx.2.2.2).mono (by omega)) ((hx.2.2.1.sub hy.2.2.1).mono (by omega))
  obtain ⟨_, _, x3, x4⟩ := hx
  obtain ⟨_, _, y3, y4⟩ := hy
  intro z hz
  unfold hg at hz
  split at hz
  · simp only [List.mem_cons, List.not_mem_nil, or_false] at hz
    rcases hz with rfl | rfl
    · exact ⟨c.1, c.2, y3, y4⟩
    · exact ⟨he, hf, x3, x4⟩
  · split at hz
    · simp only [List.mem_cons, List.not_mem_nil, or_false] at hz
      rcases hz with rfl | rfl
      · exact ⟨c.1, c.2, x3, x4⟩
      · exact ⟨he, hf, y3, y4⟩
    · split at hz
      · rw [List.mem_singleton.mp hz]; exact ⟨he, hf, y3, y4⟩
      · rw [List.mem_singleton.mp hz]; exact ⟨he, hf, x3, x4⟩
theorem hg_len (p q : Int) (u : Pc) : (hg p q u).length ≤ 2 := by
  unfold hg
  split
  · simp
  · split
    · simp
    · split <;> simp
theorem gr_bx {n m : Nat} (hm : m + 1 ≤ n) : ∀ (ps : List Pc) (p q : Int), (∀ u ∈ ps, Bx n m u.x ∧ Bx n m u.y ∧ Bd n u.e ∧ Bd n u.f) → ∀ z ∈ gr p q ps, Bx n m z
  | [], _, _, _, z, hz => by cases hz
  | u :: r, p, q, h, z, hz => by
    obtain ⟨h1, h2, h3, h4⟩ := h u List.mem_cons_self
    rcases List.mem_append.mp hz with hz | hz
    · exact hg_bx hm h1 h2 h3 h4 z hz
    · exact gr_bx hm r _ _ (fun v hv => h v (List.mem_cons_of_mem _ hv)) z hz
theorem gr_len : ∀ (ps : List Pc) (p q : Int), (gr p q ps).length ≤ 2 * ps.length
  | [], _, _ => by simp [gr]
  | u :: r, p, q => by
    have := gr_len r u.e u.f
    have := hg_len p q u
    simp only [gr, List.length_append, List.length_cons]
    omega
theorem pcs_bx {n m : Nat} {L M : List St} (hL : ∀ x ∈ L, Bx n m x) (hM : ∀ x ∈ M, Bx n m x) : ∀ u ∈ pcs L M, Bx n m u.x ∧ Bx n m u.y ∧ Bd n u.e ∧ Bd n u.f := by
  intro u hu
  obtain ⟨j1, j2, j3⟩ := (pcs_mem _ L M (Nat.le_refl _)).1 u hu
  have a := hL _ j1
  have b := hM _ j2
  refine ⟨a, b, ?_⟩
  rcases j3 with ⟨e1, e2⟩ | ⟨e1, e2⟩ <;> rw [e1, e2]
  · exact ⟨a.1, a.2.1⟩
  · exact ⟨b.1, b.2.1⟩
def grL (L M : List St) : List St := jnr (gr 0 1 (pcs L M))
theorem grL_lin {n m : Nat} {L M : List St} (l : Lin n m L) (k : Lin n m M) (hm : m + 1 ≤ n) (h : L.length + M.length ≤ 400) : Lin n m (grL L M) := by
  obtain ⟨g1, _, _⟩ := gr_all L M (p := 0) (q := 1) (by decide) (by decide) l.cn k.cn
  refine ⟨jnr_cn _ 0 1 (by decide) g1, jnr_df _, fun x hx => gr_bx hm _ 0 1 (pcs_bx l.bx k.bx) x (jnr_mem _ x hx), ?_⟩
  have h1 := jnr_len (gr 0 1 (pcs L M))
  have h2 := gr_len (pcs L M) 0 1
  have h3 := (pcs_mem _ L M (Nat.le_refl _)).2
  unfold grL
  omega
theorem grL_len {L M : List St} : (grL L M).length ≤ 2 * (L.length + M.length) := by
  have h1 := jnr_len (gr 0 1 (pcs L M))
  have h2 := gr_len (pcs L M) 0 1
  have h3 := (pcs_mem _ L M (Nat.le_refl _)).2
  unfold grL
  omega
theorem grL_hv {n m : Nat} {L M : List St} (l : Lin n m L) (k : Lin n m M) {a b : Int} (hb : 0 < b) (h0 : 0 ≤ a) (hab : a ≤ b) : hv (grL L M) a b = mx (hv L a b) (hv M a b) := by
  obtain ⟨g1, _, g3⟩ := gr_all L M (p := 0) (q := 1) (by decide) (by decide) l.cn k.cn
  unfold grL
  rw [jnr_hv hb _ 0 1 g1]
  exact g3 a b hb (by omega) hab
/-! ### the program's way -/
/-- pieces in order -/
def PcCh (n m : Nat) : Int → Int → List Pc → Prop
  | _, _, [] => True
  | p, q, u :: r => (p * u.f < u.e * q ∧ (0 ≤ u.e ∧ 0 < u.f ∧ u.e ≤ u.f) ∧ Int.gcd u.e u.f = 1 ∧ Bx n m u.x ∧ Bx n m u.y ∧ Bd n u.e ∧ Bd n u.f) ∧ PcCh n m u.e u.f r
theorem pcs_ch {n m : Nat} (l k : List St) {p q : Int} (q0 : 0 < q) (c : Cn' p q l) (d : Cn' p q k) (hl : ∀ x ∈ l, Bx n m x) (hk : ∀ x ∈ k, Bx n m x) : PcCh n m p q (pcs l k) := by
  refine pcs_ind (M := fun p q l k => (∀ x ∈ l, Bx n m x) → (∀ x ∈ k, Bx n m x) → PcCh n m p q (pcs l k)) ?_ ?_ ?_ ?_ ?_ (l.length + k.length) l k p q (Nat.le_refl _) q0 c d hl hk
  · intro p q m c d _ _; rw [pcs_nil]; trivial
  · intro p q l c d _ _; rw [pcs_nil2]; trivial
  · intro p q x l y k q0 ⟨⟨c1, c2, c3, c4⟩, c⟩ ⟨⟨d1, d2, d3, d4⟩, d⟩ g cx ih hl hk
    rw [pcs_a g]
    have a := hl x List.mem_cons_self
    have b := hk y List.mem_cons_self
    exact ⟨⟨d1, d2, d3, a, b, b.1, b.2.1⟩, ih hl fun z hz => hk z (List.mem_cons_of_mem _ hz)⟩
  · intro p q x l y k q0 ⟨⟨c1, c2, c3, c4⟩, c⟩ ⟨⟨d1, d2, d3, d4⟩, d⟩ g cx ih hl hk
    rw [pcs_b g]
    have a := hl x List.mem_cons_self
    have b := hk y List.mem_cons_self
    exact ⟨⟨c1, c2, c3, a, b, a.1, a.2.1⟩, ih (fun z hz => hl z (List.mem_cons_of_mem _ hz)) hk⟩
  · intro p q x l y k q0 ⟨⟨c1, c2, c3, c4⟩, c⟩ ⟨⟨d1, d2, d3, d4⟩, d⟩ e1 e2 ih hl hk
    rw [pcs_c e1 e2]
    have a := hl x List.mem_cons_self
    have b := hk y List.mem_cons_self
    exact ⟨⟨c1, c2, c3, a, b, a.1, a.2.1⟩, ih (fun z hz => hl z (List.mem_cons_of_mem _ hz)) fun z hz => hk z (List.mem_cons_of_mem _ hz)⟩
theorem less_low {T : Tab} (hT : T.fn "fractions.less" = some f_fractions_less) (k : Nat) (h : Hs) {u v q : Int} (hq : 0 < q) (bu : Bd 3900 u) (bv : Bd 3900 v) (bq : Bd 3900 q) : call T (k + 1) "fractions.less" [lowD u q, lowD v q] h = .ok (.bl (decide (u < v))) h := by
  have nq : q ≠ 0 := by omega
  obtain ⟨e1, e2⟩ := low_parts (a := u) nq
  obtain ⟨f1, f2⟩ := low_parts (a := v) nq
  have es : sg u q = (Int.gcd u q : Int) := if_neg (by omega)
  have fs : sg v q = (Int.gcd v q : Int) := if_neg (by omega)
  have g1 := gcd_pos (a := u) nq
  have g2 := gcd_pos (a := v) nq
  have bs := less_ok0 hT k h (low1 u q) (low2 u q) (low1 v q) (low2 v q) ⟨low1_bd nq bu, low2_bd nq bq, low1_bd nq bv, low2_bd nq bq⟩
  rw [es] at e1 e2
  rw [fs] at f1 f2
  have key : (low1 u q * low2 v q < low1 v q * low2 u q) ↔ u < v := by
    generalize low1 u q = a1 at *
    generalize low2 u q = a2 at *
    generalize low1 v q = b1 at *
    generalize low2 v q = b2 at *
    generalize (Int.gcd u q : Int) = g at *
    generalize (Int.gcd v q : Int) = g' at *
    have gg : 0 < g * g' := Int.mul_pos g1 g2
    have t1 : a1 * b2 * (g * g') = u * q := by
      have : u * q = (a1 * g) * (b2 * g') := by rw [← e1, ← f2]
      rw [this]; simp only [Int.mul_assoc, Int.mul_comm, Int.mul_left_comm]
    have t2 : b1 * a2 * (g * g') = v * q := by
      have : v * q = (b1 * g') * (a2 * g) := by rw [← f1, ← e2]
      rw [this]; simp only [Int.mul_assoc, Int.mul_comm, Int.mul_left_comm]
    constructor
    · intro h
      have := Int.mul_lt_mul_of_pos_right h gg
      rw [t1, t2] at this
      exact Int.lt_of_mul_lt_mul_right this (by omega)
    · intro h
      have := Int.mul_lt_mul_of_pos_right h hq
      rw [← t1, ← t2] at this
      exact Int.lt_of_mul_lt_mul_right this (by omega)
  have ed : decide (low1 u q * low2 v q < low1 v q * low2 u q) = decide (u < v) := by
    by_cases c : u < v
    · rw [decide_eq_true c, decide_eq_true (key.mpr c)]
    · rw [decide_eq_false c, decide_eq_false fun z => c (key.mp z)]
  rw [ed] at bs
  exact bs
structure KLn0 (T : Tab) : Prop where
  less : T.fn "fractions.less" = some f_fractions_less
  fraction : T.fn "fractions.fraction" = some f_fractions_fraction
  shared : T.fn "fractions.shared" = some f_fractions_shared
  rule : T.fn "lines.rule_at" = some f_lines_rule_at
  nought : T.con "lines.NOUGHT" = some (.tup [.int 0, .int 1])
theorem ruleatG {T : Tab} (K : KLn0 T) (k : Nat) (h : Hs) {n m : Nat} (hn : n ≤ 1500) (hm : m ≤ 2000) {x : St} (B : Bx n m x) {a b : Int} (nb : b ≠ 0) (ba : Bd n a) (bb : Bd n b) :
    call T (k + 3) "lines.rule_at" [x.d, .tup [.int a, .int b]] h = .ok (lowD (vl x a b) b) h := by
  have m1 := B.2.2.1.mulB (by omega)
  have m2 := B.2.2.2.mulB (by omega)
  have m3 := ba.mulB (by omega)
  have m4 := bb.mulB (by omega)
  have fo := fraction_ok K.fraction K.shared k h (x.s * a + x.t * b) b nb (bb.mono (by omega))
  rw [call_eq K.rule rfl]
  simp [f_lines_rule_at, start, getI_d2, getI_d3, run_mul, m1, m2, m3, m4, fo, vl]
theorem vl_bd {n m : Nat} {x : St} (B : Bx n m x) {a b : Int} (ba : Bd n a) (bb : Bd n b) : Bd (n + m + 1) (vl x a b) := ((B.2.2.1.mul ba).add (B.2.2.2.mul bb)).mono (by omega)
structure KGr (T : Tab) : Prop where
  ln : KLn0 T
  joined : T.fn "lines.joined" = some f_lines_joined
  pieces : T.fn "lineworks.pieces" = some f_lineworks_pieces
  higher : T.fn "lineworks.higher" = some f_lineworks_higher
  crossing : T.fn "lineworks.crossing" = some f_lineworks_crossing
  greater : T.fn "lineworks.greater_line" = some f_lineworks_greater_line
  lesser : T.fn "lineworks.lesser_line" = some f_lineworks_lesser_line
  turned : T.fn "lineworks.turned" = some f_lineworks_turned
theorem crossing_ok {T : Tab} (K : KGr T) (k : Nat) (h : Hs) {x y : St} (nd : x.s - y.s ≠ 0) (b1 : Bd 2000 x.s) (b2 : Bd 2000 y.s) : call T (k + 3) "lineworks.crossing" [x.d, y.d] h = .ok (lowD (y.t - x.t) (x.s - y.s)) h := by
  have fo := fraction_ok K.ln.fraction K.ln.shared k h (y.t - x.t) (x.s - y.s) nd ((b1.sub b2).mono (by decide))
  rw [call_eq K.crossing rfl]
  simp [f_lineworks_crossing, start, getI_d2, getI_d3, fo]
theorem higher_ok {T : Tab} (K : KGr T) (k : Nat) (h : Hs) {n m : Nat} (hn : n ≤ 1500) (hm : m ≤ 2000) {p q : Int} {u : Pc} (p0 : 0 ≤ p) (q0 : 0 < q) (bp : Bd n p) (bq : Bd n q) (e0 : 0 ≤ u.e ∧ 0 < u.f ∧ u.e ≤ u.f) (lt : p * u.f < u.e * q) (bx : Bx n m u.x) (by_ : Bx n m u.y) (be : Bd n u.e) (bf : Bd n u.f) :
    call T (k + 4) "lineworks.higher" [.tup [.int p, .int q], .tup [.int u.e, .int u.f], u.x.d, u.y.d] h = .ok (.ref h.length) (h ++ [.lst ((hg p q u).map St.d)]) := by
  obtain ⟨e, f, x, y⟩ := u
  simp only at e0 lt bx by_ be bf
  have r1 := ruleatG K.ln k h hn hm bx (show q ≠ 0 by omega) bp bq
  have r2 := ruleatG K.ln k h hn hm by_ (show q ≠ 0 by omega) bp bq
  have r3 := ruleatG K.ln k h hn hm bx (show f ≠ 0 by omega) be bf
  have r4 := ruleatG K.ln k h hn hm by_ (show f ≠ 0 by omega) be bf
  have v1 := (vl_bd bx bp bq).mono (m := 3900) (by omega)
  have v2 := (vl_bd by_ bp bq).mono (m := 3900) (by omega)
  have v3 := (vl_bd bx be bf).mono (m := 3900) (by omega)
  have v4 := (vl_bd by_ be bf).mono (m := 3900) (by omega)
  have bq' := bq.mono (m := 3900) (by omega)
  have bf' := bf.mono (m := 3900) (by omega)
  have l1 := less_low K.ln.less (k + 2) h q0 v1 v2 bq'
  have l2 := less_low K.ln.less (k + 2) h e0.2.1 v3 v4 bf'
  have l3 := less_low K.ln.less (k + 2) h e0.2.1 v4 v3 bf'
  have l4 := less_low K.ln.less (k + 2) h q0 v2 v1 bq'
  have cr : (vl x p q < vl y p q ∧ vl y e f < vl x e f) ∨ (vl x e f < vl y e f ∧ vl y p q < vl x p q) → call T (k + 3) "lineworks.crossing" [x.d, y.d] h = .ok (lowD (y.t - x.t) (x.s - y.s)) h := fun c => by
    refine crossing_ok K k h ?_ (bx.2.2.1.mono (by omega)) (by_.2.2.1.mono (by omega))
    rcases c with ⟨c1, c2⟩ | ⟨c1, c2⟩
    · obtain ⟨_, _, _, _, _, _, _, _, _, _, _, D0⟩ := cross p0 q0 e0.2.1 e0.2.2 lt c1 c2
      omega
    · obtain ⟨_, _, _, _, _, _, _, _, _, _, _, D0⟩ := cross p0 q0 e0.2.1 e0.2.2 lt c2 c1
      omega
  have gx1 := fun h => getI_d2 x h
  have gx2 := fun h => getI_d3 x h
  have gy1 := fun h => getI_d2 y h
  have gy2 := fun h => getI_d3 y h
  rw [call_eq K.higher rfl]
  unfold lowD at cr
  simp only [hg]
  generalize vl x p q = xp at *
  generalize vl y p q = yp at *
  generalize vl x e f = xe at *
  generalize vl y e f = ye at *
  generalize lowD xp q = lxp at *
  generalize lowD yp q = lyp at *
  generalize lowD xe f = lxe at *
  generalize lowD ye f = lye at *
  generalize x.d = xd at *
  generalize y.d = yd at *
  have go : ∀ b1 b2 b3 b4 : Bool, decide (xp < yp) = b1 → decide (xe < ye) = b2 → decide (ye < xe) = b3 → decide (yp < xp) = b4 → (exB ⟨T, call T (k + 3)⟩ f_lineworks_higher.body [some (.tup [.int p, .int q]), some (.tup [.int e, .int f]), some xd, some yd, none, none] h).fin =
      .ok (.ref h.length) (h ++ [.lst ((if xp < yp ∧ ye < xe then [⟨low1 (y.t - x.t) (x.s - y.s), low2 (y.t - x.t) (x.s - y.s), y.s, y.t⟩, ⟨e, f, x.s, x.t⟩]
        else if xe < ye ∧ yp < xp then [⟨low1 (y.t - x.t) (x.s - y.s), low2 (y.t - x.t) (x.s - y.s), x.s, x.t⟩, ⟨e, f, y.s, y.t⟩]
        else if xp < yp ∨ xe < ye then [⟨e, f, y.s, y.t⟩] else [⟨e, f, x.s, x.t⟩] : List St).map St.d)]) := by
    intro b1 b2 b3 b4 h1 h2 h3 h4
    rw [h1] at l1
    rw [h2] at l2
    rw [h3] at l3
    rw [h4] at l4
    cases b1 <;> cases b2 <;> cases b3 <;> cases b4 <;> simp only [decide_eq_true_eq, decide_eq_false_iff_not] at h1 h2 h3 h4 <;> first
      | omega
      | (have c := cr (by omega)
         simp [f_lineworks_higher, r1, r2, r3, r4, l1, l2, l3, l4, c, gx1, gx2, gy1, gy2, h1, h2, h3, h4, St.d])
      | simp [f_lineworks_higher, r1, r2, r3, r4, l1, l2, l3, l4, gx1, gx2, gy1, gy2, h1, h2, h3, h4, St.d]
  exact go _ _ _ _ rfl rfl rfl rfl
end Q

/-! greater_line and lesser_line, whole -/
namespace Q
def grB : Bl := forBody (headB (dropB 2 f_lineworks_greater_line.body))
theorem gr_loop {T : Tab} (K : KGr T) (k : Nat) (h : Hs) (P : O) (ok : Hs → Prop) (hok : ∀ o G, ok (h ++ o :: P :: G)) {n m : Nat} (hn : n ≤ 1500) (hm : m ≤ 2000) (v0 v1 : Option D) : ∀ (ps : List Pc) (p q : Int) (acc : List St) (G : Hs) (v4 v5 v6 : Option D), 0 ≤ p → 0 < q → Bd n p → Bd n q → PcCh n m p q ps → acc.length + 2 * ps.length ≤ 5000 →
    ∃ G' v3' v4' v5' v6', forE ⟨T, call T (k + 4)⟩ (.many [4, 5, 6]) grB ok (ps.map Pc.d) [v0, v1, some (.ref h.length), some (.tup [.int p, .int q]), v4, v5, v6] (h ++ .lst (acc.map St.d) :: P :: G) =
      .nx [v0, v1, some (.ref h.length), v3', v4', v5', v6'] (h ++ .lst ((acc ++ gr p q ps).map St.d) :: P :: G')
  | [], p, q, acc, G, v4, v5, v6, _, _, _, _, _, _ => ⟨G, some (.tup [.int p, .int q]), v4, v5, v6, by simp only [List.map_nil, gr, List.append_nil]; exact forE_nil (hok _ _)⟩
  | u :: r, p, q, acc, G, v4, v5, v6, p0, q0, bp, bq, ⟨⟨c1, c2, c3, c4, c5, c6, c7⟩, c⟩, hl => by
    simp only [List.length_cons] at hl
    have hh := higher_ok K k (h ++ .lst (acc.map St.d) :: P :: G) hn hm (u := u) p0 q0 bp bq c2 c1 c4 c5 c6 c7
    have lh := hg_len p q u
    have g1 : ((h ++ .lst (acc.map St.d) :: P :: G) ++ [O.lst ((hg p q u).map St.d)])[h.length]? = some (.lst (acc.map St.d)) := (Gr.app _ _).at (get_mid h _ _)
    have g2 : ((h ++ .lst (acc.map St.d) :: P :: G) ++ [O.lst ((hg p q u).map St.d)])[(h ++ .lst (acc.map St.d) :: P :: G).length]? = some (.lst ((hg p q u).map St.d)) := List.getElem?_concat_length
    have ex := extend_lst g1 g2 (by simp [SZ]; omega)
    have es : ((h ++ .lst (acc.map St.d) :: P :: G) ++ [O.lst ((hg p q u).map St.d)]).set h.length (.lst (acc.map St.d ++ (hg p q u).map St.d)) = h ++ .lst ((acc ++ hg p q u).map St.d) :: P :: (G ++ [O.lst ((hg p q u).map St.d)]) := by simp
    rw [es] at ex
    have bk : bmK .extend (.ref h.length) (h ++ .lst (acc.map St.d) :: P :: G) = true := bmK_lst (xs := acc.map St.d) .extend (get_mid h _ _)
    obtain ⟨G', v3', v4', v5', v6', ih⟩ := gr_loop K k h P ok hok hn hm v0 v1 r u.e u.f (acc ++ hg p q u) (G ++ [O.lst ((hg p q u).map St.d)]) (some (.tup [.int u.e, .int u.f])) (some u.x.d) (some u.y.d) c2.1 c2.2.1 c6 c7 c (by simp; omega)
    refine ⟨G', v3', v4', v5', v6', ?_⟩
    have ea : acc ++ gr p q (u :: r) = acc ++ hg p q u ++ gr u.e u.f r := by simp [gr]
    rw [ea]
    have ok1 := hok (.lst (acc.map St.d)) G
    generalize h ++ .lst ((acc ++ hg p q u).map St.d) :: P :: (G ++ [O.lst ((hg p q u).map St.d)]) = h3 at *
    generalize (h ++ .lst (acc.map St.d) :: P :: G) ++ [O.lst ((hg p q u).map St.d)] = h2 at *
    generalize (h ++ .lst (acc.map St.d) :: P :: G) = h1 at *
    simp only [List.map_cons]
    have as_ : asg (.many [4, 5, 6]) u.d [v0, v1, some (.ref h.length), some (.tup [.int p, .int q]), v4, v5, v6] = some [v0, v1, some (.ref h.length), some (.tup [.int p, .int q]), some (.tup [.int u.e, .int u.f]), some u.x.d, some u.y.d] := rfl
    rw [forE_nx (s3 := [v0, v1, some (.ref h.length), some (.tup [.int u.e, .int u.f]), some (.tup [.int u.e, .int u.f]), some u.x.d, some u.y.d]) (h3 := h3) ok1 as_ (by
      simp only [grB, f_lineworks_greater_line, dropB, headB, forBody]
      generalize u.x.d = xd at *
      generalize u.y.d = yd at *
      simp [bk, hh, ex])]
    exact ih
theorem greater_ok {T : Tab} (K : KGr T) (k : Nat) (h : Hs) {n m : Nat} (hn : n ≤ 1000) (hm : m ≤ 2000) {L M : List St} (l : Lin n m L) (r : Lin n m M) (hl : L.length + M.length ≤ 450) :
    ∃ G, call T (k + 5) "lineworks.greater_line" [.tup (L.map St.d), .tup (M.map St.d)] h = .ok (.tup ((grL L M).map St.d)) (h ++ G) := by
  have pc := pieces_ok K.pieces K.ln.less (k + 2) (h ++ [O.lst []]) (lw1_of l.cn l.bx hn hm) (lw1_of r.cn r.bx hn hm) (by omega)
  have ch := pcs_ch L M (by decide) l.cn r.cn l.bx r.bx
  have lp := (pcs_mem _ L M (Nat.le_refl _)).2
  unfold grL
  generalize pcs L M = P at *
  by_cases n1 : n = 0
  · -- bounds of nothing at all: no end is 1
    exfalso
    have := l.cn
    cases L with
    | nil => exact absurd this.1 (by decide)
    | cons x L' =>
      have b := (l.bx x List.mem_cons_self).2.1
      have q := this.1.2.1.2.1
      rw [n1] at b
      have := Bd.def.mp b
      omega
  · have e1 : (h ++ [O.lst []]).length = h.length + 1 := by simp
    rw [e1] at pc
    have w : walkSq (h ++ O.lst [] :: O.lst (P.map Pc.d) :: []) (.ref (h.length + 1)) = some ⟨P.map Pc.d, fun z => z[h.length + 1]? = some (.lst (P.map Pc.d))⟩ := walkSq_lst (by rw [List.getElem?_append_right (by omega)]; simp)
    obtain ⟨G', v3', v4', v5', v6', e⟩ := gr_loop K k h (O.lst (P.map Pc.d)) (fun z => z[h.length + 1]? = some (.lst (P.map Pc.d))) (fun o G => by rw [List.getElem?_append_right (by omega)]; simp) (n := n) (m := m) (by omega) hm (some (.tup (L.map St.d))) (some (.tup (M.map St.d))) P 0 1 [] [] none none none (by decide) (by decide) ((show Bd 1 0 from Bd.of (by decide)).mono (by omega))
      ((show Bd 1 1 from Bd.of (by decide)).mono (by omega)) ch (by simp; omega)
    have lg := gr_len P 0 1
    obtain ⟨G2, ej⟩ := joined_ok K.joined (k + 3) (h := h ++ .lst (([] ++ gr 0 1 P).map St.d) :: O.lst (P.map Pc.d) :: G') (n := h.length) (H := gr 0 1 P) (by rw [get_mid]; rfl) (by omega)
    rw [jn_eq] at ej
    refine ⟨(.lst (([] ++ gr 0 1 P).map St.d) :: O.lst (P.map Pc.d) :: G') ++ G2, ?_⟩
    rw [← List.append_assoc]
    have eh : h ++ [O.lst []] ++ [O.lst (P.map Pc.d)] = h ++ O.lst [] :: O.lst (P.map Pc.d) :: [] := by simp
    rw [eh] at pc
    simp only [grB, f_lineworks_greater_line, dropB, headB, forBody, List.map_nil] at e
    generalize (h ++ .lst (([] ++ gr 0 1 P).map St.d) :: O.lst (P.map Pc.d) :: G') = h9 at *
    generalize h ++ O.lst [] :: O.lst (P.map Pc.d) :: [] = h8 at *
    generalize L.map St.d = LD at *
    generalize M.map St.d = MD at *
    rw [call_eq K.greater rfl]
    show SR.fin (exB ⟨T, call T (k + 4)⟩ f_lineworks_greater_line.body [some (.tup LD), some (.tup MD), none, none, none, none, none] h) = _
    simp only [f_lineworks_greater_line]
    rw [exB_cons, exS_set, evE_lst, evs_nil, kLst_ok, kSet_ok, kThen_nx, exB_cons, exS_set, evE_g]
    simp only [K.ln.nought, kOpt_some, kSet_ok, kThen_nx, List.set_cons_succ, List.set_cons_zero]
    rw [exB_cons, exS_for, walk_sq, evE_call, evs_cons, evE_v]
    simp only [getL_zero, getL_succ, kVar_some, kCons1_ok, evs_cons, evE_v, evs_nil, kCons2_ok, kCall_ok, pc, kSq_ok, w, kWalk_some, kFor_ok, e, kThen_nx, exB_cons, exS_ret, evE_call, ej, kRet_ok, kThen_rt, fin_rt]
/-- the lesser heights -/
def lsL (L M : List St) : List St := (grL (L.map tn) (M.map tn)).map tn
def mn (a b : Int) : Int := if a < b then a else b
theorem lsL_lin {n m : Nat} {L M : List St} (l : Lin n m L) (k : Lin n m M) (hm : m + 3 ≤ n) (h : L.length + M.length ≤ 400) : Lin n (m + 2) (lsL L M) := by
  have b0 : Bd m 0 := Bd.of (by exact Nat.two_pow_pos m)
  have b1 : Bd (m + 1) 0 := b0.mono (by omega)
  have l' : Lin n (m + 1) (L.map tn) := by rw [tn_gm]; exact l.gm (.inr rfl) b0
  have k' : Lin n (m + 1) (M.map tn) := by rw [tn_gm]; exact k.gm (.inr rfl) b0
  have g := grL_lin l' k' (by omega) (by simp; omega)
  unfold lsL
  rw [show (tn : St → St) = gm (-1) 0 from tn_gm] at g ⊢
  exact g.gm (.inr rfl) b1
theorem lsL_len {L M : List St} : (lsL L M).length ≤ 2 * (L.length + M.length) := by
  have := grL_len (L := L.map tn) (M := M.map tn)
  unfold lsL
  simpa using this
theorem lsL_hv {n m : Nat} {L M : List St} (l : Lin n m L) (k : Lin n m M) {a b : Int} (hm : m + 3 ≤ n) (h : L.length + M.length ≤ 400) (hb : 0 < b) (h0 : 0 ≤ a) (hab : a ≤ b) : hv (lsL L M) a b = mn (hv L a b) (hv M a b) := by
  have b0 : Bd m 0 := Bd.of (by exact Nat.two_pow_pos m)
  have l' : Lin n (m + 1) (L.map (gm (-1) 0)) := l.gm (.inr rfl) b0
  have k' : Lin n (m + 1) (M.map (gm (-1) 0)) := k.gm (.inr rfl) b0
  have g := grL_lin l' k' (by omega) (by simp; omega)
  unfold lsL
  rw [tn_gm, hv_gm hab g.cn g.ne, grL_hv l' k' hb h0 hab, hv_gm hab l.cn l.ne, hv_gm hab k.cn k.ne]
  unfold mx mn
  split <;> split <;> omega
theorem lesser_ok {T : Tab} (K : KGr T) (k : Nat) (h : Hs) {n m : Nat} (hn : n ≤ 1000) (hm : m + 1 ≤ 2000) {L M : List St} (l : Lin n m L) (r : Lin n m M) (hl : L.length + M.length ≤ 450) :
    ∃ G, call T (k + 6) "lineworks.lesser_line" [.tup (L.map St.d), .tup (M.map St.d)] h = .ok (.tup ((lsL L M).map St.d)) (h ++ G) := by
  have b0 : Bd m 0 := Bd.of (by exact Nat.two_pow_pos m)
  have l' : Lin n (m + 1) (L.map tn) := by rw [tn_gm]; exact l.gm (.inr rfl) b0
  have k' : Lin n (m + 1) (M.map tn) := by rw [tn_gm]; exact r.gm (.inr rfl) b0
  have t1 := turned_ok K.turned (k + 4) h (L := L) (by omega)
  have t2 := turned_ok K.turned (k + 4) (h ++ [O.lst ((L.map tn).map St.d)]) (L := M) (by omega)
  obtain ⟨G, g⟩ := greater_ok K k (h ++ [O.lst ((L.map tn).map St.d)] ++ [O.lst ((M.map tn).map St.d)]) hn hm l' k' (by simp; omega)
  have lg := grL_len (L := L.map tn) (M := M.map tn)
  simp only [List.length_map] at lg
  have t3 := turned_ok K.turned (k + 4) (h ++ [O.lst ((L.map tn).map St.d)] ++ [O.lst ((M.map tn).map St.d)] ++ G) (L := grL (L.map tn) (M.map tn)) (by omega)
  refine ⟨[O.lst ((L.map tn).map St.d)] ++ [O.lst ((M.map tn).map St.d)] ++ G ++ [O.lst ((lsL L M).map St.d)], ?_⟩
  have ee : h ++ ([O.lst ((L.map tn).map St.d)] ++ [O.lst ((M.map tn).map St.d)] ++ G ++ [O.lst ((lsL L M).map St.d)]) = h ++ [O.lst ((L.map tn).map St.d)] ++ [O.lst ((M.map tn).map St.d)] ++ G ++ [O.lst ((lsL L M).map St.d)] := by simp
  rw [ee]
  rw [call_eq K.lesser rfl]
  show SR.fin (exB ⟨T, call T (k + 5)⟩ f_lineworks_lesser_line.body [some (.tup (L.map St.d)), some (.tup (M.map St.d))] h) = _
  simp only [f_lineworks_lesser_line, exB_cons, exS_ret, evE_call, evs_cons, evE_v, getL_zero, getL_succ, kVar_some, kCons1_ok, evs_nil, kCons2_ok, kCall_ok, t1, t2, g, t3, kRet_ok, kThen_rt, fin_rt]
  rfl
theorem hv_bdn {n m : Nat} : ∀ {L : List St} {a b : Int}, (∀ x ∈ L, Bx n m x) → Bd n a → Bd n b → Bd (n + m + 1) (hv L a b)
  | [], _, _, _, _, _ => (show Bd 1 0 from Bd.of (by decide)).mono (by omega)
  | x :: r, a, b, h, ba, bb => by
    unfold hv
    split
    · exact hv_bdn (fun y hy => h y (List.mem_cons_of_mem _ hy)) ba bb
    · exact vl_bd (h x List.mem_cons_self) ba bb
/-- a comprehension that raises -/
theorem raise_comp {C : Cl} {s : Ev} {h : Hs} {L : List St} {v j : Nat} {b : Int} (hv_ : getL s v = some (.tup (L.map St.d))) (hj : ∀ e p r : D, getL ((((wipe s [6, 7, 8]).set 6 (some e)).set 7 (some p)).set 8 (some r)) j = some (.int b) ∧ getL ((((wipe s [6, 7, 8]).set 6 (some e)).set 7 (some p)).set 8 (some r)) 6 = some e ∧ getL ((((wipe s [6, 7, 8]).set 6 (some e)).set 7 (some p)).set 8 (some r)) 7 = some p ∧ getL ((((wipe s [6, 7, 8]).set 6 (some e)).set 7 (some p)).set 8 (some r)) 8 = some r) (hl : L.length ≤ 2000) :
    evE C (.b .tuple (.cons (.comp (.tup (.cons (.v 6) (.cons (.v 7) (.cons (.bin .add (.v 8) (.v j)) .nil)))) (.many [6, 7, 8]) (.sq (.v v)) .none [6, 7, 8]) .nil)) s h = .ok (.tup ((L.map (gm 1 b)).map St.d)) (h ++ [O.lst ((L.map (gm 1 b)).map St.d)]) := by
  have cm := kComp_mapL (C := C) (s := s) (h := h) (e := .tup (.cons (.v 6) (.cons (.v 7) (.cons (.bin .add (.v 8) (.v j)) .nil)))) (tg := .many [6, 7, 8]) (own := [6, 7, 8]) (w := ⟨L.map St.d, fun _ => True⟩) L St.d (fun x => (rs b x).d) rfl trivial
    (fun x hx => ⟨_, asg_three .., by
      obtain ⟨h1, h2, h3, h4⟩ := hj (.tup [.int x.p, .int x.q]) (.int x.s) (.int x.t)
      simp only [evE_tup, evs_cons, evE_v, h2, h3, evE_bin, h4, h1, kVar_some, kCons1_ok, kBin1_ok, kBin2_ok, run_add, evs_nil, kCons2_ok, kTup_ok]
      rfl⟩) (by simp [SZ]; omega)
  have em : (L.map fun x => (rs b x).d) = (L.map (gm 1 b)).map St.d := by rw [← rs_gm]; simp
  rw [em] at cm
  have tl := tuple_lst (h := h ++ [O.lst ((L.map (gm 1 b)).map St.d)]) (n := h.length) (xs := (L.map (gm 1 b)).map St.d) (by simp)
  rw [evE_b, evs_cons, evE_comp, walk_sq, evE_v, hv_, kVar_some, kSq_ok, walkSq_tup, kWalk_some, cm, kCons1_ok, evs_nil, kCons2_ok, kB_ok, tl]
end Q

/-! a line cut off; whether it stays within -/
namespace Q
def lv (c : Int) : List St := [⟨1, 1, 0, c⟩]
theorem lv_lin {n m : Nat} (hn : 1 ≤ n) {c : Int} (hc : Bd m c) : Lin n m (lv c) := by
  refine ⟨⟨⟨(show (0 : Int) * 1 < 1 * 1 by decide), (show (0 : Int) ≤ 1 ∧ (0 : Int) < 1 ∧ (1 : Int) ≤ 1 by decide), (show Int.gcd 1 1 = 1 by decide), trivial⟩, rfl, rfl⟩, ⟨fun y r' e => (by cases e), trivial⟩, fun x hx => ?_, by simp [lv]⟩
  rw [List.mem_singleton.mp hx]
  have b1 : Bd n 1 := (show Bd 1 1 from Bd.of (by decide)).mono hn
  exact ⟨b1, b1, Bd.of (by exact Nat.two_pow_pos m), hc⟩
theorem lv_hv {c a b : Int} (h : a ≤ b) : hv (lv c) a b = c * b := by
  unfold lv
  rw [hv_lo (by simp only; omega)]
  simp [vl]
/-- cut off above 1 and below 0 -/
def coL (L : List St) : List St := grL (lsL L (lv 1)) (lv 0)
theorem coL_len {L : List St} : (coL L).length ≤ 4 * L.length + 6 := by
  have h1 := lsL_len (L := L) (M := lv 1)
  have h2 := grL_len (L := lsL L (lv 1)) (M := lv 0)
  unfold coL
  simp only [lv, List.length_singleton] at h1 h2 ⊢
  omega
theorem coL_lin {n m : Nat} {L : List St} (l : Lin n m L) (h1 : 1 ≤ m) (hm : m + 3 ≤ n) (hl : L.length ≤ 90) : Lin n (m + 2) (coL L) := by
  have b1 : Bd m 1 := (show Bd 1 1 from Bd.of (by decide)).mono h1
  have b0 : Bd (m + 2) 0 := (show Bd 1 0 from Bd.of (by decide)).mono (by omega)
  have s := lsL_lin l (lv_lin (n := n) (by omega) b1) hm (by simp [lv]; omega)
  have ll := lsL_len (L := L) (M := lv 1)
  simp only [lv, List.length_singleton] at ll
  exact grL_lin s (lv_lin (by omega) b0) (by omega) (by simp only [lv, List.length_singleton]; omega)
theorem coL_hv {n m : Nat} {L : List St} (l : Lin n m L) (h1 : 1 ≤ m) (hm : m + 3 ≤ n) (hl : L.length ≤ 90) {a b : Int} (hb : 0 < b) (h0 : 0 ≤ a) (hab : a ≤ b) : hv (coL L) a b = mx (mn (hv L a b) b) 0 := by
  have b1 : Bd m 1 := (show Bd 1 1 from Bd.of (by decide)).mono h1
  have b0 : Bd (m + 2) 0 := (show Bd 1 0 from Bd.of (by decide)).mono (by omega)
  have k := lv_lin (n := n) (by omega) b1
  have s := lsL_lin l k hm (by simp [lv]; omega)
  unfold coL
  rw [grL_hv s (lv_lin (by omega) b0) hb h0 hab, lsL_hv l k hm (by simp [lv]; omega) hb h0 hab, lv_hv hab, lv_hv hab, Int.one_mul, Int.zero_mul]
structure KCut (T : Tab) : Prop where
  gr : KGr T
  one : T.con "lines.ONE" = some (.tup [.int 1, .int 1])
  level : T.fn "lineworks.level" = some f_lineworks_level
  cut : T.fn "lineworks.cut_off" = some f_lineworks_cut_off
theorem level_ok {T : Tab} (K : KCut T) (k : Nat) (h : Hs) (c : Int) : call T (k + 1) "lineworks.level" [.int c] h = .ok (.tup ((lv c).map St.d)) h := by
  rw [call_eq K.level rfl]
  simp [f_lineworks_level, start, K.one, lv, St.d]
theorem cut_ok {T : Tab} (K : KCut T) (k : Nat) (h : Hs) {n m : Nat} (hn : n ≤ 1000) (hm : m + 3 ≤ 2000) {L : List St} (l : Lin n m L) (h1 : 1 ≤ m) (hmn : m + 3 ≤ n) (hl : L.length ≤ 90) : ∃ G, call T (k + 7) "lineworks.cut_off" [.tup (L.map St.d)] h = .ok (.tup ((coL L).map St.d)) (h ++ G) := by
  have b1 : Bd m 1 := (show Bd 1 1 from Bd.of (by decide)).mono h1
  have b0 : Bd (m + 2) 0 := (show Bd 1 0 from Bd.of (by decide)).mono (by omega)
  have v1 := fun h => level_ok K (k + 5) h 1
  have v0 := fun h => level_ok K (k + 5) h 0
  have kk := lv_lin (n := n) (by omega) b1
  have ll := lsL_len (L := L) (M := lv 1)
  simp only [lv, List.length_singleton] at ll
  have ll1 : (lv 1).length = 1 := rfl
  have ll0 : (lv 0).length = 1 := rfl
  obtain ⟨G1, e1⟩ := lesser_ok K.gr k h hn (by omega) l kk (by omega)
  have s := lsL_lin l kk hmn (by omega)
  have lls : (lsL L (lv 1)).length ≤ 2 * (L.length + 1) := ll
  obtain ⟨G2, e2⟩ := greater_ok K.gr (k + 1) (h ++ G1) hn (by omega) s (lv_lin (by omega) b0) (by omega)
  refine ⟨G1 ++ G2, ?_⟩
  rw [← List.append_assoc]
  unfold coL
  generalize (grL (lsL L (lv 1)) (lv 0)).map St.d = RD at *
  generalize (lsL L (lv 1)).map St.d = SD at *
  generalize (lv 1).map St.d = A1 at *
  generalize (lv 0).map St.d = A0 at *
  generalize L.map St.d = LD at *
  rw [call_eq K.cut rfl]
  show SR.fin (exB ⟨T, call T (k + 6)⟩ f_lineworks_cut_off.body [some (.tup LD)] h) = _
  simp only [f_lineworks_cut_off, exB_cons, exS_ret, evE_call, evs_cons, evE_v, getL_zero, kVar_some, kCons1_ok, evE_k, evs_nil, kCons2_ok, kCall_ok, v1, v0, e1, e2, kRet_ok, kThen_rt, fin_rt]
/-! ### within -/
def okV (y : St) : Bool := decide (0 ≤ vl y y.p y.q ∧ vl y y.p y.q ≤ y.q)
def wi : List St → Bool
  | [] => true
  | x :: r => decide (0 ≤ vl x 0 1 ∧ vl x 0 1 ≤ 1) && (x :: r).all okV
theorem cn_lt : ∀ {r : List St} {p q : Int}, 0 < q → Cn' p q r → ∀ y ∈ r, p * y.q < y.p * q
  | [], _, _, _, _, y, hy => by cases hy
  | x :: r, p, q, q0, ⟨⟨h1, h2, _, _⟩, c⟩, y, hy => by
    rcases List.mem_cons.mp hy with rfl | hy
    · exact h1
    · have := cn_lt h2.2.1 c y hy
      have yq := (c.gq y hy).1.2.1
      exact lt_trans q0 h2.2.1 yq (Int.le_of_lt h1) this
theorem hv_end : ∀ {r : List St} {p q : Int}, Cn' p q r → ∀ y ∈ r, hv r y.p y.q = vl y y.p y.q
  | [], _, _, _, y, hy => by cases hy
  | x :: r, p, q, ⟨⟨h1, h2, _, _⟩, c⟩, y, hy => by
    rcases List.mem_cons.mp hy with rfl | hy
    · rw [hv_lo (Int.le_refl _)]
    · rw [hv_hi (cn_lt h2.2.1 c y hy)]
      exact hv_end c y hy
theorem hv_start {x : St} {r : List St} (c : Cn' 0 1 (x :: r)) : hv (x :: r) 0 1 = vl x 0 1 := by
  have := c.1.1
  rw [hv_lo (by omega)]
theorem in_all : ∀ {r : List St} {p q : Int}, 0 < q → Cn' p q r → (∀ x r', r = x :: r' → 0 ≤ vl x p q ∧ vl x p q ≤ q) → (∀ y ∈ r, 0 ≤ vl y y.p y.q ∧ vl y y.p y.q ≤ y.q) → ∀ {a b : Int}, 0 < b → p * b ≤ a * q → a ≤ b → 0 ≤ hv r a b ∧ hv r a b ≤ b
  | [], _, _, _, _, _, _, a, b, hb, _, _ => ⟨Int.le_refl _, Int.le_of_lt hb⟩
  | x :: r, p, q, q0, ⟨⟨h1, h2, h3, h4⟩, c⟩, hs, he, a, b, hb, h, hab => by
    have hx := he x List.mem_cons_self
    by_cases g : x.p * b < a * x.q
    · rw [hv_hi g]
      refine in_all h2.2.1 c (fun x' r' e => ?_) (fun y hy => he y (List.mem_cons_of_mem _ hy)) hb (Int.le_of_lt g) hab
      subst e
      rw [jt_vl h4]
      exact hx
    · rw [hv_lo (by omega)]
      have s0 := hs x r rfl
      have l1 := lin_between (S := x.s) (U := x.t) q0 h2.2.1 hb h1 h (by omega) s0.1 hx.1
      have l2 := lin_between (S := -x.s) (U := 1 - x.t) (a := a) (b := b) q0 h2.2.1 hb h1 h (by omega)
        (by have := s0.2; simp only [vl] at this; simp only [Int.neg_mul, Int.sub_mul, Int.one_mul]; omega)
        (by have := hx.2; simp only [vl] at this; simp only [Int.neg_mul, Int.sub_mul, Int.one_mul]; omega)
      simp only [Int.neg_mul, Int.sub_mul, Int.one_mul] at l2
      simp only [vl]
      omega
theorem wi_iff {L : List St} (c : Cn' 0 1 L) : wi L = true ↔ ∀ a b, 0 < b → 0 ≤ a → a ≤ b → 0 ≤ hv L a b ∧ hv L a b ≤ b := by
  cases L with
  | nil => exact absurd c.1 (by decide)
  | cons x r =>
    simp only [wi, Bool.and_eq_true, decide_eq_true_eq, List.all_eq_true, okV]
    constructor
    · rintro ⟨h1, h2⟩ a b hb h0 hab
      refine in_all (by decide) c (fun x' r' e => ?_) h2 hb (by omega) hab
      cases e
      exact h1
    · intro h
      refine ⟨by have := h 0 1 (by decide) (by decide) (by decide); rw [hv_start c] at this; exact this, fun y hy => ?_⟩
      have g := (c.gq y hy).1
      have := h y.p y.q g.2.1 g.1 g.2.2
      rw [hv_end c y hy] at this
      exact this
theorem coL_wi {n m : Nat} {L : List St} (l : Lin n m L) (h1 : 1 ≤ m) (hm : m + 3 ≤ n) (hl : L.length ≤ 90) : wi (coL L) = true :=
  (wi_iff (coL_lin l h1 hm hl).cn).mpr fun a b hb h0 hab => by
    rw [coL_hv l h1 hm hl hb h0 hab]
    unfold mx mn
    split <;> split <;> omega
/-- cutting off leaves just what stays within -/
theorem coL_eq {n m : Nat} {L : List St} (l : Lin n m L) (h1 : 1 ≤ m) (hm : m + 3 ≤ n) (hl : L.length ≤ 90) : coL L = L ↔ wi L = true := by
  constructor
  · intro e
    rw [← e]
    exact coL_wi l h1 hm hl
  · intro w
    have w := (wi_iff l.cn).mp w
    refine (coL_lin l h1 hm hl).eq l fun a b hb h0 hab => ?_
    rw [coL_hv l h1 hm hl hb h0 hab]
    have := w a b hb h0 hab
    unfold mx mn
    split <;> split <;> omega
end Q

/-! bends, stays, within as they are reckoned -/
namespace Q
structure KStay (T : Tab) : Prop where
  ln : KLn0 T
  one : T.con "lines.ONE" = some (.tup [.int 1, .int 1])
  bends : T.fn "lines.bends" = some f_lines_bends
  stays : T.fn "lines.stays" = some f_lines_stays
def bv (x : St) : D := .tup [.tup [.int x.p, .int x.q], lowD (vl x x.p x.q) x.q]
/-- the bends: the first stretch at nought, each at its end -/
def bnl : List St → List St
  | [] => []
  | x :: r => ⟨0, 1, x.s, x.t⟩ :: x :: r
theorem bends2_ok {T : Tab} (K : KStay T) (k : Nat) (h : Hs) {n m : Nat} (hn : n ≤ 1500) (h1 : 1 ≤ n) (hm : m ≤ 2000) {L : List St} (l : Lin n m L) : call T (k + 4) "lines.bends" [.tup (L.map St.d)] h = .ok (.ref h.length) (h ++ [.lst ((bnl L).map bv)]) := by
  have hlen := l.len
  cases hL : L with
  | nil => exact absurd hL l.ne
  | cons x r =>
    rw [← hL]
    have Bx0 := l.bx x (by rw [hL]; exact List.mem_cons_self)
    have g0 : getI (.tup (L.map St.d)) (.int 0) h = .ok x.d h := by
      have := getI_line h (L := L) (j := 0) (by rw [hL]; simp)
      simpa [hL] using this
    have b0 : Bd n 0 := (show Bd 1 0 from Bd.of (by decide)).mono h1
    have b1 : Bd n 1 := (show Bd 1 1 from Bd.of (by decide)).mono h1
    have r0 := ruleatG K.ln k h hn hm Bx0 (show (1 : Int) ≠ 0 by decide) b0 b1
    obtain ⟨x0, hx0⟩ : ∃ x0 : St, x0 = ⟨0, 1, x.s, x.t⟩ := ⟨_, rfl⟩
    have loop : ∀ (r' done : List St), done ++ r' = L → ∀ v : Option D, ∃ v', forE ⟨T, call T (k + 3)⟩ (.one 2) (forBody (headB (dropB 1 f_lines_bends.body))) (fun _ => True) (r'.map St.d) [some (.tup (L.map St.d)), some (.ref h.length), v] (h ++ [.lst ((x0 :: done).map bv)]) = .nx [some (.tup (L.map St.d)), some (.ref h.length), v'] (h ++ [.lst ((x0 :: L).map bv)]) := by
      intro r'
      induction r' with
      | nil => intro done hd v; rw [List.append_nil] at hd; subst hd; exact ⟨v, forE_nil trivial⟩
      | cons y r' ih =>
        intro done hd v
        obtain ⟨v', e⟩ := ih (done ++ [y]) (by rw [← hd]; simp) (some y.d)
        refine ⟨v', ?_⟩
        have yin : y ∈ L := by rw [← hd]; simp
        have By := l.bx y yin
        have yq := (l.cn.gq y yin).1.2.1
        have ra := ruleatG K.ln k (h ++ [.lst ((x0 :: done).map bv)]) hn hm By (show y.q ≠ 0 by omega) By.1 By.2.1
        have bk : bmK .append (.ref h.length) (h ++ [.lst ((x0 :: done).map bv)]) = true := bmK_lst (xs := (x0 :: done).map bv) .append (by simp)
        have dl : done.length ≤ L.length := by rw [← hd]; simp
        have ap : Bm.run .append (.ref h.length) [bv y] (h ++ [.lst ((x0 :: done).map bv)]) = .ok .non (h ++ [.lst ((x0 :: (done ++ [y])).map bv)]) := by
          rw [append_lst (xs := (x0 :: done).map bv) (by simp) (by simp [SZ]; omega)]
          simp
        have eb : D.tup [.tup [.int y.p, .int y.q], lowD (vl y y.p y.q) y.q] = bv y := rfl
        have gd := getI_d1 y (h ++ [.lst ((x0 :: done).map bv)])
        simp only [List.map_cons (l := r')]
        generalize lowD (vl y y.p y.q) y.q = lw at *
        generalize (h ++ [.lst ((x0 :: (done ++ [y])).map bv)]) = h3 at *
        generalize (h ++ [.lst ((x0 :: done).map bv)]) = h2 at *
        generalize y.d = yd at *
        generalize L.map St.d = LD at *
        rw [forE_nx (s2 := [some (.tup LD), some (.ref h.length), some yd]) (s3 := [some (.tup LD), some (.ref h.length), some yd]) (h3 := h3) trivial rfl (by
          simp only [f_lines_bends, dropB, headB, forBody]
          simp [gd, ra, bk, eb, ap])]
        exact e
    obtain ⟨v', e⟩ := loop L [] (by simp) none
    have eb : bnl L = x0 :: L := by rw [hL, hx0]; rfl
    rw [eb]
    have ed : D.tup [.tup [.int 0, .int 1], lowD (vl x 0 1) 1] = bv x0 := by rw [hx0]; rfl
    generalize lowD (vl x 0 1) 1 = l0 at *
    have em : [bv x0] = ([x0] : List St).map bv := rfl
    generalize h ++ [.lst ((x0 :: L).map bv)] = h3 at *
    generalize x.d = xd at *
    have w : walkSq (h ++ [O.lst ([x0].map bv)]) (.tup (L.map St.d)) = some ⟨L.map St.d, fun _ => True⟩ := rfl
    generalize L.map St.d = LD at *
    rw [call_eq K.bends rfl]
    show SR.fin (exB ⟨T, call T (k + 3)⟩ f_lines_bends.body [some (.tup LD), none, none] h) = _
    simp only [f_lines_bends, dropB, headB, forBody] at e ⊢
    simp [K.ln.nought, g0, r0, ed]
    simp at e
    simp [e]
theorem lt_nought {v q : Int} (hq : 0 < q) : (low1 v q * 1 < 0 * low2 v q) ↔ v < 0 := by
  obtain ⟨e1, e2⟩ := low_parts (a := v) (show q ≠ 0 by omega)
  have es : sg v q = (Int.gcd v q : Int) := if_neg (by omega)
  have g := gcd_pos (a := v) (show q ≠ 0 by omega)
  rw [es] at e1
  generalize low1 v q = a at *
  generalize (Int.gcd v q : Int) = gg at *
  rw [Int.zero_mul, Int.mul_one, e1]
  constructor
  · exact fun h => Int.mul_neg_of_neg_of_pos h g
  · intro h
    rcases Int.lt_or_le a 0 with z | z
    · exact z
    · have := Int.mul_nonneg z (Int.le_of_lt g)
      omega
theorem lt_one {v q : Int} (hq : 0 < q) : (1 * low2 v q < low1 v q * 1) ↔ q < v := by
  obtain ⟨e1, e2⟩ := low_parts (a := v) (show q ≠ 0 by omega)
  have es : sg v q = (Int.gcd v q : Int) := if_neg (by omega)
  have g := gcd_pos (a := v) (show q ≠ 0 by omega)
  rw [es] at e1 e2
  generalize low1 v q = a at *
  generalize low2 v q = b at *
  generalize (Int.gcd v q : Int) = gg at *
  rw [Int.one_mul, Int.mul_one, e1, e2]
  exact ⟨fun h => Int.mul_lt_mul_of_pos_right h g, fun h => Int.lt_of_mul_lt_mul_right h (by omega)⟩
def stB : Bl := forBody (headB f_lines_stays.body)
theorem stays_loop {T : Tab} (K : KStay T) (k : Nat) (h : Hs) (ok : Hs → Prop) (hok : ok h) (v0 : Option D) {n m : Nat} (hn : n ≤ 1500) (hm : m ≤ 2000) : ∀ (r : List St) (v1 v2 : Option D), (∀ y ∈ r, 0 < y.q ∧ Bx n m y) →
    ∃ v1' v2', forE ⟨T, call T (k + 1)⟩ (.many [1, 2]) stB ok (r.map bv) [v0, v1, v2] h = bif r.all okV then .nx [v0, v1', v2'] h else .rt (.bl false) h
  | [], v1, v2, _ => ⟨v1, v2, by rw [List.all_nil]; exact forE_nil hok⟩
  | y :: r, v1, v2, hr => by
    obtain ⟨yq, B⟩ := hr y List.mem_cons_self
    obtain ⟨v1', v2', ih⟩ := stays_loop K k h ok hok v0 hn hm r (some (.tup [.int y.p, .int y.q])) (some (lowD (vl y y.p y.q) y.q)) (fun z hz => hr z (List.mem_cons_of_mem _ hz))
    refine ⟨v1', v2', ?_⟩
    have vb := (vl_bd B B.1 B.2.1).mono (m := 3900) (by omega)
    have qb := B.2.1.mono (m := 3900) (by omega)
    have nq : y.q ≠ 0 := by omega
    have l1 := less_ok0 K.ln.less k h (low1 (vl y y.p y.q) y.q) (low2 (vl y y.p y.q) y.q) 0 1 ⟨low1_bd nq vb, low2_bd nq qb, (show Bd 1 0 from Bd.of (by decide)).mono (by decide), (show Bd 1 1 from Bd.of (by decide)).mono (by decide)⟩
    have l2 := less_ok0 K.ln.less k h 1 1 (low1 (vl y y.p y.q) y.q) (low2 (vl y y.p y.q) y.q) ⟨(show Bd 1 1 from Bd.of (by decide)).mono (by decide), (show Bd 1 1 from Bd.of (by decide)).mono (by decide), low1_bd nq vb, low2_bd nq qb⟩
    have t1 := lt_nought (v := vl y y.p y.q) yq
    have t2 := lt_one (v := vl y y.p y.q) yq
    have el : D.tup [.int (low1 (vl y y.p y.q) y.q), .int (low2 (vl y y.p y.q) y.q)] = lowD (vl y y.p y.q) y.q := rfl
    rw [el] at l1 l2
    simp only [List.map_cons, List.all_cons]
    have as_ : asg (.many [1, 2]) (bv y) [v0, v1, v2] = some [v0, some (.tup [.int y.p, .int y.q]), some (lowD (vl y y.p y.q) y.q)] := rfl
    have eo : okV y = (!decide (vl y y.p y.q < 0) && !decide (y.q < vl y y.p y.q)) := by
      unfold okV
      rw [Bool.eq_iff_iff]
      simp only [decide_eq_true_eq, Bool.and_eq_true, Bool.not_eq_true', decide_eq_false_iff_not]
      omega
    have e1 : decide (low1 (vl y y.p y.q) y.q * 1 < 0 * low2 (vl y y.p y.q) y.q) = decide (vl y y.p y.q < 0) := by simp only [t1]
    have e2 : decide (1 * low2 (vl y y.p y.q) y.q < low1 (vl y y.p y.q) y.q * 1) = decide (y.q < vl y y.p y.q) := by simp only [t2]
    rw [e1] at l1
    rw [e2] at l2
    rw [eo]
    generalize lowD (vl y y.p y.q) y.q = lw at *
    generalize decide (vl y y.p y.q < 0) = c1 at *
    generalize decide (y.q < vl y y.p y.q) = c2 at *
    cases c1
    · cases c2
      · rw [forE_nx (s3 := [v0, some (.tup [.int y.p, .int y.q]), some lw]) (h3 := h) hok as_ (by simp [stB, f_lines_stays, headB, forBody, K.ln.nought, K.one, l1, l2])]
        simpa using ih
      · rw [forE_rt (h3 := h) (v := .bl false) hok as_ (by simp [stB, f_lines_stays, headB, forBody, K.ln.nought, K.one, l1, l2])]
        simp
    · rw [forE_rt (h3 := h) (v := .bl false) hok as_ (by simp [stB, f_lines_stays, headB, forBody, K.ln.nought, K.one, l1, l2])]
      simp
theorem wi_bnl {L : List St} (h : L ≠ []) : wi L = (bnl L).all okV := by
  cases L with
  | nil => exact absurd rfl h
  | cons x r =>
    simp only [wi, bnl, List.all_cons]
    congr 1
theorem stays_ok {T : Tab} (K : KStay T) (k : Nat) (h : Hs) {n m : Nat} (hn : n ≤ 1500) (h1 : 1 ≤ n) (hm : m ≤ 2000) {L : List St} (l : Lin n m L) : ∃ o, call T (k + 5) "lines.stays" [.tup (L.map St.d)] h = .ok (.bl (wi L)) (h ++ [o]) := by
  have be := bends2_ok K k h hn h1 hm l
  have w := walkSq_lst (h := h ++ [O.lst ((bnl L).map bv)]) (n := h.length) (xs := (bnl L).map bv) (by simp)
  have bb : ∀ y ∈ bnl L, 0 < y.q ∧ Bx n m y := fun y hy => by
    cases hL : L with
    | nil => exact absurd hL l.ne
    | cons x r =>
      rw [hL] at hy
      simp only [bnl] at hy
      rcases List.mem_cons.mp hy with rfl | hy
      · have b := l.bx x (by rw [hL]; exact List.mem_cons_self)
        exact ⟨(show (0 : Int) < 1 by decide), (show Bd 1 0 from Bd.of (by decide)).mono h1, (show Bd 1 1 from Bd.of (by decide)).mono h1, b.2.2⟩
      · have hy' : y ∈ L := by rw [hL]; exact hy
        exact ⟨(l.cn.gq y hy').1.2.1, l.bx y hy'⟩
  obtain ⟨v1, v2, e⟩ := stays_loop K (k + 3) (h ++ [O.lst ((bnl L).map bv)]) (fun z => z[h.length]? = some (.lst ((bnl L).map bv))) (by simp) (some (.tup (L.map St.d))) hn hm (bnl L) none none bb
  refine ⟨O.lst ((bnl L).map bv), ?_⟩
  rw [wi_bnl l.ne]
  generalize (bnl L).all okV = b at *
  generalize (bnl L).map bv = BD at *
  generalize L.map St.d = LD at *
  rw [call_eq K.stays rfl]
  show SR.fin (exB ⟨T, call T (k + 4)⟩ f_lines_stays.body [some (.tup LD), none, none] h) = _
  simp only [stB, f_lines_stays, headB, forBody] at e ⊢
  rw [exB_cons, exS_for, walk_sq, evE_call, evs_cons, evE_v]
  simp only [getL_zero, kVar_some, kCons1_ok, evs_nil, kCons2_ok, kCall_ok, be, kSq_ok, w, kWalk_some, kFor_ok, e]
  cases b <;> simp
end Q

/-! sayings drawn by the numbers of a script -/
namespace Q
/-! ### texts by their signs -/
theorem chars_inj' : ∀ {a b : List Char}, a.map Char.toNat = b.map Char.toNat → a = b
  | [], [], _ => rfl
  | [], _ :: _, h => by simp at h
  | _ :: _, [], h => by simp at h
  | a :: as, b :: bs, h => by
    simp only [List.map_cons, List.cons.injEq] at h
    have e : a = b := Char.ext (UInt32.toNat_inj.mp h.1)
    rw [e, chars_inj' h.2]
theorem S_inj {a b : String} (h : S a = S b) : a = b := by
  unfold S at h
  rw [PySem.Str.ofString_eq_toList, PySem.Str.ofString_eq_toList] at h
  injection h with h
  have e : a.toList.map Char.toNat = b.toList.map Char.toNat := by
    have := congrArg Array.toList h
    simpa using this
  exact String.ext (by have := chars_inj' e; simpa using this)
@[simp] theorem S_eq (a b : String) : (S a == S b) = decide (a = b) := by
  by_cases h : a = b
  · subst h; simp
  · rw [decide_eq_false h, beq_eq_false_iff_ne]
    exact fun e => h (S_inj e)
noncomputable section
variable {h : Hs}
theorem in2_S (x a b : PySem.Str) : Cop.run .isin (.str x) (.tup [.str a, .str b]) h = .ok (.bl (a == x || b == x)) h := by
  simp [Cop.run, isIn, inSeq, eqv, rsv, rsF, ddep, deq, opt]
@[simp] theorem and_tt (C : Cl) (s : Ev) (es : Exs) : evAnd C (.cons (.k (.bl true)) es) s h = (match es with
    | .nil => .ok (.bl true) h
    | es => evAnd C es s h) := by
  cases es <;> simp
theorem popAt_cons {n : Nat} {x : D} {xs : List D} (q : h[n]? = some (.lst (x :: xs))) : Bm.run .popAt (.ref n) [.int 0] h = .ok x (h.set n (.lst xs)) := by
  simp only [Bm.run, q, if_true]
theorem slice_lst {n : Nat} {xs : List D} (q : h[n]? = some (.lst xs)) (lo hi : Option Int) : slice (.ref n) lo hi h = .ok (.ref h.length) (h ++ [.lst (cut xs lo hi)]) := by
  simp only [slice, q]
end
theorem cut_map {α β : Type} (f : α → β) (xs : List α) (lo hi : Option Int) : cut (xs.map f) lo hi = (cut xs lo hi).map f := by
  simp only [cut, List.length_map, List.map_take, List.map_drop]
theorem cut_mem {α : Type} {xs : List α} {lo hi : Option Int} {x : α} (h : x ∈ cut xs lo hi) : x ∈ xs := List.mem_of_mem_drop (List.mem_of_mem_take h)
theorem cut_len {α : Type} (xs : List α) (lo hi : Option Int) : (cut xs lo hi).length ≤ xs.length := by
  simp only [cut, List.length_take, List.length_drop]
  omega
theorem rangeL_len' : ∀ (lo : Int) (n : Nat), (rangeL lo n).length = n
  | _, 0 => rfl
  | lo, n + 1 => by rw [rangeL, List.length_cons, rangeL_len' (lo + 1) n]
/-- the cells of a law: not below nought, of bounded size -/
def Cells (cs : List Int) : Prop := ∀ c ∈ cs, 0 ≤ c ∧ Bd 1048577 c
theorem len_and (ns : List Int) (h : Hs) (h0 : h[0]? = some (.frz (ns.map .int))) (C : Cl) (s : Ev) (hs : getL s 0 = some (.ref 0)) :
    evAnd C (.cons (.cmp .gt (.b .len (.cons (.v 0) .nil)) (.k (.int 0))) (.cons (.cmp .eq (.bin .mod (.sub (.v 0) (.k (.int 0))) (.k (.int 2))) (.k (.int 1))) .nil)) s h = .ok (.bl (odd0 ns)) h := by
  cases ns with
  | nil => simp [hs, len_frz h0, odd0]
  | cons z zs =>
    have hl : (0 : Int) < (zs.length : Int) + 1 := by omega
    have hg : getI (.ref 0) (.int 0) h = .ok (.int z) h := by
      rw [getI_frz h0, atI_nat (by omega) (by simp <;> omega)]
      rfl
    simp [hs, len_frz h0, hl, hg, run_mod, odd0]
def mixBody : Bl := match f__law_mixed.body with
  | .cons _ (.cons _ (.cons (.for _ _ b) _)) => b
  | _ => .nil
theorem mixed_turn {C : Cl} {h : Hs} {ns : List Int} (h0 : h[0]? = some (.frz (ns.map .int))) (S : Scr ns) (l : Option D) (ms : List Int) (hm : Cells ms) (hl : ms.length < 100) (j : Int) (j0 : 0 ≤ j) (j1 : j < 100) (v : Option D) :
    ∃ c w, (0 ≤ c ∧ Bd 1048577 c) ∧ exB C mixBody [some (.ref 0), l, some (.bl (odd0 ns)), some (.ref h.length), some (.int j), v] (h ++ [.lst (ms.map .int)]) = .nx [some (.ref 0), l, some (.bl (odd0 ns)), some (.ref h.length), some (.int j), w] (h ++ [.lst ((ms ++ [c]).map .int)]) := by
  have g0 : (h ++ [.lst (ms.map .int)])[0]? = some (.frz (ns.map .int)) := (Gr.app h _).at h0
  have bk : bmK .append (.ref h.length) (h ++ [.lst (ms.map .int)]) = true := bmK_lst (xs := ms.map .int) .append (by simp)
  have ap : ∀ d, Bm.run .append (.ref h.length) [d] (h ++ [.lst (ms.map .int)]) = .ok .non (h ++ [.lst (ms.map .int ++ [d])]) := fun d => by
    rw [append_lst (xs := ms.map .int) (by simp) (by simp [SZ]; omega)]
    simp
  have ln := len_frz g0
  rw [List.length_map] at ln
  obtain ⟨c, bc, hc⟩ : ∃ c, Bd 1048577 c ∧ (j < ns.length → getI (.ref 0) (.int j) (h ++ [.lst (ms.map .int)]) = .ok (.int c) (h ++ [.lst (ms.map .int)])) ∧ (¬ j < ns.length → c = 0) := by
    by_cases hj : j < ns.length
    · refine ⟨ns[j.toNat]'(by omega), Bd.bits (S.bits _ (List.getElem_mem _)), fun _ => ?_, fun z => absurd hj z⟩
      rw [getI_frz g0, atI_nat j0 (by simpa using hj)]
      simp
    · exact ⟨0, Bd.of (Nat.pow_pos (by decide)), fun z => absurd z hj, fun _ => rfl⟩
  have ba : 0 ≤ (c.natAbs : Int) ∧ Bd 1048577 (c.natAbs : Int) := ⟨by omega, bc.le (by omega)⟩
  have nz : (10 ^ 18 : Int) ≠ 0 := by decide
  have b1 : Bd 60 (c.fmod (10 ^ 18)) := Bd.fmod _ (Bd.of (by decide)) (by decide)
  have m1 := b1.mulB (by decide)
  have m2 : mulB 48271 := by decide
  have m3 : mulB 16807 := by decide
  have m4 : mulB (j + 1) := (show Bd 10 (j + 1) from Bd.of (by omega)).mulB (by decide)
  have m5 : mulB 69621 := by decide
  generalize hN : (10 ^ 18 : Int) = N at *
  have m6 : mulB ((c.fmod N * 48271 + 16807 * (j + 1)).fmod 2147483647) := (show Bd 31 _ from Bd.fmod _ (Bd.of (by decide)) (by decide)).mulB (by decide)
  have bm : 0 ≤ ((c.fmod N * 48271 + 16807 * (j + 1)).fmod 2147483647 * 69621).fmod 2147483629 ∧ Bd 1048577 (((c.fmod N * 48271 + 16807 * (j + 1)).fmod 2147483647 * 69621).fmod 2147483629) :=
    ⟨Int.fmod_nonneg_of_pos _ (by decide), (show Bd 31 _ from Bd.fmod _ (Bd.of (by decide)) (by decide)).mono (by decide)⟩
  by_cases hj : j < ns.length
  · have hg := hc.1 hj
    by_cases ho : odd0 ns = true
    · by_cases hp : 0 < j
      · refine ⟨_, some (.int c), ba, ?_⟩
        simp [mixBody, f__law_mixed, ln, hj, hg, ho, hp, bk, ap]
        omega
      · refine ⟨_, some (.int c), bm, ?_⟩
        simp [mixBody, f__law_mixed, ln, hj, hg, ho, hp, bk, ap, run_mod, run_mul, run_pow, hN, nz, m1, m2, m3, m4, m5, m6]
    · have ho' : odd0 ns = false := by simpa using ho
      refine ⟨_, some (.int c), bm, ?_⟩
      simp [mixBody, f__law_mixed, ln, hj, hg, ho', bk, ap, run_mod, run_mul, run_pow, hN, nz, m1, m2, m3, m4, m5, m6]
  · have ec := hc.2 hj
    subst ec
    have z1 : mulB 0 := by decide
    have z6 : mulB ((16807 * (j + 1)).fmod 2147483647) := (show Bd 31 _ from Bd.fmod _ (Bd.of (by decide)) (by decide)).mulB (by decide)
    by_cases ho : odd0 ns = true
    · refine ⟨_, some (.int 0), bm, ?_⟩
      by_cases hp : 0 < j
      · simp [mixBody, f__law_mixed, ln, hj, ho, hp, bk, ap, run_mod, run_mul, run_pow, hN, nz, m2, m3, m4, m5, z1, z6]
      · simp [mixBody, f__law_mixed, ln, hj, ho, hp, bk, ap, run_mod, run_mul, run_pow, hN, nz, m2, m3, m4, m5, z1, z6]
    · have ho' : odd0 ns = false := by simpa using ho
      refine ⟨_, some (.int 0), bm, ?_⟩
      simp [mixBody, f__law_mixed, ln, hj, ho', bk, ap, run_mod, run_mul, run_pow, hN, nz, m2, m3, m4, m5, z1, z6]
theorem mixed_ok {T : Tab} (hT : T.fn "_law_mixed" = some f__law_mixed) {h : Hs} {ns : List Int} (h0 : h[0]? = some (.frz (ns.map .int))) (S : Scr ns) (k : Nat) (least : Int) (l0 : 0 ≤ least) (l1 : least < 62) :
    ∃ (cs : List Int) (o : O), Cells cs ∧ cs.length < 100 ∧ call T (k + 1) "_law_mixed" [.ref 0, .int least] h = .ok (.ref (h.length + 1)) (h ++ [o, .lst (cs.map .int)]) := by
  have hl := S.len
  generalize hm : (if least + 1 < (if (ns.length : Int) < 63 then (ns.length : Int) else 63) then (if (ns.length : Int) < 63 then (ns.length : Int) else 63) else least + 1) = m
  have m1 : 0 ≤ m ∧ m ≤ 63 := by rw [← hm]; split <;> split <;> omega
  have r := rng1_ok (h := h ++ [.lst []]) (j := m) ⟨by omega, by omega⟩
  obtain ⟨s', h', e, ms, w, v, es, eh, cm, lm⟩ := forE_ix (C := ⟨T, call T k⟩) (tg := .one 4) (a := mixBody) (ok := fun _ => True)
    (fun i s H => ∃ ms w v, s = [some (.ref 0), some (.int least), some (.bl (odd0 ns)), some (.ref h.length), w, v] ∧ H = h ++ [.lst (ms.map .int)] ∧ Cells ms ∧ ms.length = i) (fun _ _ _ _ => trivial)
    (ds := rangeL 0 m.toNat) (n := 0) (s := [some (.ref 0), some (.int least), some (.bl (odd0 ns)), some (.ref h.length), none, none]) (h := h ++ [.lst []])
    (fun i d hd s H ⟨ms, w, v, es, eh, cm, lm⟩ => by
      obtain ⟨j, hj, rfl⟩ := rangeL_mem (List.mem_of_getElem? hd)
      have hi : i < m.toNat := by
        have := (List.getElem?_eq_some_iff.mp hd).1
        rwa [rangeL_len'] at this
      obtain ⟨c, w', bc, e⟩ := mixed_turn (C := ⟨T, call T k⟩) h0 S (some (.int least)) ms cm (by omega) (0 + j) (by omega) (by omega) v
      subst es eh
      exact ⟨_, _, _, rfl, .inl e, ms ++ [c], _, _, rfl, rfl, fun x hx => by
        rcases List.mem_append.mp hx with hx | hx
        · exact cm x hx
        · rw [List.mem_singleton.mp hx]; exact bc, by simp [lm]⟩) ⟨[], _, _, rfl, by simp, fun x hx => by simp at hx, rfl⟩
  subst es eh
  rw [rangeL_len'] at lm
  refine ⟨cut ms (some (b2i (odd0 ns))) none, .lst (ms.map .int), fun x hx => cm x (cut_mem hx), Nat.lt_of_le_of_lt (cut_len _ _ _) (by omega), ?_⟩
  rw [call_eq hT rfl]
  have ea := len_and ns h h0 ⟨T, call T k⟩ [some (.ref 0), some (.int least), none, none, none, none] rfl
  have ln := len_frz (h := h ++ [.lst []]) ((Gr.app h _).at h0)
  rw [List.length_map] at ln
  have sl := slice_lst (h := h ++ [.lst (ms.map .int)]) (n := h.length) (xs := ms.map .int) (by simp) (some (b2i (odd0 ns))) none
  rw [cut_map] at sl
  simp only [mixBody, f__law_mixed] at e
  simp [f__law_mixed, start, List.replicate_succ] at ea ⊢
  simp [ea, ln, hm, r, e, sl]
theorem set_same {h : Hs} {n : Nat} {o : O} (q : h[n]? = some o) : h.set n o = h := by
  apply List.ext_getElem?
  intro i
  by_cases e : i = n
  · subst e
    have l := (List.getElem?_eq_some_iff.mp q).1
    rw [List.getElem?_set_self l, q]
  · rw [List.getElem?_set_ne (Ne.symm e)]
theorem at_set {h : Hs} {n : Nat} {o o' : O} (q : h[n]? = some o) : (h.set n o')[n]? = some o' := List.getElem?_set_self (List.getElem?_eq_some_iff.mp q).1
theorem next_ok {T : Tab} (hT : T.fn "_law_next" = some f__law_next) (k : Nat) {h : Hs} {n : Nat} {cs : List Int} (hn : h[n]? = some (.lst (cs.map .int))) (C : Cells cs) :
    ∃ c cs', (0 ≤ c ∧ Bd 1048577 c) ∧ Cells cs' ∧ cs'.length ≤ cs.length ∧ call T (k + 1) "_law_next" [.ref n] h = .ok (.int c) (h.set n (.lst (cs'.map .int))) := by
  rw [call_eq hT rfl]
  cases cs with
  | nil =>
    refine ⟨0, [], ⟨by decide, Bd.of (Nat.pow_pos (by decide))⟩, C, by simp, ?_⟩
    rw [set_same hn]
    simp [f__law_next, start, len_lst hn]
  | cons c cs =>
    refine ⟨c, cs, C c List.mem_cons_self, fun x hx => C x (List.mem_cons_of_mem _ hx), by simp, ?_⟩
    have bk : bmK .popAt (.ref n) h = true := bmK_lst (xs := (c :: cs).map .int) .popAt hn
    have pp : Bm.run .popAt (.ref n) [.int 0] h = .ok (.int c) (h.set n (.lst (cs.map .int))) := popAt_cons hn
    have e : ¬ ((cs.length : Int) + 1 = 0) := by omega
    have ln : Bi.run .len [.ref n] h = .ok (.int ((cs.length : Int) + 1)) h := by
      rw [len_lst hn]; simp
    simp [f__law_next, start, ln, e, bk, pp]
/-! ### trees of sayings -/
inductive Wo where | more | less | greater | lesser | leads
  deriving DecidableEq
inductive Tr where
  | nev | alw | lt (q : Bool) | nt (t : Tr) | fd (w : Wo) (a b : Tr)
  deriving DecidableEq
def Wo.s : Wo → String
  | .more => "more" | .less => "less" | .greater => "greater" | .lesser => "lesser" | .leads => "leads"
def Wo.of (i : Int) : Wo := if i = 0 then .more else if i = 1 then .less else if i = 2 then .greater else if i = 3 then .lesser else .leads
def Tr.size : Tr → Nat
  | .nev | .alw | .lt _ => 1
  | .nt t => 1 + t.size
  | .fd _ a b => 1 + a.size + b.size
def Tr.dep : Tr → Nat
  | .nev | .alw | .lt _ => 1
  | .nt t => 1 + t.dep
  | .fd _ a b => 1 + max a.dep b.dep
theorem Tr.dep_size : ∀ t : Tr, t.dep ≤ t.size
  | .nev | .alw | .lt _ => Nat.le_refl _
  | .nt t => by have := t.dep_size; simp only [Tr.dep, Tr.size]; omega
  | .fd _ a b => by have := a.dep_size; have := b.dep_size; simp only [Tr.dep, Tr.size]; omega
theorem Tr.dep_pos : ∀ t : Tr, 1 ≤ t.dep
  | .nev | .alw | .lt _ => Nat.le_refl _
  | .nt t => by simp only [Tr.dep]; omega
  | .fd _ a b => by simp only [Tr.dep]; omega
def Tr.ls (q : Bool) : String := if q = true then "q" else "p"
/-- the law's tuples -/
def Tr.d : Tr → D
  | .nev => .tup [.str (S "never")]
  | .alw => .tup [.str (S "always")]
  | .lt q => .tup [.str (S (Tr.ls q))]
  | .nt t => .tup [.str (S "not"), t.d]
  | .fd w a b => .tup [.str (S w.s), a.d, b.d]
theorem fmod_ofNat_range (a m : Int) (h : 0 < m) : ∃ i : Nat, a.fmod m = i ∧ (i : Int) < m := by
  have q1 := Int.fmod_nonneg_of_pos a h
  have q2 := Int.fmod_lt_of_pos a h
  exact ⟨(a.fmod m).toNat, by omega, by omega⟩
theorem words_at (i : Int) (h0 : 0 ≤ i) (h1 : i < 5) : atI [D.str (S "more"), D.str (S "less"), D.str (S "greater"), D.str (S "lesser"), D.str (S "leads")] i = some (.str (S (Wo.of i).s)) := by
  have : i = 0 ∨ i = 1 ∨ i = 2 ∨ i = 3 ∨ i = 4 := by omega
  rcases this with rfl | rfl | rfl | rfl | rfl <;> simp [Wo.of, Wo.s]
theorem saying_ok {T : Tab} (hT : T.fn "_law_saying" = some f__law_saying) (hN : T.fn "_law_next" = some f__law_next) (two : Bool) (k : Nat) : ∀ (m : Nat) (room : Int), 1 ≤ room → room ≤ m → ∀ {h : Hs} {n : Nat} {cs : List Int}, h[n]? = some (.lst (cs.map .int)) → Cells cs →
    ∃ (t : Tr) (cs' : List Int), (t.size : Int) ≤ room ∧ Cells cs' ∧ cs'.length ≤ cs.length ∧ call T (k + 1 + m) "_law_saying" [.ref n, .int room, .bl two] h = .ok t.d (h.set n (.lst (cs'.map .int)))
  | 0, room, h1, h2, _, _, _, _, _ => by omega
  | m + 1, room, h1, h2, h, n, cs, hn, C => by
    obtain ⟨c, c1, bc, C1, l1, e1⟩ := next_ok hN (k + m) hn C
    rw [show k + 1 + (m + 1) = k + 1 + m + 1 by omega, call_eq hT rfl]
    rw [show k + m + 1 = k + 1 + m by omega] at e1
    have hn1 : (h.set n (.lst (c1.map .int)))[n]? = some (.lst (c1.map .int)) := at_set hn
    have d16 : divB 16 := by decide
    have d5 : divB 5 := by decide
    have q1 := Int.fmod_nonneg_of_pos c (show (0 : Int) < 16 by decide)
    have w1 := Int.fmod_nonneg_of_pos (c.fdiv 16) (show (0 : Int) < 5 by decide)
    have w2 := Int.fmod_lt_of_pos (c.fdiv 16) (show (0 : Int) < 5 by decide)
    by_cases hr : 2 < room ∧ 3 < c.fmod 16
    · have v1 := Int.fmod_nonneg_of_pos ((c.fdiv 16).fdiv 5) (show (0 : Int) < room - 2 by omega)
      have v2 := Int.fmod_lt_of_pos ((c.fdiv 16).fdiv 5) (show (0 : Int) < room - 2 by omega)
      have nz : room - 2 ≠ 0 := by omega
      generalize hlf : 1 + ((c.fdiv 16).fdiv 5).fmod (room - 2) = lf
      obtain ⟨a, c2, sa, C2, l2, e2⟩ := saying_ok hT hN two k m lf (by omega) (by omega) hn1 C1
      have hn2 : ((h.set n (.lst (c1.map .int))).set n (.lst (c2.map .int)))[n]? = some (.lst (c2.map .int)) := at_set hn1
      obtain ⟨b, c3, sb, C3, l3, e3⟩ := saying_ok hT hN two k m (room - 1 - lf) (by omega) (by omega) hn2 C2
      rw [List.set_set] at e2 hn2 e3
      rw [List.set_set] at e3
      refine ⟨.fd (Wo.of ((c.fdiv 16).fmod 5)) a b, c3, by simp only [Tr.size]; omega, C3, by omega, ?_⟩
      have wa := words_at _ w1 w2
      have hh1 := hr.1
      have hh2 := hr.2
      simp [f__law_saying, start, List.replicate_succ, e1, run_fdiv, run_mod, d16, d5, hh1, hh2, nz, hlf, e2, e3, wa, Tr.d]
    · by_cases hr2 : 1 < room ∧ c.fmod 16 < 3
      · obtain ⟨a, c2, sa, C2, l2, e2⟩ := saying_ok hT hN two k m (room - 1) (by omega) (by omega) hn1 C1
        rw [List.set_set] at e2
        refine ⟨.nt a, c2, by simp only [Tr.size]; omega, C2, by omega, ?_⟩
        have hh1 := hr2.1
        have hh2 := hr2.2
        have hh3 : ¬ (3 < c.fmod 16) := by omega
        by_cases hh4 : 2 < room
        · simp [f__law_saying, start, List.replicate_succ, e1, run_fdiv, run_mod, d16, hh1, hh2, hh3, hh4, e2, Tr.d]
        · simp [f__law_saying, start, List.replicate_succ, e1, run_fdiv, run_mod, d16, hh1, hh2, hh4, e2, Tr.d]
      · have z1 := Int.fmod_nonneg_of_pos (c.fdiv 16) (show (0 : Int) < 9 by decide)
        have z2 := Int.fmod_lt_of_pos (c.fdiv 16) (show (0 : Int) < 9 by decide)
        have y1 := Int.fmod_nonneg_of_pos (c.fdiv 16) (show (0 : Int) < 2 by decide)
        have y2 := Int.fmod_lt_of_pos (c.fdiv 16) (show (0 : Int) < 2 by decide)
        have m1 : mulB ((c.fdiv 16).fmod 2) := (show Bd 3 _ from Bd.of (by omega)).mulB (by decide)
        have m2 : mulB (b2i two) := by cases two <;> decide
        -- the head's two questions are both no
        have red : ∀ t : Tr, (t.d = if 6 < (c.fdiv 16).fmod 9 then (if (c.fdiv 16).fmod 9 - 7 = 0 then Tr.nev.d else Tr.alw.d) else Tr.d (.lt (decide ((c.fdiv 16).fmod 2 * b2i two = 1)))) →
            (exB ⟨T, call T (k + 1 + m)⟩ f__law_saying.body (start f__law_saying.ns [.ref n, .int room, .bl two]) h).fin = .ok t.d (h.set n (.lst (c1.map .int))) := by
          intro t ht
          have ix : (c.fdiv 16).fmod 2 * b2i two = 0 ∨ (c.fdiv 16).fmod 2 * b2i two = 1 := by
            cases two
            · exact .inl (by simp [b2i])
            · have : (c.fdiv 16).fmod 2 = 0 ∨ (c.fdiv 16).fmod 2 = 1 := by omega
              simpa [b2i] using this
          by_cases g1 : 2 < room
          · have g2 : ¬ (3 < c.fmod 16) := fun z => hr ⟨g1, z⟩
            have g3 : 1 < room := by omega
            have g4 : ¬ (c.fmod 16 < 3) := fun z => hr2 ⟨g3, z⟩
            by_cases g5 : 6 < (c.fdiv 16).fmod 9
            · have : (c.fdiv 16).fmod 9 - 7 = 0 ∨ (c.fdiv 16).fmod 9 - 7 = 1 := by omega
              rw [if_pos g5] at ht
              rcases this with g6 | g6
              · rw [if_pos g6] at ht
                simp [f__law_saying, start, List.replicate_succ, e1, run_fdiv, run_mod, d16, g1, g2, g3, g4, g5, g6, ht, Tr.d]
              · rw [if_neg (by omega)] at ht
                simp [f__law_saying, start, List.replicate_succ, e1, run_fdiv, run_mod, d16, g1, g2, g3, g4, g5, g6, ht, Tr.d]
            · rw [if_neg g5] at ht
              rcases ix with ix | ix
              · simp [f__law_saying, start, List.replicate_succ, e1, run_fdiv, run_mod, d16, g1, g2, g3, g4, g5, run_mul, m1, m2, ix, ht, Tr.d, Tr.ls]
              · simp [f__law_saying, start, List.replicate_succ, e1, run_fdiv, run_mod, d16, g1, g2, g3, g4, g5, run_mul, m1, m2, ix, ht, Tr.d, Tr.ls]
          · by_cases g3 : 1 < room
            · have g4 : ¬ (c.fmod 16 < 3) := fun z => hr2 ⟨g3, z⟩
              by_cases g5 : 6 < (c.fdiv 16).fmod 9
              · have : (c.fdiv 16).fmod 9 - 7 = 0 ∨ (c.fdiv 16).fmod 9 - 7 = 1 := by omega
                rw [if_pos g5] at ht
                rcases this with g6 | g6
                · rw [if_pos g6] at ht
                  simp [f__law_saying, start, List.replicate_succ, e1, run_fdiv, run_mod, d16, g1, g3, g4, g5, g6, ht, Tr.d]
                · rw [if_neg (by omega)] at ht
                  simp [f__law_saying, start, List.replicate_succ, e1, run_fdiv, run_mod, d16, g1, g3, g4, g5, g6, ht, Tr.d]
              · rw [if_neg g5] at ht
                rcases ix with ix | ix
                · simp [f__law_saying, start, List.replicate_succ, e1, run_fdiv, run_mod, d16, g1, g3, g4, g5, run_mul, m1, m2, ix, ht, Tr.d, Tr.ls]
                · simp [f__law_saying, start, List.replicate_succ, e1, run_fdiv, run_mod, d16, g1, g3, g4, g5, run_mul, m1, m2, ix, ht, Tr.d, Tr.ls]
            · by_cases g5 : 6 < (c.fdiv 16).fmod 9
              · have : (c.fdiv 16).fmod 9 - 7 = 0 ∨ (c.fdiv 16).fmod 9 - 7 = 1 := by omega
                rw [if_pos g5] at ht
                rcases this with g6 | g6
                · rw [if_pos g6] at ht
                  simp [f__law_saying, start, List.replicate_succ, e1, run_fdiv, run_mod, d16, g1, g3, g5, g6, ht, Tr.d]
                · rw [if_neg (by omega)] at ht
                  simp [f__law_saying, start, List.replicate_succ, e1, run_fdiv, run_mod, d16, g1, g3, g5, g6, ht, Tr.d]
              · rw [if_neg g5] at ht
                rcases ix with ix | ix
                · simp [f__law_saying, start, List.replicate_succ, e1, run_fdiv, run_mod, d16, g1, g3, g5, run_mul, m1, m2, ix, ht, Tr.d, Tr.ls]
                · simp [f__law_saying, start, List.replicate_succ, e1, run_fdiv, run_mod, d16, g1, g3, g5, run_mul, m1, m2, ix, ht, Tr.d, Tr.ls]
        by_cases g5 : 6 < (c.fdiv 16).fmod 9
        · by_cases g6 : (c.fdiv 16).fmod 9 - 7 = 0
          · exact ⟨.nev, c1, by simp only [Tr.size]; omega, C1, l1, red _ (by rw [if_pos g5, if_pos g6])⟩
          · exact ⟨.alw, c1, by simp only [Tr.size]; omega, C1, l1, red _ (by rw [if_pos g5, if_neg g6])⟩
        · exact ⟨.lt (decide ((c.fdiv 16).fmod 2 * b2i two = 1)), c1, by simp only [Tr.size]; omega, C1, l1, red _ (by rw [if_neg g5])⟩
end Q

/-! lines of folds: how many stretches they can have; heights -/
namespace Q
/-! ### how many stretches -/
def SlB (c : Nat) (L : List St) : Prop := ∀ x ∈ L, x.s.natAbs ≤ c
theorem den_le {c : Nat} : ∀ {L : List St} {p q : Int}, Cn' p q L → Df L → SlB c L → ∀ x ∈ L, x.q ≤ (max 1 (2 * c) : Nat)
  | [], _, _, _, _, _, x, hx => by cases hx
  | [y], _, _, ⟨_, c1, c2⟩, _, _, x, hx => by
    rw [List.mem_singleton.mp hx, c2]
    omega
  | y :: z :: r, _, _, ⟨⟨_, h2, h3, h4⟩, h⟩, ⟨f1, f⟩, s, x, hx => by
    rcases List.mem_cons.mp hx with rfl | hx
    · have sy := s x List.mem_cons_self
      have sz := s z (List.mem_cons_of_mem _ List.mem_cons_self)
      have nd := f1 z r rfl
      simp only [jt] at h4
      have dv : x.q ∣ x.p * (z.s - x.s) := by
        refine ⟨-(z.t - x.t), ?_⟩
        rw [Int.mul_neg, Int.mul_comm x.p, Int.mul_comm x.q]
        omega
      have d2 := dvd_cop h3 dv
      have n0 : z.s - x.s ≠ 0 := fun e => by
        rw [e, Int.zero_mul, Int.zero_add] at h4
        rcases Int.mul_eq_zero.mp h4 with h | h
        · simp only [same, Bool.and_eq_false_iff, decide_eq_false_iff_not] at nd
          omega
        · omega
      have le := Int.natAbs_dvd_natAbs.mpr d2
      have := Nat.le_of_dvd (by omega) le
      omega
    · exact den_le h f (fun w hw => s w (List.mem_cons_of_mem _ hw)) x hx
theorem len_den {Q : Int} : ∀ {L : List St} {p q : Int}, Cn' p q L → 0 < q → q ≤ Q → (∀ x ∈ L, x.q ≤ Q) → (L.length : Int) * q ≤ (q - p) * (Q * Q)
  | [], p, q, ⟨e1, e2⟩, _, _, _ => by
    rw [e1, e2]
    simp
  | x :: r, p, q, ⟨⟨h1, h2, _, _⟩, c⟩, q0, hq, hx => by
    have xq := hx x List.mem_cons_self
    have ih := len_den c h2.2.1 xq fun y hy => hx y (List.mem_cons_of_mem _ hy)
    obtain ⟨W, hW⟩ : ∃ W, W = Q * Q := ⟨_, rfl⟩
    rw [← hW] at ih ⊢
    have a1 : q * x.q ≤ W := by
      rw [hW]
      exact Int.mul_le_mul hq xq (by omega) (by omega)
    have w0 : 0 ≤ W := by have := Int.mul_pos q0 h2.2.1; omega
    have a2 : W ≤ (x.p * q - p * x.q) * W := by
      have := Int.mul_le_mul_of_nonneg_right (show 1 ≤ x.p * q - p * x.q by omega) w0
      omega
    have a3 : (r.length : Int) * x.q * q ≤ (x.q - x.p) * W * q := Int.mul_le_mul_of_nonneg_right ih (by omega)
    have goal : ((r.length : Int) + 1) * q * x.q ≤ (q - p) * W * x.q := by
      have e1 : ((r.length : Int) + 1) * q * x.q = (r.length : Int) * x.q * q + q * x.q := by
        rw [Int.add_mul, Int.add_mul, Int.one_mul, Int.mul_right_comm]
      have e2 : (q - p) * W * x.q = (x.q - x.p) * W * q + (x.p * q - p * x.q) * W := by
        simp only [Int.sub_mul]
        have t1 : q * W * x.q = x.q * W * q := by simp only [Int.mul_assoc, Int.mul_comm, Int.mul_left_comm]
        have t2 : p * W * x.q = p * x.q * W := by simp only [Int.mul_assoc, Int.mul_comm, Int.mul_left_comm]
        have t3 : x.p * W * q = x.p * q * W := by simp only [Int.mul_assoc, Int.mul_comm, Int.mul_left_comm]
        omega
      omega
    rw [List.length_cons, Int.natCast_succ]
    exact Int.le_of_mul_le_mul_right goal h2.2.1
def lb (c : Nat) : Nat := max 1 (2 * c) * max 1 (2 * c)
theorem len_sl {c : Nat} {L : List St} (cn : Cn' 0 1 L) (df : Df L) (s : SlB c L) : L.length ≤ lb c := by
  have := len_den (Q := ((max 1 (2 * c) : Nat) : Int)) cn (by decide) (by omega) (den_le cn df s)
  rw [Int.mul_one, Int.sub_zero, Int.one_mul, ← Int.natCast_mul] at this
  exact Int.ofNat_le.mp this
/-! ### slopes -/
theorem hg_sl {c : Nat} {p q : Int} {u : Pc} (hx : u.x.s.natAbs ≤ c) (hy : u.y.s.natAbs ≤ c) : SlB c (hg p q u) := by
  intro z hz
  unfold hg at hz
  split at hz
  · simp only [List.mem_cons, List.not_mem_nil, or_false] at hz
    rcases hz with rfl | rfl <;> assumption
  · split at hz
    · simp only [List.mem_cons, List.not_mem_nil, or_false] at hz
      rcases hz with rfl | rfl <;> assumption
    · split at hz
      · rw [List.mem_singleton.mp hz]; assumption
      · rw [List.mem_singleton.mp hz]; assumption
theorem gr_sl {c : Nat} : ∀ (ps : List Pc) (p q : Int), (∀ u ∈ ps, u.x.s.natAbs ≤ c ∧ u.y.s.natAbs ≤ c) → SlB c (gr p q ps)
  | [], _, _, _ => fun z hz => by cases hz
  | u :: r, p, q, h => fun z hz => by
    obtain ⟨h1, h2⟩ := h u List.mem_cons_self
    rcases List.mem_append.mp hz with hz | hz
    · exact hg_sl h1 h2 z hz
    · exact gr_sl r _ _ (fun v hv => h v (List.mem_cons_of_mem _ hv)) z hz
theorem grL_sl {c : Nat} {L M : List St} (l : SlB c L) (m : SlB c M) : SlB c (grL L M) := fun z hz =>
  gr_sl _ 0 1 (fun u hu => by
    obtain ⟨j1, j2, _⟩ := (pcs_mem _ L M (Nat.le_refl _)).1 u hu
    exact ⟨l _ j1, m _ j2⟩) z (jnr_mem _ z hz)
theorem tn_sl {c : Nat} {L : List St} (l : SlB c L) : SlB c (L.map tn) := fun z hz => by
  obtain ⟨x, hx, rfl⟩ := List.mem_map.mp hz
  have := l x hx
  simp only [tn, Int.natAbs_neg]
  exact this
theorem rs_sl {c : Nat} {L : List St} (b : Int) (l : SlB c L) : SlB c (L.map (rs b)) := fun z hz => by
  obtain ⟨x, hx, rfl⟩ := List.mem_map.mp hz
  exact l x hx
theorem lsL_sl {c : Nat} {L M : List St} (l : SlB c L) (m : SlB c M) : SlB c (lsL L M) := tn_sl (grL_sl (tn_sl l) (tn_sl m))
theorem lv_sl (c : Nat) (b : Int) : SlB c (lv b) := fun z hz => by
  rw [List.mem_singleton.mp hz]
  exact Nat.zero_le _
theorem coL_sl {c : Nat} {L : List St} (l : SlB c L) : SlB c (coL L) := grL_sl (lsL_sl l (lv_sl c 1)) (lv_sl c 0)
theorem addL_sl {c d : Nat} {L M : List St} (l : SlB c L) (m : SlB d M) : SlB (c + d) (addL L M) := fun z hz => by
  obtain ⟨u, hu, rfl⟩ := List.mem_map.mp (jnr_mem _ z hz)
  obtain ⟨j1, j2, _⟩ := (pcs_mem _ L M (Nat.le_refl _)).1 u hu
  have := l _ j1
  have := m _ j2
  simp only [sm]
  omega
theorem SlB.mono {c d : Nat} {L : List St} (l : SlB c L) (h : c ≤ d) : SlB d L := fun x hx => Nat.le_trans (l x hx) h
/-! ### cut off, of longer lines -/
theorem coL_parts {n m : Nat} {L : List St} (l : Lin n m L) (h1 : 1 ≤ m) (hm : m + 3 ≤ n) (hl : L.length ≤ 300) (hs : (lsL L (lv 1)).length ≤ 300) : Lin n (m + 2) (coL L) ∧ ∀ a b : Int, 0 < b → 0 ≤ a → a ≤ b → hv (coL L) a b = mx (mn (hv L a b) b) 0 := by
  have b1 : Bd m 1 := (show Bd 1 1 from Bd.of (by decide)).mono h1
  have b0 : Bd (m + 2) 0 := (show Bd 1 0 from Bd.of (by decide)).mono (by omega)
  have k := lv_lin (n := n) (by omega) b1
  have s := lsL_lin l k hm (by simp [lv]; omega)
  have z := lv_lin (n := n) (by omega) b0
  refine ⟨grL_lin s z (by omega) (by simp only [lv, List.length_singleton] at hs ⊢; omega), fun a b hb h0 hab => ?_⟩
  unfold coL
  rw [grL_hv s z hb h0 hab, lsL_hv l k hm (by simp [lv]; omega) hb h0 hab, lv_hv hab, lv_hv hab, Int.one_mul, Int.zero_mul]
theorem cut2_ok {T : Tab} (K : KCut T) (k : Nat) (h : Hs) {n m : Nat} (hn : n ≤ 1000) (hm : m + 3 ≤ 2000) {L : List St} (l : Lin n m L) (h1 : 1 ≤ m) (hmn : m + 3 ≤ n) (hl : L.length ≤ 300) (hs : (lsL L (lv 1)).length ≤ 300) : ∃ G, call T (k + 7) "lineworks.cut_off" [.tup (L.map St.d)] h = .ok (.tup ((coL L).map St.d)) (h ++ G) := by
  have b1 : Bd m 1 := (show Bd 1 1 from Bd.of (by decide)).mono h1
  have b0 : Bd (m + 2) 0 := (show Bd 1 0 from Bd.of (by decide)).mono (by omega)
  have v1 := fun h => level_ok K (k + 5) h 1
  have v0 := fun h => level_ok K (k + 5) h 0
  have kk := lv_lin (n := n) (by omega) b1
  have ll1 : (lv 1).length = 1 := rfl
  have ll0 : (lv 0).length = 1 := rfl
  obtain ⟨G1, e1⟩ := lesser_ok K.gr k h hn (by omega) l kk (by omega)
  have s := lsL_lin l kk hmn (by omega)
  obtain ⟨G2, e2⟩ := greater_ok K.gr (k + 1) (h ++ G1) hn (by omega) s (lv_lin (by omega) b0) (by omega)
  refine ⟨G1 ++ G2, ?_⟩
  rw [← List.append_assoc]
  unfold coL
  generalize (grL (lsL L (lv 1)) (lv 0)).map St.d = RD at *
  generalize (lsL L (lv 1)).map St.d = SD at *
  generalize (lv 1).map St.d = A1 at *
  generalize (lv 0).map St.d = A0 at *
  generalize L.map St.d = LD at *
  rw [call_eq K.cut rfl]
  show SR.fin (exB ⟨T, call T (k + 6)⟩ f_lineworks_cut_off.body [some (.tup LD)] h) = _
  simp only [f_lineworks_cut_off, exB_cons, exS_ret, evE_call, evs_cons, evE_v, getL_zero, kVar_some, kCons1_ok, evE_k, evs_nil, kCons2_ok, kCall_ok, v1, v0, e1, e2, kRet_ok, kThen_rt, fin_rt]
/-! ### folds -/
/-- a fold of worths, as the law tells it -/
def fv (w : Wo) (n a b : Int) : Int := match w with
  | .more => if a + b < n then a + b else n
  | .less => if 0 < a + b - n then a + b - n else 0
  | .greater => if a < b then b else a
  | .lesser => if b < a then b else a
  | .leads => if n - a + b < n then n - a + b else n
/-- .. of lines -/
def fl (w : Wo) (L M : List St) : List St := match w with
  | .more => coL (addL L M)
  | .less => coL ((addL L M).map (rs (-1)))
  | .greater => grL L M
  | .lesser => lsL L M
  | .leads => coL ((addL M (L.map tn)).map (rs 1))
/-- a line of a saying of at most c letters -/
structure Gdl (b c : Nat) (L : List St) : Prop where
  lin : Lin 300 b L
  in_ : ∀ a d : Int, 0 < d → 0 ≤ a → a ≤ d → 0 ≤ hv L a d ∧ hv L a d ≤ d
  sl : SlB c L
theorem Gdl.mono {b c b' c' : Nat} {L : List St} (g : Gdl b c L) (hb : b ≤ b') (hc : c ≤ c') : Gdl b' c' L := ⟨g.lin.mono (Nat.le_refl _) hb, g.in_, g.sl.mono hc⟩
theorem Gdl.lb {b c : Nat} {L : List St} (g : Gdl b c L) : L.length ≤ lb c := len_sl g.lin.cn g.lin.df g.sl
theorem lb8 : ∀ c, c ≤ 8 → lb c ≤ 256 := by
  have : ∀ c : Fin 9, lb c.val ≤ 256 := by decide
  exact fun c h => this ⟨c, by omega⟩
theorem lb_sum : ∀ c d, c + d ≤ 8 → lb c + lb d ≤ 258 := by
  have : ∀ c d : Fin 9, c.val + d.val ≤ 8 → lb c.val + lb d.val ≤ 258 := by decide
  exact fun c d h => this ⟨c, by omega⟩ ⟨d, by omega⟩ h
/-- what a fold's inner line is, ahead of cutting off -/
theorem pre_lin {b c : Nat} (hb : 1 ≤ b) (hb2 : b ≤ 200) {A : List St} (a : Lin 300 b A) (s : SlB c A) (hc : c ≤ 8) : A.length ≤ 300 ∧ (lsL A (lv 1)).length ≤ 300 := by
  have l1 := len_sl a.cn a.df s
  have l8 := lb8 c hc
  have b1 : Bd b 1 := (show Bd 1 1 from Bd.of (by decide)).mono hb
  have k := lv_lin (n := 300) (by decide) b1
  have ls := lsL_lin a k (by omega) (by simp only [lv, List.length_singleton]; omega)
  have l2 := len_sl ls.cn ls.df (lsL_sl s (lv_sl c 1))
  omega
theorem fl_gd {b c d : Nat} (hb : 1 ≤ b) (hb2 : b ≤ 190) {L M : List St} (l : Gdl b c L) (m : Gdl b d M) (h : c + d ≤ 8) (w : Wo) : Gdl (b + 6) (c + d) (fl w L M) ∧ ∀ x n : Int, 0 < n → 0 ≤ x → x ≤ n → hv (fl w L M) x n = fv w n (hv L x n) (hv M x n) := by
  have lL := l.lb
  have lM := m.lb
  have ls := lb_sum c d h
  have b0 : Bd b 0 := (show Bd 1 0 from Bd.of (by decide)).mono (by omega)
  have b1 : Bd (b + 1) 1 := (show Bd 1 1 from Bd.of (by decide)).mono (by omega)
  have bm1 : Bd (b + 1) (-1) := (show Bd 1 (-1) from Bd.of (by decide)).mono (by omega)
  have b2 : Bd (b + 2) 1 := (show Bd 1 1 from Bd.of (by decide)).mono (by omega)
  cases w with
  | more =>
    have a := addL_lin l.lin m.lin (by omega)
    have sA := addL_sl l.sl m.sl
    obtain ⟨p1, p2⟩ := pre_lin (by omega) (by omega) a sA h
    obtain ⟨q1, q2⟩ := coL_parts a (by omega) (by omega) p1 p2
    have hvE : ∀ x n : Int, 0 < n → 0 ≤ x → x ≤ n → hv (fl .more L M) x n = fv .more n (hv L x n) (hv M x n) := fun x n hn h0 hx => by
      have i1 := l.in_ x n hn h0 hx
      have i2 := m.in_ x n hn h0 hx
      show hv (coL (addL L M)) x n = _
      rw [q2 x n hn h0 hx, addL_hv l.lin m.lin hn h0 hx]
      unfold fv mx mn
      simp only
      repeat' split
      all_goals omega
    refine ⟨⟨q1.mono (Nat.le_refl _) (by omega), fun x n hn h0 hx => ?_, coL_sl sA⟩, hvE⟩
    rw [hvE x n hn h0 hx]
    have i1 := l.in_ x n hn h0 hx
    have i2 := m.in_ x n hn h0 hx
    unfold fv
    simp only
    split <;> omega
  | less =>
    have a0 := addL_lin l.lin m.lin (by omega)
    have a : Lin 300 (b + 2) ((addL L M).map (rs (-1))) := by rw [rs_gm]; exact a0.gm (.inl rfl) bm1
    have sA : SlB (c + d) ((addL L M).map (rs (-1))) := rs_sl _ (addL_sl l.sl m.sl)
    obtain ⟨p1, p2⟩ := pre_lin (by omega) (by omega) a sA h
    obtain ⟨q1, q2⟩ := coL_parts a (by omega) (by omega) p1 p2
    have hvE : ∀ x n : Int, 0 < n → 0 ≤ x → x ≤ n → hv (fl .less L M) x n = fv .less n (hv L x n) (hv M x n) := fun x n hn h0 hx => by
      have i1 := l.in_ x n hn h0 hx
      have i2 := m.in_ x n hn h0 hx
      show hv (coL ((addL L M).map (rs (-1)))) x n = _
      rw [q2 x n hn h0 hx, rs_gm, hv_gm hx a0.cn a0.ne, addL_hv l.lin m.lin hn h0 hx]
      unfold fv mx mn
      simp only
      repeat' split
      all_goals omega
    refine ⟨⟨q1.mono (Nat.le_refl _) (by omega), fun x n hn h0 hx => ?_, coL_sl sA⟩, hvE⟩
    rw [hvE x n hn h0 hx]
    have i1 := l.in_ x n hn h0 hx
    have i2 := m.in_ x n hn h0 hx
    unfold fv
    simp only
    split <;> omega
  | greater =>
    have hvE : ∀ x n : Int, 0 < n → 0 ≤ x → x ≤ n → hv (fl .greater L M) x n = fv .greater n (hv L x n) (hv M x n) := fun x n hn h0 hx => by
      show hv (grL L M) x n = _
      rw [grL_hv l.lin m.lin hn h0 hx]
      rfl
    refine ⟨⟨(grL_lin l.lin m.lin (by omega) (by omega)).mono (Nat.le_refl _) (by omega), fun x n hn h0 hx => ?_, grL_sl (l.sl.mono (by omega)) (m.sl.mono (by omega))⟩, hvE⟩
    rw [hvE x n hn h0 hx]
    have i1 := l.in_ x n hn h0 hx
    have i2 := m.in_ x n hn h0 hx
    unfold fv
    simp only
    split <;> omega
  | lesser =>
    have hvE : ∀ x n : Int, 0 < n → 0 ≤ x → x ≤ n → hv (fl .lesser L M) x n = fv .lesser n (hv L x n) (hv M x n) := fun x n hn h0 hx => by
      show hv (lsL L M) x n = _
      rw [lsL_hv l.lin m.lin (by omega) (by omega) hn h0 hx]
      unfold fv mn
      simp only
      split <;> split <;> omega
    refine ⟨⟨(lsL_lin l.lin m.lin (by omega) (by omega)).mono (Nat.le_refl _) (by omega), fun x n hn h0 hx => ?_, lsL_sl (l.sl.mono (by omega)) (m.sl.mono (by omega))⟩, hvE⟩
    rw [hvE x n hn h0 hx]
    have i1 := l.in_ x n hn h0 hx
    have i2 := m.in_ x n hn h0 hx
    unfold fv
    simp only
    split <;> omega
  | leads =>
    have t : Lin 300 (b + 1) (L.map tn) := by rw [tn_gm]; exact l.lin.gm (.inr rfl) b0
    have m' := m.lin.mono (Nat.le_refl _) (show b ≤ b + 1 by omega)
    have a0 := addL_lin m' t (by rw [List.length_map]; omega)
    have a : Lin 300 (b + 3) ((addL M (L.map tn)).map (rs 1)) := by rw [rs_gm]; exact a0.gm (.inl rfl) b2
    have sA : SlB (c + d) ((addL M (L.map tn)).map (rs 1)) := rs_sl _ ((addL_sl m.sl (tn_sl l.sl)).mono (by omega))
    obtain ⟨p1, p2⟩ := pre_lin (by omega) (by omega) a sA h
    obtain ⟨q1, q2⟩ := coL_parts a (by omega) (by omega) p1 p2
    have hvE : ∀ x n : Int, 0 < n → 0 ≤ x → x ≤ n → hv (fl .leads L M) x n = fv .leads n (hv L x n) (hv M x n) := fun x n hn h0 hx => by
      have i1 := l.in_ x n hn h0 hx
      have i2 := m.in_ x n hn h0 hx
      show hv (coL ((addL M (L.map tn)).map (rs 1))) x n = _
      rw [q2 x n hn h0 hx, rs_gm, hv_gm hx a0.cn a0.ne, addL_hv m' t hn h0 hx, tn_gm, hv_gm hx l.lin.cn l.lin.ne]
      unfold fv mx mn
      simp only
      repeat' split
      all_goals omega
    refine ⟨⟨q1.mono (Nat.le_refl _) (by omega), fun x n hn h0 hx => ?_, coL_sl sA⟩, hvE⟩
    rw [hvE x n hn h0 hx]
    have i1 := l.in_ x n hn h0 hx
    have i2 := m.in_ x n hn h0 hx
    unfold fv
    simp only
    split <;> omega
end Q

/-! rows and their lines -/
namespace Q
inductive Rw where
  | p | nev | alw | nt (i : Nat) | fd (w : Wo) (i j : Nat)
  deriving DecidableEq
def Rw.d : Rw → D
  | .p => .tup [.str (S "p")]
  | .nev => .tup [.str (S "never")]
  | .alw => .tup [.str (S "always")]
  | .nt i => .tup [.str (S "not"), .int i]
  | .fd w i j => .tup [.str (S w.s), .int i, .int j]
/-- a row at place k -/
def Rw.ok (k : Nat) : Rw → Prop
  | .nt i => i < k
  | .fd _ i j => i < k ∧ j < k
  | _ => True
def RowsOk : Nat → List Rw → Prop
  | _, [] => True
  | k, r :: rs => r.ok k ∧ RowsOk (k + 1) rs
theorem RowsOk.app : ∀ {a b : List Rw} {k : Nat}, RowsOk k a → RowsOk (k + a.length) b → RowsOk k (a ++ b)
  | [], b, k, _, h => by simpa using h
  | r :: a, b, k, ⟨h1, h2⟩, h => ⟨h1, RowsOk.app h2 (by rw [List.length_cons] at h; rw [show k + 1 + a.length = k + (a.length + 1) by omega]; exact h)⟩
/-- the line of a row, of those ahead -/
def rl (ls : List (List St)) : Rw → List St
  | .p => [⟨1, 1, 1, 0⟩]
  | .nev => lv 0
  | .alw => lv 1
  | .nt i => ((ls.getD i []).map tn).map (rs 1)
  | .fd w i j => fl w (ls.getD i []) (ls.getD j [])
def rls (rows : List Rw) (acc : List (List St)) : List (List St) := rows.foldl (fun ls r => ls ++ [rl ls r]) acc
/-- what a fold's lines must be -/
structure FlH (b : Nat) (w : Wo) (L M : List St) : Prop where
  l : Lin 300 b L
  m : Lin 300 b M
  len : L.length + M.length ≤ 400
  mo : w = .more → (addL L M).length ≤ 300 ∧ (lsL (addL L M) (lv 1)).length ≤ 300
  le : w = .less → ((addL L M).map (rs (-1))).length ≤ 300 ∧ (lsL ((addL L M).map (rs (-1))) (lv 1)).length ≤ 300
  ld : w = .leads → ((addL M (L.map tn)).map (rs 1)).length ≤ 300 ∧ (lsL ((addL M (L.map tn)).map (rs 1)) (lv 1)).length ≤ 300
theorem FlH.of {b c d : Nat} (hb : 1 ≤ b) (hb2 : b ≤ 190) {L M : List St} (l : Gdl b c L) (m : Gdl b d M) (h : c + d ≤ 8) (w : Wo) : FlH b w L M := by
  have lL := l.lb
  have lM := m.lb
  have ls := lb_sum c d h
  have b0 : Bd b 0 := (show Bd 1 0 from Bd.of (by decide)).mono (by omega)
  have bm1 : Bd (b + 1) (-1) := (show Bd 1 (-1) from Bd.of (by decide)).mono (by omega)
  have b2 : Bd (b + 2) 1 := (show Bd 1 1 from Bd.of (by decide)).mono (by omega)
  have a := addL_lin l.lin m.lin (by omega)
  have t : Lin 300 (b + 1) (L.map tn) := by rw [tn_gm]; exact l.lin.gm (.inr rfl) b0
  have m' := m.lin.mono (Nat.le_refl _) (show b ≤ b + 1 by omega)
  have a2 := addL_lin m' t (by rw [List.length_map]; omega)
  refine ⟨l.lin, m.lin, by omega, fun _ => pre_lin (by omega) (by omega) a (addL_sl l.sl m.sl) h, fun _ => ?_, fun _ => ?_⟩
  · exact pre_lin (b := b + 2) (by omega) (by omega) (by rw [rs_gm]; exact a.gm (.inl rfl) bm1) (rs_sl _ (addL_sl l.sl m.sl)) h
  · exact pre_lin (b := b + 3) (by omega) (by omega) (by rw [rs_gm]; exact a2.gm (.inl rfl) b2) (rs_sl _ ((addL_sl m.sl (tn_sl l.sl)).mono (by omega))) h
structure KMean (T : Tab) : Prop where
  cut : KCut T
  added : T.fn "lineworks.added" = some f_lineworks_added
  raised : T.fn "lineworks.raised" = some f_lineworks_raised
  fold : T.fn "meanings.fold_line" = some f_meanings_fold_line
  row : T.fn "meanings.row_line" = some f_meanings_row_line
  last : T.fn "meanings.last_line" = some f_meanings_last_line
  letter : T.con "meanings.LETTER_LINE" = some (.tup [.tup [.tup [.int 1, .int 1], .int 1, .int 0]])
theorem fold_line_ok {T : Tab} (K : KMean T) (k : Nat) (h : Hs) {b : Nat} (hb : 1 ≤ b) (hb2 : b ≤ 290) {w : Wo} {L M : List St} (H : FlH b w L M) : ∃ G, call T (k + 8) "meanings.fold_line" [.str (S w.s), .tup (L.map St.d), .tup (M.map St.d)] h = .ok (.tup ((fl w L M).map St.d)) (h ++ G) := by
  have b0 : Bd b 0 := (show Bd 1 0 from Bd.of (by decide)).mono (by omega)
  have bm1 : Bd (b + 1) (-1) := (show Bd 1 (-1) from Bd.of (by decide)).mono (by omega)
  have b2 : Bd (b + 2) 1 := (show Bd 1 1 from Bd.of (by decide)).mono (by omega)
  have l := H.l
  have m := H.m
  have len := H.len
  have a := addL_lin l m (by omega)
  have wl := lw1_of l.cn l.bx (by decide) (show b ≤ 2000 by omega)
  have wm := lw1_of m.cn m.bx (by decide) (show b ≤ 2000 by omega)
  cases w with
  | more =>
    obtain ⟨p1, p2⟩ := H.mo rfl
    obtain ⟨G1, e1⟩ := added_ok K.added K.cut.gr.joined K.cut.gr.pieces K.cut.gr.ln.less (k + 4) h wl wm (by omega)
    obtain ⟨G2, e2⟩ := cut2_ok K.cut k (h ++ G1) (by decide) (by omega) a (by omega) (by omega) p1 p2
    refine ⟨G1 ++ G2, ?_⟩
    rw [← List.append_assoc]
    rw [show jnr ((pcs L M).map sm) = addL L M from rfl] at e1
    simp only [fl]
    generalize (coL (addL L M)).map St.d = RD at *
    generalize (addL L M).map St.d = AD at *
    generalize L.map St.d = LD at *
    generalize M.map St.d = MD at *
    generalize h ++ G1 ++ G2 = h2 at *
    generalize h ++ G1 = h1 at *
    rw [call_eq K.fold rfl]
    simp only [Wo.s]
    show SR.fin (exB ⟨T, call T (k + 7)⟩ f_meanings_fold_line.body [some (.str (S "more")), some (.tup LD), some (.tup MD)] h) = _
    simp [f_meanings_fold_line, e1, e2]
  | less =>
    obtain ⟨p1, p2⟩ := H.le rfl
    obtain ⟨G1, e1⟩ := added_ok K.added K.cut.gr.joined K.cut.gr.pieces K.cut.gr.ln.less (k + 4) h wl wm (by omega)
    have al := a.len
    have e3 := raised_ok K.raised (k + 6) (h ++ G1) (L := addL L M) (by omega) (-1)
    have a' : Lin 300 (b + 2) ((addL L M).map (rs (-1))) := by rw [rs_gm]; exact a.gm (.inl rfl) bm1
    obtain ⟨G2, e2⟩ := cut2_ok K.cut k (h ++ G1 ++ [O.lst (((addL L M).map (rs (-1))).map St.d)]) (by decide) (by omega) a' (by omega) (by omega) p1 p2
    refine ⟨G1 ++ [O.lst (((addL L M).map (rs (-1))).map St.d)] ++ G2, ?_⟩
    rw [← List.append_assoc, ← List.append_assoc]
    rw [show jnr ((pcs L M).map sm) = addL L M from rfl] at e1
    simp only [fl]
    generalize (coL ((addL L M).map (rs (-1)))).map St.d = RD at *
    generalize ((addL L M).map (rs (-1))).map St.d = BD at *
    generalize (addL L M).map St.d = AD at *
    generalize L.map St.d = LD at *
    generalize M.map St.d = MD at *
    generalize h ++ G1 ++ [O.lst BD] ++ G2 = h3 at *
    generalize h ++ G1 ++ [O.lst BD] = h2 at *
    rw [call_eq K.fold rfl]
    simp only [Wo.s]
    show SR.fin (exB ⟨T, call T (k + 7)⟩ f_meanings_fold_line.body [some (.str (S "less")), some (.tup LD), some (.tup MD)] h) = _
    simp [f_meanings_fold_line, e1, e3, e2]
  | greater =>
    obtain ⟨G1, e1⟩ := greater_ok K.cut.gr (k + 2) h (by decide) (by omega) l m (by omega)
    refine ⟨G1, ?_⟩
    simp only [fl]
    generalize (grL L M).map St.d = RD at *
    generalize L.map St.d = LD at *
    generalize M.map St.d = MD at *
    rw [call_eq K.fold rfl]
    simp only [Wo.s]
    show SR.fin (exB ⟨T, call T (k + 7)⟩ f_meanings_fold_line.body [some (.str (S "greater")), some (.tup LD), some (.tup MD)] h) = _
    simp [f_meanings_fold_line, e1]
  | lesser =>
    obtain ⟨G1, e1⟩ := lesser_ok K.cut.gr (k + 1) h (by decide) (by omega) l m (by omega)
    refine ⟨G1, ?_⟩
    simp only [fl]
    generalize (lsL L M).map St.d = RD at *
    generalize L.map St.d = LD at *
    generalize M.map St.d = MD at *
    rw [call_eq K.fold rfl]
    simp only [Wo.s]
    show SR.fin (exB ⟨T, call T (k + 7)⟩ f_meanings_fold_line.body [some (.str (S "lesser")), some (.tup LD), some (.tup MD)] h) = _
    simp [f_meanings_fold_line, e1]
  | leads =>
    obtain ⟨p1, p2⟩ := H.ld rfl
    have t : Lin 300 (b + 1) (L.map tn) := by rw [tn_gm]; exact l.gm (.inr rfl) b0
    have m' := m.mono (Nat.le_refl _) (show b ≤ b + 1 by omega)
    have a2 := addL_lin m' t (by rw [List.length_map]; omega)
    have wt := lw1_of t.cn t.bx (by decide) (show b + 1 ≤ 2000 by omega)
    have e0 := turned_ok K.cut.gr.turned (k + 6) h (L := L) (by omega)
    obtain ⟨G1, e1⟩ := added_ok K.added K.cut.gr.joined K.cut.gr.pieces K.cut.gr.ln.less (k + 4) (h ++ [O.lst ((L.map tn).map St.d)]) wm wt (by rw [List.length_map]; omega)
    have al := a2.len
    have e3 := raised_ok K.raised (k + 6) (h ++ [O.lst ((L.map tn).map St.d)] ++ G1) (L := addL M (L.map tn)) (by omega) 1
    have a' : Lin 300 (b + 3) ((addL M (L.map tn)).map (rs 1)) := by rw [rs_gm]; exact a2.gm (.inl rfl) b2
    obtain ⟨G2, e2⟩ := cut2_ok K.cut k (h ++ [O.lst ((L.map tn).map St.d)] ++ G1 ++ [O.lst (((addL M (L.map tn)).map (rs 1)).map St.d)]) (by decide) (by omega) a' (by omega) (by omega) p1 p2
    refine ⟨[O.lst ((L.map tn).map St.d)] ++ G1 ++ [O.lst (((addL M (L.map tn)).map (rs 1)).map St.d)] ++ G2, ?_⟩
    rw [← List.append_assoc, ← List.append_assoc, ← List.append_assoc]
    rw [show jnr ((pcs M (L.map tn)).map sm) = addL M (L.map tn) from rfl] at e1
    simp only [fl]
    generalize (coL ((addL M (L.map tn)).map (rs 1))).map St.d = RD at *
    generalize ((addL M (L.map tn)).map (rs 1)).map St.d = BD at *
    generalize (addL M (L.map tn)).map St.d = AD at *
    generalize (L.map tn).map St.d = TD at *
    generalize L.map St.d = LD at *
    generalize M.map St.d = MD at *
    generalize h ++ [O.lst TD] ++ G1 ++ [O.lst BD] ++ G2 = h4 at *
    generalize h ++ [O.lst TD] ++ G1 ++ [O.lst BD] = h3 at *
    generalize h ++ [O.lst TD] ++ G1 = h2 at *
    generalize h ++ [O.lst TD] = h1 at *
    rw [call_eq K.fold rfl]
    simp only [Wo.s]
    show SR.fin (exB ⟨T, call T (k + 7)⟩ f_meanings_fold_line.body [some (.str (S "leads")), some (.tup LD), some (.tup MD)] h) = _
    simp [f_meanings_fold_line, e0, e1, e3, e2]
end Q

/-! rows: whether they are such, their last line -/
namespace Q
def LT (L : List St) : D := .tup (L.map St.d)
def RowH (b : Nat) (ls : List (List St)) : Rw → Prop
  | .nt i => (ls.getD i []).length ≤ 800
  | .fd w i j => FlH b w (ls.getD i []) (ls.getD j [])
  | _ => True
def AllH (b : Nat) : List (List St) → List Rw → Prop
  | _, [] => True
  | ls, r :: rs => (r.ok ls.length ∧ RowH b ls r) ∧ AllH b (ls ++ [rl ls r]) rs
theorem getI_LT {h : Hs} {m : Nat} {ls : List (List St)} (g : h[m]? = some (.lst (ls.map LT))) {i : Nat} (hi : i < ls.length) : getI (.ref m) (.int (i : Int)) h = .ok (.tup ((ls.getD i []).map St.d)) h := by
  rw [getI_lst g, atI_nat (by omega) (by simpa using hi)]
  simp [LT, hi]
theorem row_line_ok {T : Tab} (K : KMean T) (k : Nat) {h : Hs} {m : Nat} {ls : List (List St)} (g : h[m]? = some (.lst (ls.map LT))) {b : Nat} (hb : 1 ≤ b) (hb2 : b ≤ 290) {r : Rw} (ok : r.ok ls.length) (H : RowH b ls r) : ∃ G, call T (k + 9) "meanings.row_line" [r.d, .ref m] h = .ok (LT (rl ls r)) (h ++ G) := by
  have lv0 := level_ok K.cut (k + 7) h 0
  have lv1 := level_ok K.cut (k + 7) h 1
  cases r with
  | p =>
    refine ⟨[], ?_⟩
    rw [call_eq K.row rfl]
    simp [f_meanings_row_line, start, Rw.d, K.letter, rl, LT, St.d]
  | nev =>
    refine ⟨[], ?_⟩
    simp only [rl, LT]
    generalize (lv 0).map St.d = A at *
    rw [call_eq K.row rfl]
    simp [f_meanings_row_line, start, Rw.d, lv0]
  | alw =>
    refine ⟨[], ?_⟩
    simp only [rl, LT]
    generalize (lv 1).map St.d = A at *
    rw [call_eq K.row rfl]
    simp [f_meanings_row_line, start, Rw.d, lv1]
  | nt i =>
    have gi := getI_LT g ok
    simp only [RowH] at H
    have e0 := turned_ok K.cut.gr.turned (k + 7) h (L := ls.getD i []) (by omega)
    have e1 := raised_ok K.raised (k + 7) (h ++ [O.lst (((ls.getD i []).map tn).map St.d)]) (L := (ls.getD i []).map tn) (by rw [List.length_map]; omega) 1
    simp only [rl, LT]
    generalize ls.getD i [] = L at *
    refine ⟨[O.lst ((L.map tn).map St.d)] ++ [O.lst (((L.map tn).map (rs 1)).map St.d)], ?_⟩
    rw [← List.append_assoc]
    generalize ((L.map tn).map (rs 1)).map St.d = BD at *
    generalize (L.map tn).map St.d = AD at *
    generalize L.map St.d = LD at *
    generalize h ++ [O.lst AD] ++ [O.lst BD] = h2 at *
    generalize h ++ [O.lst AD] = h1 at *
    rw [call_eq K.row rfl]
    show SR.fin (exB ⟨T, call T (k + 8)⟩ f_meanings_row_line.body [some (.tup [.str (S "not"), .int (i : Int)]), some (.ref m)] h) = _
    generalize (i : Int) = ii at *
    simp [f_meanings_row_line, gi, e0, e1]
  | fd w i j =>
    obtain ⟨o1, o2⟩ := ok
    have gi := getI_LT g o1
    have gj := getI_LT g o2
    simp only [RowH] at H
    obtain ⟨G, e⟩ := fold_line_ok K k h hb hb2 H
    refine ⟨G, ?_⟩
    simp only [rl, LT]
    generalize (fl w (ls.getD i []) (ls.getD j [])).map St.d = RD at *
    generalize (ls.getD i []).map St.d = LD at *
    generalize (ls.getD j []).map St.d = MD at *
    have n1 : (S w.s == S "never") = false := by cases w <;> simp [Wo.s]
    have n2 : (S w.s == S "always") = false := by cases w <;> simp [Wo.s]
    have n3 : (S w.s == S "p") = false := by cases w <;> simp [Wo.s]
    have n4 : (S w.s == S "not") = false := by cases w <;> simp [Wo.s]
    rw [call_eq K.row rfl]
    show SR.fin (exB ⟨T, call T (k + 8)⟩ f_meanings_row_line.body [some (.tup [.str (S w.s), .int (i : Int), .int (j : Int)]), some (.ref m)] h) = _
    generalize S w.s = ws at *
    generalize (i : Int) = ii at *
    generalize (j : Int) = jj at *
    simp [f_meanings_row_line, gi, gj, e, n1, n2, n3, n4]
theorem last_line_ok {T : Tab} (K : KMean T) (k : Nat) {h : Hs} {n : Nat} {rows : List Rw} (g : h[n]? = some (.lst (rows.map Rw.d))) {b : Nat} (hb : 1 ≤ b) (hb2 : b ≤ 290) (H : AllH b [] rows) (hl : rows.length ≤ 1000) {X : List (List St)} {z : List St} (ez : rls rows [] = X ++ [z]) :
    ∃ G, call T (k + 10) "meanings.last_line" [.ref n] h = .ok (LT z) (h ++ G) := by
  have loop : ∀ (rs : List Rw) (ls : List (List St)) (G : Hs) (v2 : Option D), AllH b ls rs → ls.length + rs.length ≤ 1000 → ∃ G' v2', forE ⟨T, call T (k + 9)⟩ (.one 2) (forBody (headB (dropB 1 f_meanings_last_line.body))) (fun z => z[n]? = some (.lst (rows.map Rw.d))) (rs.map Rw.d) [some (.ref n), some (.ref h.length), v2] (h ++ .lst (ls.map LT) :: G) =
      .nx [some (.ref n), some (.ref h.length), v2'] (h ++ .lst ((rls rs ls).map LT) :: G') := by
    intro rs
    induction rs with
    | nil => intro ls G v2 _ _; exact ⟨G, v2, forE_nil ((Gr.app h _).at g)⟩
    | cons r rs ih =>
      intro ls G v2 ⟨⟨o, H⟩, A⟩ hl
      simp only [List.length_cons] at hl
      obtain ⟨G2, e⟩ := row_line_ok K k (h := h ++ .lst (ls.map LT) :: G) (m := h.length) (get_mid h G _) hb hb2 o H
      obtain ⟨G', v2', e'⟩ := ih (ls ++ [rl ls r]) (G ++ G2) (some r.d) A (by simp; omega)
      refine ⟨G', v2', ?_⟩
      have eh : h ++ .lst (ls.map LT) :: G ++ G2 = h ++ .lst (ls.map LT) :: (G ++ G2) := by simp
      rw [eh] at e
      have ap : Bm.run .append (.ref h.length) [LT (rl ls r)] (h ++ .lst (ls.map LT) :: (G ++ G2)) = .ok .non (h ++ .lst ((ls ++ [rl ls r]).map LT) :: (G ++ G2)) := by
        rw [append_lst (xs := ls.map LT) (get_mid h _ _) (by simp [SZ]; omega), set_mid]
        simp
      have bk : bmK .append (.ref h.length) (h ++ .lst (ls.map LT) :: G) = true := bmK_lst (xs := ls.map LT) .append (get_mid h _ _)
      have ok1 : (h ++ .lst (ls.map LT) :: G)[n]? = some (.lst (rows.map Rw.d)) := (Gr.app h _).at g
      simp only [List.map_cons]
      rw [show rls (r :: rs) ls = rls rs (ls ++ [rl ls r]) from rfl]
      generalize LT (rl ls r) = LD at *
      generalize h ++ .lst ((ls ++ [rl ls r]).map LT) :: (G ++ G2) = h3 at *
      generalize h ++ .lst (ls.map LT) :: (G ++ G2) = h2 at *
      generalize h ++ .lst (ls.map LT) :: G = h1 at *
      rw [forE_nx (s3 := [some (.ref n), some (.ref h.length), some r.d]) (h3 := h3) ok1 rfl (by
        simp only [f_meanings_last_line, dropB, headB, forBody]
        generalize r.d = rd at *
        simp [bk, e, ap])]
      exact e'
  obtain ⟨G, v2, e⟩ := loop rows [] [] none H (by simpa using hl)
  rw [ez] at e
  refine ⟨.lst ((X ++ [z]).map LT) :: G, ?_⟩
  have gl : getI (.ref h.length) (.int (-1)) (h ++ .lst ((X ++ [z]).map LT) :: G) = .ok (LT z) (h ++ .lst ((X ++ [z]).map LT) :: G) := by
    rw [getI_lst (xs := (X ++ [z]).map LT) (get_mid h _ _), List.map_append, List.map_singleton, atI_last]
    rfl
  have w : walkSq (h ++ [O.lst []]) (.ref n) = some ⟨rows.map Rw.d, fun z => z[n]? = some (.lst (rows.map Rw.d))⟩ := walkSq_lst ((Gr.app h _).at g)
  simp only [f_meanings_last_line, dropB, headB, forBody, List.map_nil] at e
  generalize h ++ .lst ((X ++ [z]).map LT) :: G = h3 at *
  generalize LT z = LZ at *
  rw [call_eq K.last rfl]
  simp [f_meanings_last_line, start, List.replicate_succ, w]
  simp [e, gl]
/-! ### rows looked at -/
structure KRow (T : Tab) : Prop where
  place : T.fn "rows.is_place" = some f_rows_is_place
  row : T.fn "rows.is_row" = some f_rows_is_row
  fault : T.fn "rows.rows_fault" = some f_rows_rows_fault
  most : T.con "rows.MOST" = some (.int 400)
  plain : T.con "rows.PLAIN" = some (.tup [.str (S "never"), .str (S "always"), .str (S "p"), .str (S "q")])
  folds : T.con "rows.FOLDS" = some (.tup [.str (S "more"), .str (S "less"), .str (S "greater"), .str (S "lesser"), .str (S "leads")])
theorem in_strs {h : Hs} (x : PySem.Str) : ∀ l : List PySem.Str, inSeq h (.str x) (l.map .str) = some (l.any (· == x))
  | [] => by simp [inSeq, rsv, rsF]
  | y :: l => by simp [inSeq, in_strs x l, eqv, rsv, rsF, ddep, deq]
theorem isin_strs {h : Hs} (x : PySem.Str) (l : List PySem.Str) : Cop.run .isin (.str x) (.tup (l.map .str)) h = .ok (.bl (l.any (· == x))) h := by
  simp only [Cop.run, isIn, in_strs x l, opt_some]
theorem place_ok {T : Tab} (K : KRow T) (k : Nat) (h : Hs) {i at_ : Nat} (hi : i < at_) : call T (k + 1) "rows.is_place" [.int (i : Int), .int (at_ : Int)] h = .ok (.bl true) h := by
  have h1 : (0 : Int) ≤ (i : Int) := by omega
  have h2 : (i : Int) < (at_ : Int) := by omega
  rw [call_eq K.place rfl]
  show SR.fin (exB ⟨T, call T k⟩ f_rows_is_place.body [some (.int (i : Int)), some (.int (at_ : Int))] h) = _
  generalize (i : Int) = ii at *
  generalize (at_ : Int) = aa at *
  simp [f_rows_is_place, isTys, isTy, h1, h2]
theorem is_row_ok {T : Tab} (K : KRow T) (k : Nat) (h : Hs) {r : Rw} {at_ : Nat} (ok : r.ok at_) : ∃ o, call T (k + 2) "rows.is_row" [r.d, .int (at_ : Int)] h = .ok (.bl true) (h ++ [o]) := by
  have P : ∀ x, Cop.run .isin (.str x) (.tup [.str (S "never"), .str (S "always"), .str (S "p"), .str (S "q")]) h = .ok (.bl ([S "never", S "always", S "p", S "q"].any (· == x))) h := fun x => isin_strs x [S "never", S "always", S "p", S "q"]
  have Fo : ∀ x, Cop.run .isin (.str x) (.tup [.str (S "more"), .str (S "less"), .str (S "greater"), .str (S "lesser"), .str (S "leads")]) h = .ok (.bl ([S "more", S "less", S "greater", S "lesser", S "leads"].any (· == x))) h := fun x => isin_strs x [S "more", S "less", S "greater", S "lesser", S "leads"]
  have cm : ∀ (w0 v2 : D) (xs : List Nat), (∀ i ∈ xs, i < at_) → xs.length ≤ 5 → kComp ⟨T, call T (k + 1)⟩ [some w0, some (.int (at_ : Int)), some v2, none] (.call "rows.is_place" (.cons (.v 3) (.cons (.v 1) .nil))) (.one 3) .none [3] (.ok ⟨xs.map fun i : Nat => D.int (i : Int), fun _ => True⟩ h) = .ok (.ref h.length) (h ++ [.lst (xs.map fun _ => D.bl true)]) := fun w0 v2 xs hx hl =>
    kComp_mapL (w := ⟨xs.map fun i : Nat => D.int (i : Int), fun _ => True⟩) xs (fun i : Nat => D.int (i : Int)) (fun _ => .bl true) rfl trivial (fun i hi => ⟨_, rfl, by
      have p := place_ok K k h (hx i hi)
      simp only [wipe, List.set_cons_succ, List.set_cons_zero, evE_call, evs_cons, evE_v, getL_succ, getL_zero, kVar_some, kCons1_ok, evs_nil, kCons2_ok, kCall_ok, p]⟩) (by simp [SZ]; omega)
  have al : ∀ xs : List Nat, Bi.run .all [.ref h.length] (h ++ [.lst (xs.map fun _ => D.bl true)]) = .ok (.bl true) (h ++ [.lst (xs.map fun _ => D.bl true)]) := fun xs => all_rep (h := h ++ [.lst (xs.map fun _ => D.bl true)]) (n := h.length) xs (by simp)
  cases r with
  | p =>
    have c0 := cm (Rw.d .p) (.int 1) [] (by simp) (by simp)
    have a0 := al []
    simp at c0 a0
    refine ⟨.lst [], ?_⟩
    rw [call_eq K.row rfl]
    show SR.fin (exB ⟨T, call T (k + 1)⟩ f_rows_is_row.body [some (Rw.d .p), some (.int (at_ : Int)), none, none] h) = _
    generalize (at_ : Int) = aa at *
    simp only [Rw.d] at c0 ⊢
    simp [f_rows_is_row, isTys, isTy, K.plain, P, slice, sIx, cut, c0, a0]
  | nev =>
    have c0 := cm (Rw.d .nev) (.int 1) [] (by simp) (by simp)
    have a0 := al []
    simp at c0 a0
    refine ⟨.lst [], ?_⟩
    rw [call_eq K.row rfl]
    show SR.fin (exB ⟨T, call T (k + 1)⟩ f_rows_is_row.body [some (Rw.d .nev), some (.int (at_ : Int)), none, none] h) = _
    generalize (at_ : Int) = aa at *
    simp only [Rw.d] at c0 ⊢
    simp [f_rows_is_row, isTys, isTy, K.plain, P, slice, sIx, cut, c0, a0]
  | alw =>
    have c0 := cm (Rw.d .alw) (.int 1) [] (by simp) (by simp)
    have a0 := al []
    simp at c0 a0
    refine ⟨.lst [], ?_⟩
    rw [call_eq K.row rfl]
    show SR.fin (exB ⟨T, call T (k + 1)⟩ f_rows_is_row.body [some (Rw.d .alw), some (.int (at_ : Int)), none, none] h) = _
    generalize (at_ : Int) = aa at *
    simp only [Rw.d] at c0 ⊢
    simp [f_rows_is_row, isTys, isTy, K.plain, P, slice, sIx, cut, c0, a0]
  | nt i =>
    have c0 := cm (Rw.d (.nt i)) (.int 2) [i] (fun x hx => by rw [List.mem_singleton.mp hx]; exact ok) (by simp)
    have a0 := al [i]
    simp only [List.map_cons, List.map_nil] at c0 a0
    refine ⟨.lst [.bl true], ?_⟩
    rw [call_eq K.row rfl]
    show SR.fin (exB ⟨T, call T (k + 1)⟩ f_rows_is_row.body [some (Rw.d (.nt i)), some (.int (at_ : Int)), none, none] h) = _
    simp only [Rw.d] at c0 ⊢
    generalize (at_ : Int) = aa at *
    generalize (i : Int) = ii at *
    simp [f_rows_is_row, isTys, isTy, K.plain, P, slice, sIx, cut, c0, a0]
  | fd w i j =>
    have c0 := cm (Rw.d (.fd w i j)) (.int 3) [i, j] (by
      intro x hx
      simp only [List.mem_cons, List.not_mem_nil, or_false] at hx
      rcases hx with rfl | rfl
      · exact ok.1
      · exact ok.2) (by simp)
    have a0 := al [i, j]
    simp only [List.map_cons, List.map_nil] at c0 a0
    have f1 : [S "never", S "always", S "p", S "q"].any (· == S w.s) = false := by cases w <;> simp [Wo.s]
    have f2 : [S "more", S "less", S "greater", S "lesser", S "leads"].any (· == S w.s) = true := by cases w <;> simp [Wo.s]
    have f3 : (S w.s == S "not") = false := by cases w <;> simp [Wo.s]
    have P' := P (S w.s)
    have F' := Fo (S w.s)
    rw [f1] at P'
    rw [f2] at F'
    refine ⟨.lst [.bl true, .bl true], ?_⟩
    rw [call_eq K.row rfl]
    show SR.fin (exB ⟨T, call T (k + 1)⟩ f_rows_is_row.body [some (Rw.d (.fd w i j)), some (.int (at_ : Int)), none, none] h) = _
    simp only [Rw.d] at c0 ⊢
    generalize (at_ : Int) = aa at *
    generalize (i : Int) = ii at *
    generalize (j : Int) = jj at *
    generalize S w.s = ws at *
    simp [f_rows_is_row, isTys, isTy, K.plain, K.folds, P', F', f3, slice, sIx, cut, c0, a0]
theorem fault_ok {T : Tab} (K : KRow T) (k : Nat) {h : Hs} {n : Nat} {rows : List Rw} (g : h[n]? = some (.lst (rows.map Rw.d))) (ok : RowsOk 0 rows) (h0 : 0 < rows.length) (hl : rows.length ≤ 400) : ∃ G, call T (k + 3) "rows.rows_fault" [.ref n] h = .ok .non (h ++ G) := by
  have loop : ∀ (rs : List Rw) (i : Nat) (z : Hs) (v1 v2 : Option D), RowsOk i rs → i + rs.length ≤ 400 → Gr h z → ∃ z' v1' v2', Gr h z' ∧ forE ⟨T, call T (k + 2)⟩ (.many [1, 2]) (forBody (headB (dropB 1 f_rows_rows_fault.body))) (fun z => z[n]? = some (.lst (rows.map Rw.d))) (enumL i (rs.map Rw.d)) [some (.ref n), v1, v2] z =
      .nx [some (.ref n), v1', v2'] z' := by
    intro rs
    induction rs with
    | nil => intro i z v1 v2 _ _ gz; exact ⟨z, v1, v2, gz, forE_nil (gz.at g)⟩
    | cons r rs ih =>
      intro i z v1 v2 ⟨o, A⟩ hl gz
      simp only [List.length_cons] at hl
      obtain ⟨oo, e⟩ := is_row_ok K k z o
      obtain ⟨z', v1', v2', gz', e'⟩ := ih (i + 1) (z ++ [oo]) (some (.int (i : Int))) (some r.d) A (by omega) (gz.push oo)
      refine ⟨z', v1', v2', gz', ?_⟩
      have c1 : ¬ ((400 : Int) ≤ (i : Int)) := by omega
      simp only [List.map_cons, enumL]
      have as_ : asg (.many [1, 2]) (.tup [.int (i : Int), r.d]) [some (.ref n), v1, v2] = some [some (.ref n), some (.int (i : Int)), some r.d] := rfl
      generalize (i : Int) = ii at *
      rw [forE_nx (s3 := [some (.ref n), some (.int ii), some r.d]) (h3 := z ++ [oo]) (gz.at g) as_ (by
        simp only [f_rows_rows_fault, dropB, headB, forBody]
        generalize r.d = rd at *
        simp [K.most, c1, e])]
      exact e'
  obtain ⟨z', v1, v2, gz, e⟩ := loop rows 0 h none none ok (by omega) (Gr.refl h)
  obtain ⟨G, rfl⟩ := gz
  refine ⟨G, ?_⟩
  have ll := len_lst g
  rw [List.length_map] at ll
  have n0 : ¬ ((rows.length : Int) = 0) := by omega
  have w := show enumOf h (.ref n) = some ⟨enumL 0 (rows.map Rw.d), fun z => z[n]? = some (.lst (rows.map Rw.d))⟩ by simp [enumOf, walkSq_lst g]
  simp only [f_rows_rows_fault, dropB, headB, forBody] at e
  generalize (rows.length : Int) = rl at *
  rw [call_eq K.fault rfl]
  simp [f_rows_rows_fault, start, List.replicate_succ, ll, n0, w]
  simp [e]
theorem no_q (h : Hs) : ∀ rows : List Rw, inSeq h (.tup [.str (S "q")]) (rows.map Rw.d) = some false
  | [] => by simp [inSeq, rsv, rsF, rsFs]
  | r :: rows => by
    have ih := no_q h rows
    have e : eqv h r.d (.tup [.str (S "q")]) = some false := by
      cases r <;> simp [Rw.d, eqv, rsv, rsF, rsFs, ddep, ddeps, deq, deqs]
    simp [inSeq, e, ih]
structure KRows (T : Tab) : Prop where
  mean : KMean T
  row : KRow T
  rows : T.fn "meanings.line_of_rows" = some f_meanings_line_of_rows
theorem line_of_rows_ok {T : Tab} (K : KRows T) (k : Nat) {h : Hs} {n : Nat} {rows : List Rw} (g : h[n]? = some (.lst (rows.map Rw.d))) (ok : RowsOk 0 rows) (h0 : 0 < rows.length) (hl : rows.length ≤ 400) {b : Nat} (hb : 1 ≤ b) (hb2 : b ≤ 290) (H : AllH b [] rows) {X : List (List St)} {z : List St} (ez : rls rows [] = X ++ [z]) :
    ∃ G, call T (k + 11) "meanings.line_of_rows" [.ref n] h = .ok (LT z) (h ++ G) := by
  obtain ⟨G1, e1⟩ := fault_ok K.row (k + 7) g ok h0 hl
  have g1 := (Gr.app h G1).at g
  obtain ⟨G2, e2⟩ := last_line_ok K.mean k g1 hb hb2 H (by omega) ez
  refine ⟨G1 ++ G2, ?_⟩
  rw [← List.append_assoc]
  have q : Cop.run .isin (.tup [.str (S "q")]) (.ref n) (h ++ G1) = .ok (.bl false) (h ++ G1) := by
    simp only [Cop.run, isIn, g1, no_q, opt_some]
  generalize h ++ G1 ++ G2 = h2 at *
  generalize h ++ G1 = h1 at *
  generalize LT z = LZ at *
  rw [call_eq K.rows rfl]
  simp [f_meanings_line_of_rows, start, List.replicate_succ, e1, isN, q, e2]
end Q

/-! rows of few letters: their lines are as high as they are worth -/
namespace Q
def cnt (cs : List Nat) : Rw → Nat
  | .p => 1
  | .nev | .alw => 0
  | .nt i => cs.getD i 0
  | .fd _ i j => cs.getD i 0 + cs.getD j 0
def CRows : List Nat → List Rw → Prop
  | _, [] => True
  | cs, r :: rs => (r.ok cs.length ∧ cnt cs r ≤ 8) ∧ CRows (cs ++ [cnt cs r]) rs
theorem CRows.ok : ∀ {rs : List Rw} {cs : List Nat}, CRows cs rs → RowsOk cs.length rs
  | [], _, _ => trivial
  | r :: rs, cs, ⟨⟨h1, _⟩, h⟩ => ⟨h1, by have := CRows.ok h; simpa using this⟩
/-- the worth of a row, of those ahead -/
def rv (n x : Int) (vs : List Int) : Rw → Int
  | .p => x
  | .nev => 0
  | .alw => n
  | .nt i => n - vs.getD i 0
  | .fd w i j => fv w n (vs.getD i 0) (vs.getD j 0)
def rvs (n x : Int) (rs : List Rw) (acc : List Int) : List Int := rs.foldl (fun vs r => vs ++ [rv n x vs r]) acc
def Ali (b : Nat) (ls : List (List St)) (cs : List Nat) : Prop := ls.length = cs.length ∧ ∀ i, i < ls.length → Gdl b (cs.getD i 0) (ls.getD i [])
theorem one_lin {n m : Nat} (hn : 1 ≤ n) (hm : 1 ≤ m) : Lin n m [⟨1, 1, 1, 0⟩] := by
  have b1 : Bd n 1 := (show Bd 1 1 from Bd.of (by decide)).mono hn
  have b2 : Bd m 1 := (show Bd 1 1 from Bd.of (by decide)).mono hm
  have b0 : Bd m 0 := (show Bd 1 0 from Bd.of (by decide)).mono hm
  refine ⟨⟨⟨by decide, by decide, by decide, trivial⟩, rfl, rfl⟩, ⟨fun y r' e => (by cases e), trivial⟩, fun x hx => ?_, by simp⟩
  rw [List.mem_singleton.mp hx]
  exact ⟨b1, b1, b2, b0⟩
theorem one_hv {a b : Int} (h : a ≤ b) : hv [⟨1, 1, 1, 0⟩] a b = a := by
  rw [hv_lo (by simp only; omega)]
  simp [vl]
theorem lv_gd {b c : Nat} (hb : 1 ≤ b) {v : Int} (hv_ : v = 0 ∨ v = 1) : Gdl b c (lv v) := by
  refine ⟨lv_lin (by decide) ((show Bd 1 v from Bd.of (by rcases hv_ with rfl | rfl <;> decide)).mono hb), fun x n hn h0 hx => ?_, lv_sl c v⟩
  rw [lv_hv hx]
  rcases hv_ with rfl | rfl <;> omega
theorem rl_gd {b : Nat} (hb : 1 ≤ b) (hb2 : b ≤ 190) {ls : List (List St)} {cs : List Nat} (al : Ali b ls cs) {r : Rw} (ok : r.ok cs.length) (hc : cnt cs r ≤ 8) :
    RowH 190 ls r ∧ Gdl (b + 6) (cnt cs r) (rl ls r) ∧ ∀ x n : Int, 0 < n → 0 ≤ x → x ≤ n → hv (rl ls r) x n = rv n x (ls.map fun L => hv L x n) r := by
  obtain ⟨al1, al2⟩ := al
  have gd : ∀ i, i < cs.length → ∀ x n : Int, (ls.map fun L => hv L x n).getD i 0 = hv (ls.getD i []) x n := fun i hi x n => by
    have hi' : i < ls.length := by omega
    simp [hi']
  cases r with
  | p =>
    refine ⟨trivial, ⟨one_lin (by decide) (by omega), fun x n hn h0 hx => ?_, fun z hz => ?_⟩, fun x n hn h0 hx => one_hv hx⟩
    · show 0 ≤ hv [⟨1, 1, 1, 0⟩] x n ∧ _
      rw [show rl ls .p = [⟨1, 1, 1, 0⟩] from rfl, one_hv hx]
      omega
    · rw [List.mem_singleton.mp hz]; exact Nat.le_refl _
  | nev => exact ⟨trivial, lv_gd (by omega) (.inl rfl), fun x n hn h0 hx => by show hv (lv 0) x n = 0; rw [lv_hv hx]; omega⟩
  | alw => exact ⟨trivial, lv_gd (by omega) (.inr rfl), fun x n hn h0 hx => by show hv (lv 1) x n = n; rw [lv_hv hx]; omega⟩
  | nt i =>
    have hi : i < cs.length := ok
    have g := al2 i (by omega)
    have lb := g.lb
    have l8 := lb8 (cs.getD i 0) hc
    have b0 : Bd b 0 := (show Bd 1 0 from Bd.of (by decide)).mono (by omega)
    have b1 : Bd (b + 1) 1 := (show Bd 1 1 from Bd.of (by decide)).mono (by omega)
    have g1 : Lin 300 (b + 1) ((ls.getD i []).map tn) := by rw [tn_gm]; exact g.lin.gm (.inr rfl) b0
    have g2 : Lin 300 (b + 2) (((ls.getD i []).map tn).map (rs 1)) := by rw [rs_gm]; exact g1.gm (.inl rfl) b1
    have hvE : ∀ x n : Int, 0 < n → 0 ≤ x → x ≤ n → hv (((ls.getD i []).map tn).map (rs 1)) x n = n - hv (ls.getD i []) x n := fun x n hn h0 hx => by
      rw [rs_gm, hv_gm hx g1.cn g1.ne, tn_gm, hv_gm hx g.lin.cn g.lin.ne]
      omega
    refine ⟨by simp only [RowH]; omega, ⟨g2.mono (Nat.le_refl _) (by omega), fun x n hn h0 hx => ?_, rs_sl _ (tn_sl g.sl)⟩, fun x n hn h0 hx => ?_⟩
    · show 0 ≤ hv (((ls.getD i []).map tn).map (rs 1)) x n ∧ hv (((ls.getD i []).map tn).map (rs 1)) x n ≤ n
      rw [hvE x n hn h0 hx]
      have := g.in_ x n hn h0 hx
      omega
    · show hv (((ls.getD i []).map tn).map (rs 1)) x n = n - (ls.map fun L => hv L x n).getD i 0
      rw [hvE x n hn h0 hx, gd i hi]
  | fd w i j =>
    have gi := al2 i (by have := ok.1; omega)
    have gj := al2 j (by have := ok.2; omega)
    obtain ⟨q1, q2⟩ := fl_gd hb hb2 gi gj hc w
    refine ⟨FlH.of (b := 190) (by decide) (by decide) (gi.mono hb2 (Nat.le_refl _)) (gj.mono hb2 (Nat.le_refl _)) hc w, q1, fun x n hn h0 hx => ?_⟩
    show hv (fl w (ls.getD i []) (ls.getD j [])) x n = fv w n ((ls.map fun L => hv L x n).getD i 0) ((ls.map fun L => hv L x n).getD j 0)
    rw [q2 x n hn h0 hx, gd i ok.1, gd j ok.2]
theorem rows_main : ∀ (rs : List Rw) (ls : List (List St)) (cs : List Nat) (b : Nat), 1 ≤ b → b + 6 * rs.length ≤ 190 → Ali b ls cs → CRows cs rs →
    AllH 190 ls rs ∧ (∃ cs', Ali (b + 6 * rs.length) (rls rs ls) cs' ∧ ((∀ c ∈ cs, c ≤ 8) → ∀ c ∈ cs', c ≤ 8)) ∧ ∀ x n : Int, 0 < n → 0 ≤ x → x ≤ n → rvs n x rs (ls.map fun L => hv L x n) = (rls rs ls).map fun L => hv L x n
  | [], ls, cs, b, _, _, al, _ => ⟨trivial, ⟨cs, al, fun h => h⟩, fun _ _ _ _ _ => rfl⟩
  | r :: rs, ls, cs, b, hb, hb2, al, ⟨⟨h1, h2⟩, h⟩ => by
    simp only [List.length_cons] at hb2
    obtain ⟨q1, q2, q3⟩ := rl_gd hb (by omega) al h1 h2
    have al' : Ali (b + 6) (ls ++ [rl ls r]) (cs ++ [cnt cs r]) := by
      refine ⟨by simp [al.1], fun i hi => ?_⟩
      rcases Nat.lt_or_ge i ls.length with hl | hl
      · have e1 : (ls ++ [rl ls r]).getD i [] = ls.getD i [] := by simp [List.getD, List.getElem?_append_left hl]
        have e2 : (cs ++ [cnt cs r]).getD i 0 = cs.getD i 0 := by simp [List.getD, List.getElem?_append_left (show i < cs.length by have := al.1; omega)]
        rw [e1, e2]
        exact (al.2 i hl).mono (by omega) (Nat.le_refl _)
      · have ei : i = ls.length := by simp at hi; omega
        have e1 : (ls ++ [rl ls r]).getD i [] = rl ls r := by simp [List.getD, ei]
        have e2 : (cs ++ [cnt cs r]).getD i 0 = cnt cs r := by
          have : i = cs.length := by have := al.1; omega
          simp [List.getD, this]
        rw [e1, e2]
        exact q2
    obtain ⟨i1, ⟨cs', i2, i2'⟩, i3⟩ := rows_main rs (ls ++ [rl ls r]) (cs ++ [cnt cs r]) (b + 6) (by omega) (by omega) al' h
    have eb : b + 6 + 6 * rs.length = b + 6 * (r :: rs).length := by simp only [List.length_cons]; omega
    rw [eb] at i2
    refine ⟨⟨⟨by rw [al.1]; exact h1, q1⟩, i1⟩, ⟨cs', i2, fun hh => i2' fun c hc => ?_⟩, fun x n hn h0 hx => ?_⟩
    · rcases List.mem_append.mp hc with hc | hc
      · exact hh c hc
      · rw [List.mem_singleton.mp hc]; exact h2
    · have := i3 x n hn h0 hx
      rw [List.map_append, List.map_singleton, q3 x n hn h0 hx] at this
      exact this
/-! ### worths as the law tells them -/
theorem lfolded_ok {T : Tab} (hF : T.fn "_law_folded" = some f__law_folded) (k : Nat) (h : Hs) (w : Wo) (n a b : Int) : call T (k + 1) "_law_folded" [.str (S w.s), .int n, .int a, .int b] h = .ok (.int (fv w n a b)) h := by
  rw [call_eq hF rfl]
  cases w <;> simp [f__law_folded, start, Wo.s, fv]
theorem lworths_ok {T : Tab} (hW : T.fn "_law_worths" = some f__law_worths) (hF : T.fn "_law_folded" = some f__law_folded) (k : Nat) {h : Hs} {m : Nat} {rows : List Rw} (g : h[m]? = some (.lst (rows.map Rw.d))) (ok : RowsOk 0 rows) (hl : rows.length ≤ 1000) (n x : Int) {X : List Int} {z : Int} (ez : rvs n x rows [] = X ++ [z]) :
    ∃ o, call T (k + 2) "_law_worths" [.ref m, .int n, .int x] h = .ok (.int z) (h ++ [o]) := by
  have loop : ∀ (rs : List Rw) (vs : List Int) (v4 : Option D), RowsOk vs.length rs → vs.length + rs.length ≤ 1000 → ∃ v4', forE ⟨T, call T (k + 1)⟩ (.one 4) (forBody (headB (dropB 1 f__law_worths.body))) (fun z => z[m]? = some (.lst (rows.map Rw.d))) (rs.map Rw.d) [some (.ref m), some (.int n), some (.int x), some (.ref h.length), v4] (h ++ [.lst (vs.map .int)]) =
      .nx [some (.ref m), some (.int n), some (.int x), some (.ref h.length), v4'] (h ++ [.lst ((rvs n x rs vs).map .int)]) := by
    intro rs
    induction rs with
    | nil => intro vs v4 _ _; exact ⟨v4, forE_nil ((Gr.app h _).at g)⟩
    | cons r rs ih =>
      intro vs v4 ⟨o, A⟩ hl
      simp only [List.length_cons] at hl
      obtain ⟨v4', e'⟩ := ih (vs ++ [rv n x vs r]) (some r.d) (by simpa using A) (by simp; omega)
      refine ⟨v4', ?_⟩
      have bk : bmK .append (.ref h.length) (h ++ [.lst (vs.map .int)]) = true := bmK_lst (xs := vs.map .int) .append (by simp)
      have ap : ∀ v : Int, Bm.run .append (.ref h.length) [.int v] (h ++ [.lst (vs.map .int)]) = .ok .non (h ++ [.lst ((vs ++ [v]).map .int)]) := fun v => by
        rw [append_lst (xs := vs.map .int) (by simp) (by simp [SZ]; omega)]
        simp
      have gi : ∀ i, i < vs.length → getI (.ref h.length) (.int (i : Int)) (h ++ [.lst (vs.map .int)]) = .ok (.int (vs.getD i 0)) (h ++ [.lst (vs.map .int)]) := fun i hi => by
        rw [getI_lst (xs := vs.map .int) (by simp), atI_nat (by omega) (by simpa using hi)]
        simp [hi]
      have lf := fun w a b => lfolded_ok hF k (h ++ [.lst (vs.map .int)]) w n a b
      have tn : exB ⟨T, call T (k + 1)⟩ (forBody (headB (dropB 1 f__law_worths.body))) [some (.ref m), some (.int n), some (.int x), some (.ref h.length), some r.d] (h ++ [.lst (vs.map .int)]) = .nx [some (.ref m), some (.int n), some (.int x), some (.ref h.length), some r.d] (h ++ [.lst ((vs ++ [rv n x vs r]).map .int)]) := by
        have a1 := ap (rv n x vs r)
        generalize h ++ [O.lst ((vs ++ [rv n x vs r]).map .int)] = h3 at *
        cases r with
        | p => simp only [rv] at a1; generalize h ++ [O.lst (vs.map .int)] = h2 at *; simp [f__law_worths, dropB, headB, forBody, Rw.d, bk, a1]
        | nev => simp only [rv] at a1; generalize h ++ [O.lst (vs.map .int)] = h2 at *; simp [f__law_worths, dropB, headB, forBody, Rw.d, bk, a1]
        | alw => simp only [rv] at a1; generalize h ++ [O.lst (vs.map .int)] = h2 at *; simp [f__law_worths, dropB, headB, forBody, Rw.d, bk, a1]
        | nt i =>
          have gi' := gi i o
          simp only [rv] at a1
          generalize vs.getD i 0 = vi at *
          generalize h ++ [O.lst (vs.map .int)] = h2 at *
          simp only [Rw.d]
          generalize (i : Int) = ii at *
          simp [f__law_worths, dropB, headB, forBody, bk, gi', a1]
        | fd w i j =>
          have gi' := gi i o.1
          have gj' := gi j o.2
          have l1 := lf w (vs.getD i 0) (vs.getD j 0)
          simp only [rv] at a1
          generalize vs.getD i 0 = vi at *
          generalize vs.getD j 0 = vj at *
          generalize h ++ [O.lst (vs.map .int)] = h2 at *
          simp only [Rw.d]
          have n1 : (S w.s == S "never") = false := by cases w <;> simp [Wo.s]
          have n2 : (S w.s == S "always") = false := by cases w <;> simp [Wo.s]
          have n3 : (S w.s == S "p") = false := by cases w <;> simp [Wo.s]
          have n4 : (S w.s == S "not") = false := by cases w <;> simp [Wo.s]
          generalize S w.s = ws at *
          generalize (i : Int) = ii at *
          generalize (j : Int) = jj at *
          simp [f__law_worths, dropB, headB, forBody, bk, n1, n2, n3, n4, gi', gj', l1, a1]
      simp only [List.map_cons]
      rw [forE_nx ((Gr.app h _).at g) rfl tn]
      exact e'
  obtain ⟨v4, e⟩ := loop rows [] none ok (by simpa using hl)
  rw [ez] at e
  refine ⟨.lst ((X ++ [z]).map .int), ?_⟩
  have gl : getI (.ref h.length) (.int (-1)) (h ++ [.lst ((X ++ [z]).map .int)]) = .ok (.int z) (h ++ [.lst ((X ++ [z]).map .int)]) := by
    rw [getI_lst (xs := (X ++ [z]).map .int) (by simp), List.map_append, List.map_singleton, atI_last]
    rfl
  have w : walkSq (h ++ [O.lst []]) (.ref m) = some ⟨rows.map Rw.d, fun z => z[m]? = some (.lst (rows.map Rw.d))⟩ := walkSq_lst ((Gr.app h _).at g)
  simp only [f__law_worths, dropB, headB, forBody, List.map_nil] at e
  generalize h ++ [O.lst ((X ++ [z]).map .int)] = h3 at *
  rw [call_eq hW rfl]
  simp [f__law_worths, start, List.replicate_succ, w]
  simp [e, gl]
end Q

/-! a line held against rows -/
namespace Q
theorem rangeL_map2 : ∀ (n : Nat) (lo : Int), rangeL lo n = (List.range n).map fun i : Nat => D.int (lo + i)
  | 0, lo => rfl
  | n + 1, lo => by
    rw [rangeL, rangeL_map2 n (lo + 1), List.range_succ_eq_map, List.map_cons, List.map_map]
    congr 1
    · simp
    · apply List.map_congr_left
      intro i _
      simp only [Function.comp_apply]
      congr 1
      omega
structure KRi (T : Tab) : Prop where
  is_ : KIs T
  height : T.fn "_law_height" = some f__law_height
  folded : T.fn "_law_folded" = some f__law_folded
  worths : T.fn "_law_worths" = some f__law_worths
  as_ : T.fn "_law_as" = some f__law_as_v5
  right : T.fn "_law_right" = some f__law_right
/-- the line tells the worths -/
def Tells (L : List St) (rows : List Rw) : Prop := ∀ x n : Int, 0 < n → 0 ≤ x → x ≤ n → ∃ X, rvs n x rows [] = X ++ [hv L x n]
theorem as5_ok {T : Tab} (K : KRi T) (k : Nat) {h : Hs} {m : Nat} {rows : List Rw} (g : h[m]? = some (.lst (rows.map Rw.d))) (ok : RowsOk 0 rows) (hl : rows.length ≤ 1000) {L : List St} (l : Lin 300 300 L) (te : Tells L rows) {x n : Int} (hn : 0 < n) (h0 : 0 ≤ x) (hx : x ≤ n) (bx : Bd 1000 x) (bn : Bd 1000 n) :
    ∃ o, call T (k + 3) "_law_as" [LT L, .ref m, .int n, .int x] h = .ok (.bl true) (h ++ [o]) := by
  obtain ⟨X, ez⟩ := te x n hn h0 hx
  obtain ⟨o, e⟩ := lworths_ok K.worths K.folded k g ok hl n x ez
  have he := lheight2_ok K.height (k + 1) h l.cn l.ne (fun y hy => (l.bx y hy).mono (by decide) (by decide)) hx (bx.mono (by decide)) (bn.mono (by decide))
  refine ⟨o, ?_⟩
  unfold LT
  generalize hv L x n = v at *
  generalize L.map St.d = LD at *
  generalize h ++ [o] = h2 at *
  rw [call_eq K.as_ rfl]
  show SR.fin (exB ⟨T, call T (k + 2)⟩ f__law_as_v5.body [some (.tup LD), some (.ref m), some (.int n), some (.int x), none, none] h) = _
  simp [f__law_as_v5, he, setTR_tup, e]
theorem right_ok {T : Tab} (K : KRi T) (k : Nat) {h : Hs} {m : Nat} {rows : List Rw} (g : h[m]? = some (.lst (rows.map Rw.d))) (ok : RowsOk 0 rows) (hl : rows.length ≤ 1000) {L : List St} (l : Lin 300 300 L) (te : Tells L rows) :
    ∃ G, call T (k + 4) "_law_right" [LT L, .ref m] h = .ok (.bl true) (h ++ G) := by
  obtain ⟨o1, e1⟩ := isline_ok K.is_ k h (l.cn.ch fun x hx => (l.bx x hx).mono (by decide) (by decide)) l.df l.pos (by have := l.len; omega)
  have g1 := (Gr.app h [o1]).at g
  obtain ⟨o2, e2⟩ := as5_ok K k g1 ok hl l te (x := 0) (n := 1) (by decide) (by decide) (by decide) ((show Bd 1 0 from Bd.of (by decide)).mono (by decide)) ((show Bd 1 1 from Bd.of (by decide)).mono (by decide))
  have gr2 : Gr h (h ++ [o1] ++ [o2]) := ⟨[o1] ++ [o2], by simp⟩
  obtain ⟨s3, h3, e3, gr3, v2, v3, v4, rfl⟩ := forE_inv (C := ⟨T, call T (k + 3)⟩) (tg := .many [2, 3, 4]) (a := forBody (headB (dropB 1 f__law_right.body))) (ok := fun _ => True)
    (fun σ z => Gr h z ∧ ∃ v2 v3 v4, σ = [some (LT L), some (.ref m), v2, v3, v4, none, none]) (fun _ _ _ => trivial)
    (ds := L.map St.d) (s := [some (LT L), some (.ref m), none, none, none, none, none]) (h := h ++ [o1] ++ [o2])
    (fun d hd σ z ⟨gz, v2, v3, v4, es⟩ => by
      obtain ⟨y, hy, rfl⟩ := List.mem_map.mp hd
      subst es
      have c := (l.cn.gq y hy).1
      have b := l.bx y hy
      obtain ⟨o, e⟩ := as5_ok K k (gz.at g) ok hl l te (x := y.p) (n := y.q) c.2.1 c.1 c.2.2 (b.1.mono (by decide)) (b.2.1.mono (by decide))
      refine ⟨_, [some (LT L), some (.ref m), some (.tup [.int y.p, .int y.q]), some (.int y.s), some (.int y.t), none, none], z ++ [o], asg_three .., .inl ?_, gz.push o, _, _, _, rfl⟩
      generalize LT L = LD at *
      generalize z ++ [o] = z2 at *
      simp [f__law_right, dropB, headB, forBody, e])
    ⟨gr2, _, _, _, rfl⟩
  obtain ⟨s4, h4, e4, gr4, v5, v6, rfl⟩ := forE_inv (C := ⟨T, call T (k + 3)⟩) (tg := .one 5) (a := forBody (headB (dropB 2 f__law_right.body))) (ok := fun _ => True)
    (fun σ z => Gr h z ∧ ∃ v5 v6, σ = [some (LT L), some (.ref m), v2, v3, v4, v5, v6]) (fun _ _ _ => trivial)
    (ds := rangeL 1 16) (s := [some (LT L), some (.ref m), v2, v3, v4, none, none]) (h := h3)
    (fun d hd σ z ⟨gz, v5, v6, es⟩ => by
      obtain ⟨j, hj, rfl⟩ := rangeL_mem hd
      subst es
      obtain ⟨n, hn⟩ : ∃ n : Int, n = 1 + (j : Int) := ⟨_, rfl⟩
      rw [← hn]
      have n1 : 0 < n ∧ n ≤ 16 := by omega
      have rn := rng1_ok (h := z) (j := n + 1) ⟨by omega, by omega⟩
      obtain ⟨z2, gz2, cm⟩ := kComp_mapG (C := ⟨T, call T (k + 3)⟩) (s := [some (LT L), some (.ref m), v2, v3, v4, some (.int n), v6]) (h := z) (e := .call "_law_as" (.cons (.v 0) (.cons (.v 1) (.cons (.v 5) (.cons (.v 6) .nil))))) (tg := .one 6) (own := [6])
        (w := ⟨rangeL 0 (n + 1).toNat, fun _ => True⟩) (List.range (n + 1).toNat) (fun i : Nat => D.int (0 + i)) (fun _ => D.bl true) (Gr h) (rangeL_map2 _ 0) (fun _ _ => trivial)
        (fun i hi y gy => by
          have hi := List.mem_range.mp hi
          obtain ⟨o, e⟩ := as5_ok K k (gy.at g) ok hl l te (x := 0 + (i : Int)) (n := n) n1.1 (by omega) (by omega) (Bd.of (by have : (16 : Nat) < 2 ^ 1000 := by decide
                                                                                                                               omega)) (Bd.of (by have : (17 : Nat) < 2 ^ 1000 := by decide
                                                                                                                                                  omega))
          refine ⟨_, y ++ [o], rfl, ?_, gy.push o⟩
          generalize LT L = LD at *
          generalize y ++ [o] = y2 at *
          generalize 0 + (i : Int) = ii at *
          simp [wipe, e]) (by simp [SZ]; omega) gz
      have al := all_rep (h := z2 ++ [.lst ((List.range (n + 1).toNat).map fun _ => D.bl true)]) (n := z2.length) (List.range (n + 1).toNat) (by simp)
      refine ⟨_, [some (LT L), some (.ref m), v2, v3, v4, some (.int n), v6], z2 ++ [.lst ((List.range (n + 1).toNat).map fun _ => D.bl true)], rfl, .inl ?_, gz2.push _, _, _, rfl⟩
      generalize LT L = LD at *
      generalize z2 ++ [.lst ((List.range (n + 1).toNat).map fun _ => D.bl true)] = z3 at *
      simp [f__law_right, dropB, headB, forBody, rn, cm, al])
    ⟨gr3, _, _, rfl⟩
  obtain ⟨G, eG⟩ := gr4
  refine ⟨G, ?_⟩
  rw [← eG]
  have r17 : rng2 (.int 1) (.int 17) h3 = .ok ⟨rangeL 1 16, fun _ => True⟩ h3 := rng2_ok ⟨by decide, by decide⟩ ⟨by decide, by decide⟩
  have w : walkSq (h ++ [o1] ++ [o2]) (LT L) = some ⟨L.map St.d, fun _ => True⟩ := rfl
  rw [show D.tup (L.map St.d) = LT L from rfl] at e1
  simp only [f__law_right, dropB, headB, forBody] at e3 e4
  generalize h ++ [o1] ++ [o2] = h2 at *
  generalize h ++ [o1] = h1 at *
  generalize L.map St.d = LL at *
  generalize LT L = LD at *
  rw [call_eq K.right rfl]
  show SR.fin (exB ⟨T, call T (k + 3)⟩ f__law_right.body [some LD, some (.ref m), none, none, none, none, none] h) = _
  simp only [f__law_right, exB_cons, exS_ite, evT_eq, evE_or, evOr_cons, evOr_one, evE_not, evE_call, evs_cons, evE_v, getL_zero, getL_succ, kVar_some, kCons1_ok, evE_k, evs_nil, kCons2_ok, kCall_ok, e1, e2, kNot_ok, tru_bl, kNot2_some, Bool.not_true, kOr_f, kTru_ok, kTru2_some, kIf_f, exB_nil, kThen_nx, exS_for, walk_sq, kSq_ok, w, kWalk_some, kFor_ok, e3, walk_r2, kR2_ok]
  simp only [kR2'_ok, r17, kFor_ok, e4, kThen_nx, exS_ret, evE_k, kRet_ok, kThen_rt, fin_rt]
  simp
end Q

/-! the law k22: rows drawn -/
namespace Q
def cAll : List Nat → List Rw → List Nat
  | cs, [] => cs
  | cs, r :: rs => cAll (cs ++ [cnt cs r]) rs
theorem cAll_app : ∀ (a : List Rw) (cs : List Nat) (r : Rw), cAll cs (a ++ [r]) = cAll cs a ++ [cnt (cAll cs a) r]
  | [], cs, r => rfl
  | b :: a, cs, r => cAll_app a _ r
theorem cAll_len : ∀ (a : List Rw) (cs : List Nat), (cAll cs a).length = cs.length + a.length
  | [], cs => rfl
  | b :: a, cs => by rw [cAll, cAll_len a]; simp; omega
theorem CRows.snoc : ∀ {a : List Rw} {cs : List Nat} {r : Rw}, CRows cs a → r.ok (cAll cs a).length → cnt (cAll cs a) r ≤ 8 → CRows cs (a ++ [r])
  | [], cs, r, _, h1, h2 => ⟨⟨h1, h2⟩, trivial⟩
  | b :: a, cs, r, ⟨hb, h⟩, h1, h2 => ⟨hb, CRows.snoc h h1 h2⟩
structure K22 (T : Tab) : Prop where
  rows : KRows T
  ri : KRi T
  cell : T.fn "_law_cell_at" = some f__law_cell_at
  lrows : T.fn "_law_rows" = some f__law_rows_v2
  doubled : T.fn "_law_doubled" = some f__law_doubled
  law : T.fn "law" = some f_law_v21
def roB : Bl := forBody (headB (dropB 2 f__law_rows_v2.body))
theorem wo5 (i : Int) (h0 : 0 ≤ i) (h1 : i < 5) : ∃ w : Wo, atI [D.str (S "more"), D.str (S "less"), D.str (S "greater"), D.str (S "lesser"), D.str (S "leads")] i = some (.str (S w.s)) := by
  have : i = 0 ∨ i = 1 ∨ i = 2 ∨ i = 3 ∨ i = 4 := by omega
  rcases this with rfl | rfl | rfl | rfl | rfl
  · exact ⟨.more, by simp [Wo.s]⟩
  · exact ⟨.less, by simp [Wo.s]⟩
  · exact ⟨.greater, by simp [Wo.s]⟩
  · exact ⟨.lesser, by simp [Wo.s]⟩
  · exact ⟨.leads, by simp [Wo.s]⟩
theorem rows_turn {T : Tab} (K : K22 T) (k : Nat) {h : Hs} {ns : List Int} (h0 : h[0]? = some (.frz (ns.map .int))) {rs : List Rw} (cr : CRows [] rs) (pos : 0 < rs.length) (hl : rs.length ≤ 100) {j : Int} (j0 : 0 ≤ j) (j1 : j < 100) (s4 s5 s6 s7 s8 s9 : Option D) :
    ∃ rs' t4 t5 t6 t7 t8 t9, CRows [] rs' ∧ rs.length ≤ rs'.length ∧ rs'.length ≤ rs.length + 1 ∧
      exB ⟨T, call T (k + 1)⟩ roB [some (.ref 0), some (.ref h.length), some (.ref (h.length + 1)), some (.int j), s4, s5, s6, s7, s8, s9] (h ++ [.lst (rs.map Rw.d), .lst ((cAll [] rs).map fun c : Nat => D.int (c : Int))]) =
        .nx [some (.ref 0), some (.ref h.length), some (.ref (h.length + 1)), some (.int j), t4, t5, t6, t7, t8, t9] (h ++ [.lst (rs'.map Rw.d), .lst ((cAll [] rs').map fun c : Nat => D.int (c : Int))]) := by
  obtain ⟨cs, hcs⟩ : ∃ cs, cs = cAll [] rs := ⟨_, rfl⟩
  have lcs : cs.length = rs.length := by rw [hcs, cAll_len]; simp
  rw [← hcs]
  obtain ⟨H, hH⟩ : ∃ H, H = h ++ [O.lst (rs.map Rw.d), O.lst (cs.map fun c : Nat => D.int (c : Int))] := ⟨_, rfl⟩
  have g1 : H[h.length]? = some (.lst (rs.map Rw.d)) := by rw [hH]; simp
  have g2 : H[h.length + 1]? = some (.lst (cs.map fun c : Nat => D.int (c : Int))) := by rw [hH, List.getElem?_append_right (by omega)]; simp
  have H0 : H[0]? = some (.frz (ns.map .int)) := by rw [hH]; exact (Gr.app h _).at h0
  obtain ⟨c, ⟨c0, bc⟩, ec⟩ := cell1_ok K.cell H0 k j j0 (Bd.of (by omega))
  have ln := len_lst g1
  rw [List.length_map] at ln
  have d10 : divB 10 := by decide
  have d300 : divB 300 := by decide
  have nz : (rs.length : Int) ≠ 0 := by omega
  have x1 := Int.fmod_nonneg_of_pos (c.fdiv 10) (show (0 : Int) < rs.length by omega)
  have x2 := Int.fmod_lt_of_pos (c.fdiv 10) (show (0 : Int) < rs.length by omega)
  have y1 := Int.fmod_nonneg_of_pos (c.fdiv 300) (show (0 : Int) < rs.length by omega)
  have y2 := Int.fmod_lt_of_pos (c.fdiv 300) (show (0 : Int) < rs.length by omega)
  obtain ⟨i, hi⟩ := Int.eq_ofNat_of_zero_le x1
  obtain ⟨i2, hi2⟩ := Int.eq_ofNat_of_zero_le y1
  have il : i < cs.length := by omega
  have i2l : i2 < cs.length := by omega
  have k1 := Int.fmod_nonneg_of_pos c (show (0 : Int) < 10 by decide)
  have k2 := Int.fmod_lt_of_pos c (show (0 : Int) < 10 by decide)
  have gi : ∀ i, i < cs.length → getI (.ref (h.length + 1)) (.int (i : Int)) H = .ok (.int (cs.getD i 0 : Nat)) H := fun i hi => by
    rw [getI_lst g2, atI_nat (by omega) (by simpa using hi)]
    simp [hi]
  have gA := gi i il
  have gB := gi i2 i2l
  have md1 : Bop.run .mod (.int (c.fdiv 10)) (.int (rs.length : Int)) H = .ok (.int (i : Int)) H := by rw [run_mod nz, hi]
  have md2 : Bop.run .mod (.int (c.fdiv 300)) (.int (rs.length : Int)) H = .ok (.int (i2 : Int)) H := by rw [run_mod nz, hi2]
  -- the row
  obtain ⟨r, z4, z5, z6, z7, hr, pre⟩ : ∃ (r : Rw) (z4 z5 z6 z7 : Option D), r.ok cs.length ∧ exB ⟨T, call T (k + 1)⟩ roB [some (.ref 0), some (.ref h.length), some (.ref (h.length + 1)), some (.int j), s4, s5, s6, s7, s8, s9] H =
      exB ⟨T, call T (k + 1)⟩ (dropB 5 roB) [some (.ref 0), some (.ref h.length), some (.ref (h.length + 1)), some (.int j), z4, z5, z6, z7, some r.d, some (.int (cnt cs r : Nat))] H := by
    generalize hk : c.fmod 10 = kind at *
    generalize hH' : (rs.length : Int) = rl at *
    by_cases c1 : kind < 2
    · have q1 := Int.fmod_nonneg_of_pos (c.fdiv 10) (show (0 : Int) < 3 by decide)
      have q2 := Int.fmod_lt_of_pos (c.fdiv 10) (show (0 : Int) < 3 by decide)
      have e3 : (c.fdiv 10).fmod 3 = 0 ∨ (c.fdiv 10).fmod 3 = 1 ∨ (c.fdiv 10).fmod 3 = 2 := by omega
      have eqp : ∀ x : PySem.Str, Cop.run .eq (.tup [.str x]) (.tup [.str (S "p")]) H = .ok (.bl (x == S "p")) H := fun x => by
        simp [Cop.run, eqv, rsv, rsF, rsFs, ddep, ddeps, deq, deqs, opt]
      generalize (i : Int) = ii at *
      generalize (i2 : Int) = jj at *
      rcases e3 with e3 | e3 | e3
      · exact ⟨.p, some (.int c), some (.int ii), some (.int jj), some (.int kind), trivial, by simp [roB, f__law_rows_v2, dropB, headB, forBody, ec, ln, run_fdiv, d10, d300, md1, md2, run_mod, hk, c1, e3, eqp, Rw.d, cnt, b2i]⟩
      · exact ⟨.nev, some (.int c), some (.int ii), some (.int jj), some (.int kind), trivial, by simp [roB, f__law_rows_v2, dropB, headB, forBody, ec, ln, run_fdiv, d10, d300, md1, md2, run_mod, hk, c1, e3, eqp, Rw.d, cnt, b2i]⟩
      · exact ⟨.alw, some (.int c), some (.int ii), some (.int jj), some (.int kind), trivial, by simp [roB, f__law_rows_v2, dropB, headB, forBody, ec, ln, run_fdiv, d10, d300, md1, md2, run_mod, hk, c1, e3, eqp, Rw.d, cnt, b2i]⟩
    · by_cases c2 : kind = 2
      · refine ⟨.nt i, some (.int c), some (.int (i : Int)), some (.int (i2 : Int)), some (.int kind), il, ?_⟩
        simp only [Rw.d, cnt]
        generalize cs.getD i 0 = ci at *
        generalize (i : Int) = ii at *
        generalize (i2 : Int) = jj at *
        simp [roB, f__law_rows_v2, dropB, headB, forBody, ec, ln, run_fdiv, d10, d300, md1, md2, run_mod, hk, c1, c2, gA]
      · have q1 := Int.fmod_nonneg_of_pos kind (show (0 : Int) < 5 by decide)
        have q2 := Int.fmod_lt_of_pos kind (show (0 : Int) < 5 by decide)
        obtain ⟨w, ew⟩ := wo5 (kind.fmod 5) q1 q2
        refine ⟨.fd w i i2, some (.int c), some (.int (i : Int)), some (.int (i2 : Int)), some (.int kind), ⟨il, i2l⟩, ?_⟩
        simp only [Rw.d, cnt]
        have gw : getI (.tup [D.str (S "more"), D.str (S "less"), D.str (S "greater"), D.str (S "lesser"), D.str (S "leads")]) (.int (kind.fmod 5)) H = .ok (.str (S w.s)) H := by rw [getI_tup, ew]; rfl
        have ea : ((cs.getD i 0 + cs.getD i2 0 : Nat) : Int) = ((cs.getD i 0 : Nat) : Int) + ((cs.getD i2 0 : Nat) : Int) := by omega
        rw [ea]
        generalize ((cs.getD i 0 : Nat) : Int) = ci at *
        generalize ((cs.getD i2 0 : Nat) : Int) = ci2 at *
        generalize S w.s = ws at *
        generalize (i : Int) = ii at *
        generalize (i2 : Int) = jj at *
        simp only [roB, f__law_rows_v2, dropB, headB, forBody]
        simp [ec, ln, run_fdiv, d10, d300, md1, md2, run_mod, hk, c1, c2, gA, gB]
        simp at gw
        simp [gw, gA, gB]
  rw [hH] at pre
  rw [pre]
  have bk : bmK .append (.ref h.length) (h ++ [O.lst (rs.map Rw.d), O.lst (cs.map fun c : Nat => D.int (c : Int))]) = true := by rw [← hH]; exact bmK_lst (xs := rs.map Rw.d) .append g1
  have ap1 : Bm.run .append (.ref h.length) [r.d] (h ++ [O.lst (rs.map Rw.d), O.lst (cs.map fun c : Nat => D.int (c : Int))]) = .ok .non (h ++ [O.lst ((rs ++ [r]).map Rw.d), O.lst (cs.map fun c : Nat => D.int (c : Int))]) := by
    rw [append_lst (xs := rs.map Rw.d) (by simp) (by simp [SZ]; omega)]
    simp
  have g4 : (h ++ [O.lst ((rs ++ [r]).map Rw.d), O.lst (cs.map fun c : Nat => D.int (c : Int))])[h.length + 1]? = some (.lst (cs.map fun c : Nat => D.int (c : Int))) := by rw [List.getElem?_append_right (by omega)]; simp
  have bk2 : bmK .append (.ref (h.length + 1)) (h ++ [O.lst ((rs ++ [r]).map Rw.d), O.lst (cs.map fun c : Nat => D.int (c : Int))]) = true := bmK_lst (xs := cs.map fun c : Nat => D.int (c : Int)) .append g4
  have ap2 : Bm.run .append (.ref (h.length + 1)) [.int (cnt cs r : Nat)] (h ++ [O.lst ((rs ++ [r]).map Rw.d), O.lst (cs.map fun c : Nat => D.int (c : Int))]) = .ok .non (h ++ [O.lst ((rs ++ [r]).map Rw.d), O.lst ((cs ++ [cnt cs r]).map fun c : Nat => D.int (c : Int))]) := by
    rw [append_lst (xs := cs.map fun c : Nat => D.int (c : Int)) g4 (by simp [SZ]; omega)]
    rw [List.set_append_right (h := by omega)]
    simp
  by_cases c8 : cnt cs r ≤ 8
  · refine ⟨rs ++ [r], z4, z5, z6, z7, some r.d, some (.int (cnt cs r : Nat)), CRows.snoc cr (by rw [← hcs]; exact hr) (by rw [← hcs]; exact c8), by simp, by simp, ?_⟩
    rw [cAll_app, ← hcs]
    have c8' : ((cnt cs r : Nat) : Int) ≤ 8 := by omega
    generalize ((cnt cs r : Nat) : Int) = cc at *
    generalize r.d = rd at *
    generalize h ++ [O.lst ((rs ++ [r]).map Rw.d), O.lst ((cs ++ [cnt cs r]).map fun c : Nat => D.int (c : Int))] = h6 at *
    generalize h ++ [O.lst ((rs ++ [r]).map Rw.d), O.lst (cs.map fun c : Nat => D.int (c : Int))] = h5 at *
    generalize h ++ [O.lst (rs.map Rw.d), O.lst (cs.map fun c : Nat => D.int (c : Int))] = h4 at *
    simp [roB, f__law_rows_v2, dropB, headB, forBody, c8', bk, ap1, bk2, ap2]
  · refine ⟨rs, z4, z5, z6, z7, some r.d, some (.int (cnt cs r : Nat)), cr, by simp, by simp, ?_⟩
    rw [← hcs]
    have c8' : ¬ ((cnt cs r : Nat) : Int) ≤ 8 := by omega
    generalize ((cnt cs r : Nat) : Int) = cc at *
    generalize r.d = rd at *
    generalize h ++ [O.lst (rs.map Rw.d), O.lst (cs.map fun c : Nat => D.int (c : Int))] = h4 at *
    simp [roB, f__law_rows_v2, dropB, headB, forBody, c8']
end Q

/-! the law k22: doubled rows, the whole -/
namespace Q
theorem rows22_ok {T : Tab} (K : K22 T) (k : Nat) {h : Hs} {ns : List Int} (h0 : h[0]? = some (.frz (ns.map .int))) (S : Scr ns) : ∃ (rs : List Rw) (o : O), CRows [] rs ∧ 0 < rs.length ∧ rs.length ≤ 25 ∧ call T (k + 2) "_law_rows" [.ref 0] h = .ok (.ref h.length) (h ++ [.lst (rs.map Rw.d), o]) := by
  have hl := S.len
  have ln := len_frz (h := h ++ [O.lst [Rw.d .p], O.lst [.int 1]]) ((Gr.app h _).at h0)
  rw [List.length_map] at ln
  generalize hm : (if (24 : Int) < (ns.length : Int) then 24 else (ns.length : Int)) = m
  have m1 : 0 ≤ m ∧ m ≤ 24 := by rw [← hm]; split <;> omega
  have r := rng2_ok (h := h ++ [O.lst [Rw.d .p], O.lst [.int 1]]) (i := 0) (j := m) ⟨by omega, by omega⟩ ⟨by omega, by omega⟩
  have lr : (rangeL 0 (m - 0).toNat).length = (m - 0).toNat := by rw [rangeL_map2]; simp
  obtain ⟨s', h', e, rs, t3, t4, t5, t6, t7, t8, t9, rfl, rfl, cr, pos, le⟩ := forE_ix (C := ⟨T, call T (k + 1)⟩) (tg := .one 3) (a := roB) (ok := fun _ => True)
    (fun i σ z => ∃ (rs : List Rw) (t3 t4 t5 t6 t7 t8 t9 : Option D), σ = [some (.ref 0), some (.ref h.length), some (.ref (h.length + 1)), t3, t4, t5, t6, t7, t8, t9] ∧ z = h ++ [.lst (rs.map Rw.d), .lst ((cAll [] rs).map fun c : Nat => D.int (c : Int))] ∧ CRows [] rs ∧ 0 < rs.length ∧ rs.length ≤ 1 + i) (fun _ _ _ _ => trivial)
    (ds := rangeL 0 (m - 0).toNat) (n := 0) (s := [some (.ref 0), some (.ref h.length), some (.ref (h.length + 1)), none, none, none, none, none, none, none]) (h := h ++ [O.lst [Rw.d .p], O.lst [.int 1]])
    (fun i d hd σ z ⟨rs, t3, t4, t5, t6, t7, t8, t9, es, ez, cr, pos, le⟩ => by
      obtain ⟨j, hj, rfl⟩ := rangeL_mem (List.mem_of_getElem? hd)
      have hi : i < (rangeL 0 (m - 0).toNat).length := (List.getElem?_eq_some_iff.mp hd).1
      rw [lr] at hi
      subst es ez
      obtain ⟨rs', u4, u5, u6, u7, u8, u9, cr', p', l', e'⟩ := rows_turn K k h0 cr pos (by omega) (j := 0 + (j : Int)) (by omega) (by omega) t4 t5 t6 t7 t8 t9
      exact ⟨_, _, _, rfl, .inl e', rs', _, _, _, _, _, _, _, rfl, rfl, cr', by omega, by omega⟩)
    ⟨[.p], _, _, _, _, _, _, _, rfl, rfl, ⟨⟨trivial, by decide⟩, trivial⟩, by decide, by decide⟩
  rw [lr] at le
  refine ⟨rs, .lst ((cAll [] rs).map fun c : Nat => D.int (c : Int)), cr, pos, by omega, ?_⟩
  simp only [roB, f__law_rows_v2, dropB, headB, forBody] at e
  have ep : Rw.d .p = .tup [.str (Q.S "p")] := rfl
  rw [ep] at e r ln
  generalize (ns.length : Int) = nl at *
  rw [call_eq K.lrows rfl]
  show SR.fin (exB ⟨T, call T (k + 1)⟩ f__law_rows_v2.body [some (.ref 0), none, none, none, none, none, none, none, none, none] h) = _
  simp [f__law_rows_v2, ln, hm]
  simp only [r, kFor_ok, e]
  simp
/-! ### doubled -/
def Tw (k : Nat) : Int := ((2 ^ k : Nat) : Int)
theorem Tw_pos (k : Nat) : 1 ≤ Tw k := by unfold Tw; have := Nat.two_pow_pos k; omega
theorem Tw_succ (k : Nat) : Tw (k + 1) = 2 * Tw k := by unfold Tw; rw [Nat.pow_succ]; omega
theorem Tw_bd {k : Nat} (h : k ≤ 62) : Bd 64 (Tw k) := by
  refine Bd.of ?_
  unfold Tw
  rw [Int.natAbs_natCast]
  exact Nat.pow_lt_pow_right (by decide) (by omega)
/-- the line of the k-th doubled row -/
def Dl (le : Bool) : Nat → List St
  | 0 => [⟨1, 1, 1, 0⟩]
  | k + 1 => if le then [⟨Tw (k + 1) - 1, Tw (k + 1), 0, 0⟩, ⟨1, 1, Tw (k + 1), 1 - Tw (k + 1)⟩] else [⟨1, Tw (k + 1), Tw (k + 1), 0⟩, ⟨1, 1, 0, 1⟩]
theorem gcd_pred (t : Int) : Int.gcd (t - 1) t = 1 := by
  have h1 : (Int.gcd (t - 1) t : Int) ∣ t - 1 := Int.gcd_dvd_left _ _
  have h2 : (Int.gcd (t - 1) t : Int) ∣ t := Int.gcd_dvd_right _ _
  have h3 : (Int.gcd (t - 1) t : Int) ∣ 1 := by
    have := Int.dvd_sub h2 h1
    rwa [show t - (t - 1) = 1 by omega] at this
  have := Int.le_of_dvd (by decide) h3
  have p : 0 < Int.gcd (t - 1) t := by
    rcases Nat.eq_zero_or_pos (Int.gcd (t - 1) t) with z | z
    · rw [z] at h3
      have h4 : (0 : Int) ∣ 1 := h3
      have := Int.zero_dvd.mp h4
      omega
    · exact z
  omega
theorem Dl_lin (le : Bool) : ∀ {k : Nat}, k ≤ 62 → Lin 300 70 (Dl le k)
  | 0, _ => one_lin (by decide) (by decide)
  | k + 1, h => by
    have t1 := Tw_pos k
    have bt := Tw_bd h
    have ts := Tw_succ k
    have b1 : ∀ {n : Nat}, 1 ≤ n → Bd n 1 := fun hn => (show Bd 1 1 from Bd.of (by decide)).mono hn
    have b0 : ∀ {n : Nat}, 1 ≤ n → Bd n 0 := fun hn => (show Bd 1 0 from Bd.of (by decide)).mono hn
    simp only [Dl]
    generalize Tw (k + 1) = t at *
    have t2 : 2 ≤ t := by omega
    cases le
    · rw [if_neg (by decide)]
      refine ⟨⟨⟨by simp only; omega, by simp only; omega, ?_, by simp only [jt]; omega⟩, ⟨by simp only; omega, (show (0 : Int) ≤ 1 ∧ (0 : Int) < 1 ∧ (1 : Int) ≤ 1 by decide), (show Int.gcd 1 1 = 1 by decide), trivial⟩, rfl, rfl⟩, ⟨fun y r' e => ?_, ⟨fun y r' e => (by cases e), trivial⟩⟩, fun x hx => ?_, by simp⟩
      · show Int.gcd 1 t = 1
        exact Int.one_gcd
      · cases e
        simp only [same, Bool.and_eq_false_iff, decide_eq_false_iff_not]
        omega
      · simp only [List.mem_cons, List.not_mem_nil, or_false] at hx
        rcases hx with rfl | rfl
        · exact ⟨b1 (by decide), bt.mono (by decide), bt.mono (by decide), b0 (by decide)⟩
        · exact ⟨b1 (by decide), b1 (by decide), b0 (by decide), b1 (by decide)⟩
    · rw [if_pos rfl]
      refine ⟨⟨⟨by simp only; omega, by simp only; omega, gcd_pred t, ?_⟩, ⟨by simp only; omega, (show (0 : Int) ≤ 1 ∧ (0 : Int) < 1 ∧ (1 : Int) ≤ 1 by decide), (show Int.gcd 1 1 = 1 by decide), trivial⟩, rfl, rfl⟩, ⟨fun y r' e => ?_, ⟨fun y r' e => (by cases e), trivial⟩⟩, fun x hx => ?_, by simp⟩
      · simp only [jt, Int.sub_zero]
        rw [Int.mul_sub, Int.sub_mul]
        omega
      · cases e
        simp only [same, Bool.and_eq_false_iff, decide_eq_false_iff_not]
        omega
      · simp only [List.mem_cons, List.not_mem_nil, or_false] at hx
        rcases hx with rfl | rfl
        · exact ⟨(bt.sub (b1 (n := 64) (by decide))).mono (by decide), bt.mono (by decide), b0 (by decide), b0 (by decide)⟩
        · exact ⟨b1 (by decide), b1 (by decide), bt.mono (by decide), ((b1 (n := 64) (by decide)).sub bt).mono (by decide)⟩
def Gf (le : Bool) (k : Nat) (x n : Int) : Int := if le then mx (Tw k * x - (Tw k - 1) * n) 0 else mn (Tw k * x) n
theorem Dl_hv (le : Bool) : ∀ (k : Nat) {x n : Int}, 0 < n → 0 ≤ x → x ≤ n → hv (Dl le k) x n = Gf le k x n
  | 0, x, n, hn, h0, hx => by
    have e : Tw 0 = 1 := rfl
    show hv [⟨1, 1, 1, 0⟩] x n = _
    rw [one_hv hx]
    unfold Gf mx mn
    rw [e]
    cases le
    · simp; omega
    · simp; omega
  | k + 1, x, n, hn, h0, hx => by
    have t1 := Tw_pos k
    have ts := Tw_succ k
    simp only [Dl, Gf]
    generalize Tw (k + 1) = t at *
    cases le
    · rw [if_neg (by decide), if_neg (by decide)]
      have e : x * t = t * x := Int.mul_comm ..
      by_cases c : (1 : Int) * n < x * t
      · rw [hv_hi (x := ⟨1, t, t, 0⟩) c, hv_lo (x := ⟨1, 1, 0, 1⟩) (show x * 1 ≤ 1 * n by omega)]
        simp only [vl, mn]
        split <;> omega
      · rw [hv_lo (x := ⟨1, t, t, 0⟩) (show x * t ≤ 1 * n by omega)]
        simp only [vl, mn]
        split <;> omega
    · rw [if_pos rfl, if_pos rfl]
      have e : x * t = t * x := Int.mul_comm ..
      have e2 : (1 - t) * n = -((t - 1) * n) := by rw [← Int.neg_mul]; congr 1; omega
      by_cases c : (t - 1) * n < x * t
      · rw [hv_hi (x := ⟨t - 1, t, 0, 0⟩) c, hv_lo (x := ⟨1, 1, t, 1 - t⟩) (show x * 1 ≤ 1 * n by omega)]
        simp only [vl, mx]
        split <;> omega
      · rw [hv_lo (x := ⟨t - 1, t, 0, 0⟩) (show x * t ≤ (t - 1) * n by omega)]
        simp only [vl, mx]
        split <;> omega
def wOf (le : Bool) : Wo := if le then .less else .more
theorem Dl_len (le : Bool) (k : Nat) : (Dl le k).length ≤ 2 := by
  cases k with
  | zero => simp [Dl]
  | succ k => cases le <;> simp [Dl]
theorem addD_len (le : Bool) (k : Nat) : (addL (Dl le k) (Dl le k)).length ≤ 4 := by
  have h1 := jnr_len ((pcs (Dl le k) (Dl le k)).map sm)
  have h2 := (pcs_mem _ (Dl le k) (Dl le k) (Nat.le_refl _)).2
  have h3 := Dl_len le k
  rw [List.length_map] at h1
  unfold addL
  omega
theorem Dl_fold (le : Bool) {k : Nat} (h : k ≤ 61) : FlH 70 (wOf le) (Dl le k) (Dl le k) ∧ fl (wOf le) (Dl le k) (Dl le k) = Dl le (k + 1) := by
  have d := Dl_lin le (k := k) (by omega)
  have l2 := Dl_len le k
  have al := addD_len le k
  have a := addL_lin d d (by omega)
  have b1 : Bd 71 (-1) := (show Bd 1 (-1) from Bd.of (by decide)).mono (by decide)
  have ll := lsL_len (L := addL (Dl le k) (Dl le k)) (M := lv 1)
  have ll2 := lsL_len (L := (addL (Dl le k) (Dl le k)).map (rs (-1))) (M := lv 1)
  simp only [lv, List.length_singleton, List.length_map] at ll ll2
  have ll' : (lsL (addL (Dl le k) (Dl le k)) (lv 1)).length ≤ 300 := by show (lsL _ [⟨1, 1, 0, 1⟩]).length ≤ 300; omega
  have ll2' : (lsL ((addL (Dl le k) (Dl le k)).map (rs (-1))) (lv 1)).length ≤ 300 := by show (lsL _ [⟨1, 1, 0, 1⟩]).length ≤ 300; omega
  refine ⟨⟨d, d, by omega, fun _ => ⟨by omega, ll'⟩, fun _ => ⟨by rw [List.length_map]; omega, ll2'⟩, fun e => by cases le <;> cases e⟩, ?_⟩
  have t1 := Tw_pos k
  have ts := Tw_succ k
  cases le
  · obtain ⟨q1, q2⟩ := coL_parts a (by decide) (by decide) (by omega) ll'
    refine q1.eq (Dl_lin false (k := k + 1) (by omega)) fun x n hn h0 hx => ?_
    show hv (coL (addL (Dl false k) (Dl false k))) x n = _
    rw [q2 x n hn h0 hx, addL_hv d d hn h0 hx, Dl_hv false k hn h0 hx, Dl_hv false (k + 1) hn h0 hx]
    simp only [Gf, Bool.false_eq_true, if_false, ts]
    have p : 0 ≤ Tw k * x := Int.mul_nonneg (by omega) h0
    rw [Int.mul_assoc]
    generalize Tw k * x = u at *
    unfold mx mn
    repeat' split
    all_goals omega
  · have a' : Lin 300 72 ((addL (Dl true k) (Dl true k)).map (rs (-1))) := by rw [rs_gm]; exact a.gm (.inl rfl) b1
    obtain ⟨q1, q2⟩ := coL_parts a' (by decide) (by decide) (by rw [List.length_map]; omega) ll2'
    refine q1.eq (Dl_lin true (k := k + 1) (by omega)) fun x n hn h0 hx => ?_
    show hv (coL ((addL (Dl true k) (Dl true k)).map (rs (-1)))) x n = _
    rw [q2 x n hn h0 hx, rs_gm, hv_gm hx a.cn a.ne, addL_hv d d hn h0 hx, Dl_hv true k hn h0 hx, Dl_hv true (k + 1) hn h0 hx]
    simp only [Gf, if_true, ts]
    have p : Tw k * x ≤ Tw k * n := Int.mul_le_mul_of_nonneg_left hx (by omega)
    have e1 : 2 * Tw k * x = 2 * (Tw k * x) := Int.mul_assoc ..
    have e2 : (2 * Tw k - 1) * n = 2 * (Tw k * n) - n := by rw [Int.sub_mul, Int.one_mul, Int.mul_assoc]
    have e3 : (Tw k - 1) * n = Tw k * n - n := by rw [Int.sub_mul, Int.one_mul]
    rw [e1, e2, e3]
    generalize Tw k * x = u at *
    generalize Tw k * n = v at *
    unfold mx mn
    repeat' split
    all_goals omega
def dR (le : Bool) (m : Nat) : List Rw := .p :: (List.range m).map fun k => .fd (wOf le) k k
theorem dR_succ (le : Bool) (m : Nat) : dR le (m + 1) = dR le m ++ [.fd (wOf le) m m] := by simp [dR, List.range_succ]
theorem AllH.snoc {b : Nat} : ∀ {a : List Rw} {ls : List (List St)} {r : Rw}, AllH b ls a → r.ok (rls a ls).length → RowH b (rls a ls) r → AllH b ls (a ++ [r])
  | [], ls, r, _, h1, h2 => ⟨⟨h1, h2⟩, trivial⟩
  | c :: a, ls, r, ⟨hc, h⟩, h1, h2 => ⟨hc, AllH.snoc h h1 h2⟩
theorem rls_snoc (a : List Rw) (ls : List (List St)) (r : Rw) : rls (a ++ [r]) ls = rls a ls ++ [rl (rls a ls) r] := by simp [rls]
theorem dR_main (le : Bool) : ∀ m : Nat, m ≤ 61 → AllH 70 [] (dR le m) ∧ rls (dR le m) [] = (List.range (m + 1)).map (Dl le) ∧ RowsOk 0 (dR le m)
  | 0, _ => ⟨⟨⟨trivial, trivial⟩, trivial⟩, rfl, ⟨trivial, trivial⟩⟩
  | m + 1, h => by
    obtain ⟨h1, h2, h3⟩ := dR_main le m (by omega)
    have gd : (rls (dR le m) []).getD m [] = Dl le m := by rw [h2]; simp
    have ln : (rls (dR le m) []).length = m + 1 := by rw [h2]; simp
    obtain ⟨f1, f2⟩ := Dl_fold le (k := m) (by omega)
    rw [dR_succ]
    refine ⟨h1.snoc (by rw [ln]; exact ⟨by omega, by omega⟩) (by simp only [RowH, gd]; exact f1), ?_, RowsOk.app h3 ⟨?_, trivial⟩⟩
    · rw [rls_snoc, h2, List.range_succ (n := m + 1), List.map_append, List.map_singleton]
      congr 2
      simp only [rl, ← h2, gd]
      exact f2
    · have : (dR le m).length = m + 1 := by simp [dR]
      rw [Nat.zero_add, this]
      exact ⟨by omega, by omega⟩
def duB : Bl := forBody (headB (dropB 2 f__law_doubled.body))
theorem doubled_ok {T : Tab} (hD : T.fn "_law_doubled" = some f__law_doubled) (k : Nat) (h : Hs) {m : Nat} (m1 : 1 ≤ m) (m2 : m ≤ 60) (le tl : Bool) :
    ∃ G, call T (k + 1) "_law_doubled" [.int (m : Int), .str (S (wOf le).s), .bl tl] h = .ok (.tup [.ref h.length, LT (if tl then ((Dl le m).map tn).map (rs 1) else Dl le m)]) (h ++ .lst ((if tl then dR le m ++ [Rw.nt m] else dR le m).map Rw.d) :: G) := by
  have r := rng1_ok (h := h ++ [O.lst ((dR le 0).map Rw.d)]) (j := (m : Int)) ⟨by omega, by omega⟩
  rw [Int.toNat_natCast] at r
  have lr : (rangeL 0 m).length = m := by rw [rangeL_map2]; simp
  obtain ⟨s', h', e, v5, rfl, rfl⟩ := forE_ix (C := ⟨T, call T k⟩) (tg := .one 5) (a := duB) (ok := fun _ => True)
    (fun i σ z => ∃ v5, σ = [some (.int (m : Int)), some (.str (S (wOf le).s)), some (.bl tl), some (.ref h.length), some (.int (Tw i)), v5, none, none, none, none] ∧ z = h ++ [O.lst ((dR le i).map Rw.d)]) (fun _ _ _ _ => trivial)
    (ds := rangeL 0 m) (n := 0) (s := [some (.int (m : Int)), some (.str (S (wOf le).s)), some (.bl tl), some (.ref h.length), some (.int 1), none, none, none, none, none]) (h := h ++ [O.lst ((dR le 0).map Rw.d)])
    (fun i d hd σ z ⟨v5, es, ez⟩ => by
      rw [rangeL_map2] at hd
      have hi : i < m := by
        have := (List.getElem?_eq_some_iff.mp hd).1
        simpa using this
      have ed : d = .int (i : Int) := by
        rw [List.getElem?_map, List.getElem?_range hi] at hd
        simpa using hd.symm
      subst ed es ez
      rw [Nat.zero_add]
      have t1 := Tw_succ i
      have bT := Tw_bd (k := i) (by omega)
      have ml := bT.mulB (by decide)
      have m2' : mulB 2 := by decide
      have bk : bmK .append (.ref h.length) (h ++ [O.lst ((dR le i).map Rw.d)]) = true := bmK_lst (xs := (dR le i).map Rw.d) .append (by simp)
      have ap : Bm.run .append (.ref h.length) [.tup [.str (S (wOf le).s), .int (i : Int), .int (i : Int)]] (h ++ [O.lst ((dR le i).map Rw.d)]) = .ok .non (h ++ [O.lst ((dR le (i + 1)).map Rw.d)]) := by
        rw [append_lst (xs := (dR le i).map Rw.d) (by simp) (by simp [SZ, dR]; omega), dR_succ]
        simp [Rw.d]
      refine ⟨_, [some (.int (m : Int)), some (.str (S (wOf le).s)), some (.bl tl), some (.ref h.length), some (.int (Tw (i + 1))), some (.int (i : Int)), none, none, none, none], h ++ [O.lst ((dR le (i + 1)).map Rw.d)], rfl, .inl ?_, _, rfl, rfl⟩
      rw [t1]
      generalize h ++ [O.lst ((dR le (i + 1)).map Rw.d)] = h3 at *
      generalize h ++ [O.lst ((dR le i).map Rw.d)] = h2 at *
      generalize (i : Int) = ii at *
      generalize (m : Int) = mm at *
      generalize Tw i = tt at *
      simp [duB, f__law_doubled, dropB, headB, forBody, bk, ap, run_mul, m2', ml])
    ⟨none, rfl, rfl⟩
  rw [lr, Nat.zero_add] at e
  obtain ⟨m', em⟩ : ∃ m', m = m' + 1 := ⟨m - 1, by omega⟩
  have bk : bmK .append (.ref h.length) (h ++ [O.lst ((dR le m).map Rw.d)]) = true := bmK_lst (xs := (dR le m).map Rw.d) .append (by simp)
  have ap : Bm.run .append (.ref h.length) [.tup [.str (S "not"), .int (m : Int)]] (h ++ [O.lst ((dR le m).map Rw.d)]) = .ok .non (h ++ [O.lst ((dR le m ++ [Rw.nt m]).map Rw.d)]) := by
    rw [append_lst (xs := (dR le m).map Rw.d) (by simp) (by simp [SZ, dR]; omega)]
    simp [Rw.d]
  have e0 : (dR le 0).map Rw.d = [.tup [.str (S "p")]] := rfl
  rw [e0] at e r
  simp only [duB, f__law_doubled, dropB, headB, forBody] at e
  -- the line that is due
  have pre : exB ⟨T, call T k⟩ f__law_doubled.body [some (.int (m : Int)), some (.str (S (wOf le).s)), some (.bl tl), none, none, none, none, none, none, none] h = exB ⟨T, call T k⟩ (dropB 5 f__law_doubled.body) [some (.int (m : Int)), some (.str (S (wOf le).s)), some (.bl tl), some (.ref h.length), some (.int (Tw m)), v5, some (LT (Dl le m)), none, none, none] (h ++ [O.lst ((dR le m).map Rw.d)]) := by
    have eL : LT (Dl le m) = if le then .tup [.tup [.tup [.int (Tw m - 1), .int (Tw m)], .int 0, .int 0], .tup [.tup [.int 1, .int 1], .int (Tw m), .int (1 - Tw m)]] else .tup [.tup [.tup [.int 1, .int (Tw m)], .int (Tw m), .int 0], .tup [.tup [.int 1, .int 1], .int 0, .int 1]] := by
      rw [em]
      cases le <;> rfl
    have ew : (S (wOf le).s == S "less") = le := by cases le <;> simp [wOf, Wo.s]
    rw [eL]
    generalize S (wOf le).s = ws at *
    generalize (m : Int) = mm at *
    generalize Tw m = tt at *
    generalize h ++ [O.lst ((dR le m).map Rw.d)] = h5 at *
    have e1 : evE ⟨T, call T k⟩ (.lst (.cons (.tup (.cons (.k (.str (S "p"))) .nil)) .nil)) [some (.int mm), some (.str ws), some (.bl tl), none, none, none, none, none, none, none] h = .ok (.ref h.length) (h ++ [O.lst [.tup [.str (S "p")]]]) := by simp
    simp only [f__law_doubled, dropB]
    rw [exB_cons, exS_set, e1, kSet_ok, kThen_nx, exB_cons, exS_set, evE_k, kSet_ok, kThen_nx, exB_cons, exS_for, walk_r1, evE_v]
    simp only [List.set_cons_succ, List.set_cons_zero, getL_zero, kVar_some]
    rw [kR1_ok, r, kFor_ok]
    simp only [e, kThen_nx]
    cases le
    · simp [ew]
    · simp [ew]
  rw [call_eq hD rfl]
  show ∃ G, SR.fin (exB ⟨T, call T k⟩ f__law_doubled.body [some (.int (m : Int)), some (.str (S (wOf le).s)), some (.bl tl), none, none, none, none, none, none, none] h) = _
  rw [pre]
  cases tl
  · refine ⟨[], ?_⟩
    simp only [Bool.false_eq_true, if_false]
    generalize LT (Dl le m) = LD at *
    generalize h ++ [O.lst ((dR le m).map Rw.d)] = h5 at *
    generalize (m : Int) = mm at *
    generalize S (wOf le).s = ws at *
    simp [f__law_doubled, dropB]
  · have ef : ((Dl le m).map fun x => St.d ⟨x.p, x.q, -x.s, 1 - x.t⟩) = (((Dl le m).map tn).map (rs 1)).map St.d := by
      simp only [List.map_map]
      apply List.map_congr_left
      intro x _
      simp only [Function.comp_apply, tn, rs]
      rw [show 1 - x.t = -x.t + 1 by omega]
    have cm := kComp_mapL (C := ⟨T, call T k⟩) (s := [some (.int (m : Int)), some (.str (S (wOf le).s)), some (.bl true), some (.ref h.length), some (.int (Tw m)), v5, some (LT (Dl le m)), none, none, none]) (h := h ++ [O.lst ((dR le m ++ [Rw.nt m]).map Rw.d)]) (e := .tup (.cons (.v 7) (.cons (.neg (.v 8)) (.cons (.bin .sub (.k (.int 1)) (.v 9)) .nil)))) (tg := .many [7, 8, 9]) (own := [7, 8, 9]) (w := ⟨(Dl le m).map St.d, fun _ => True⟩) (Dl le m) St.d (fun x => St.d ⟨x.p, x.q, -x.s, 1 - x.t⟩) rfl trivial
      (fun x hx => ⟨_, asg_three .., by simp [wipe]; rfl⟩) (by have := Dl_len le m; simp [SZ]; omega)
    rw [ef] at cm
    have tl := tuple_lst (h := h ++ [O.lst ((dR le m ++ [Rw.nt m]).map Rw.d)] ++ [O.lst ((((Dl le m).map tn).map (rs 1)).map St.d)]) (n := (h ++ [O.lst ((dR le m ++ [Rw.nt m]).map Rw.d)]).length) (xs := (((Dl le m).map tn).map (rs 1)).map St.d) List.getElem?_concat_length
    refine ⟨[O.lst ((((Dl le m).map tn).map (rs 1)).map St.d)], ?_⟩
    have eh : h ++ O.lst ((if true = true then dR le m ++ [Rw.nt m] else dR le m).map Rw.d) :: [O.lst ((((Dl le m).map tn).map (rs 1)).map St.d)] = h ++ [O.lst ((dR le m ++ [Rw.nt m]).map Rw.d)] ++ [O.lst ((((Dl le m).map tn).map (rs 1)).map St.d)] := by simp
    rw [eh]
    have w : ∀ z, walkSq z (LT (Dl le m)) = some ⟨(Dl le m).map St.d, fun _ => True⟩ := fun z => rfl
    simp only [if_true]
    rw [show LT (((Dl le m).map tn).map (rs 1)) = .tup ((((Dl le m).map tn).map (rs 1)).map St.d) from rfl]
    generalize (((Dl le m).map tn).map (rs 1)).map St.d = RD at *
    generalize (Dl le m).map St.d = DD at *
    generalize LT (Dl le m) = LD at *
    generalize h ++ [O.lst ((dR le m ++ [Rw.nt m]).map Rw.d)] ++ [O.lst RD] = h7 at *
    generalize h ++ [O.lst ((dR le m ++ [Rw.nt m]).map Rw.d)] = h6 at *
    generalize h ++ [O.lst ((dR le m).map Rw.d)] = h5 at *
    generalize (m : Int) = mm at *
    generalize S (wOf le).s = ws at *
    simp [f__law_doubled, dropB, bk, ap, w, cm, tl]
theorem rls_len : ∀ (rs : List Rw) (ls : List (List St)), (rls rs ls).length = ls.length + rs.length
  | [], ls => rfl
  | r :: rs, ls => by
    rw [show rls (r :: rs) ls = rls rs (ls ++ [rl ls r]) from rfl, rls_len rs]
    simp
    omega
theorem eq_LT {h : Hs} (L : List St) : Cop.run .eq (LT L) (LT L) h = .ok (.bl true) h := by
  have e := eqv_tup (h := h) (flats_d L) (by have := ddeps_d L; omega)
  simp [Cop.run, LT, e]
theorem ne_rows {h : Hs} {n m : Nat} {rs : List Rw} (a : h[n]? = some (.lst (rs.map Rw.d))) (b : h[m]? = some (.lst (rs.map Rw.d))) : Cop.run .ne (.ref n) (.ref m) h = .ok (.bl false) h := by
  have f : flats (rs.map Rw.d) = true := flats_map _ _ fun r _ => by cases r <;> rfl
  have d : ddeps (rs.map Rw.d) ≤ 3 := ddeps_map _ _ _ fun r _ => by cases r <;> simp [Rw.d, ddep, ddeps]
  have e := eqv_lst a b f (by omega)
  simp [Cop.run, e]
theorem dup_ok (le tl : Bool) {m : Nat} (m1 : 1 ≤ m) (m2 : m ≤ 60) : AllH 70 [] (if tl then dR le m ++ [.nt m] else dR le m) ∧ RowsOk 0 (if tl then dR le m ++ [.nt m] else dR le m) ∧ (∃ X, rls (if tl then dR le m ++ [.nt m] else dR le m) [] = X ++ [if tl then ((Dl le m).map tn).map (rs 1) else Dl le m]) ∧
    Lin 300 300 (if tl then ((Dl le m).map tn).map (rs 1) else Dl le m) ∧ 0 < (if tl then dR le m ++ [.nt m] else dR le m).length ∧ (if tl then dR le m ++ [.nt m] else dR le m).length ≤ 62 := by
  obtain ⟨h1, h2, h3⟩ := dR_main le m (by omega)
  have gd : (rls (dR le m) []).getD m [] = Dl le m := by rw [h2]; simp
  have ln : (rls (dR le m) []).length = m + 1 := by rw [h2]; simp
  have d := Dl_lin le (k := m) (by omega)
  have l2 := Dl_len le m
  have dl : (dR le m).length = m + 1 := by simp [dR]
  have b0 : Bd 70 0 := (show Bd 1 0 from Bd.of (by decide)).mono (by decide)
  have b1 : Bd 71 1 := (show Bd 1 1 from Bd.of (by decide)).mono (by decide)
  cases tl
  · simp only [Bool.false_eq_true, if_false]
    refine ⟨h1, h3, ⟨(List.range m).map (Dl le), ?_⟩, d.mono (by decide) (by decide), by omega, by omega⟩
    rw [h2, List.range_succ, List.map_append, List.map_singleton]
  · simp only [if_true]
    have g1 : Lin 300 71 ((Dl le m).map tn) := by rw [tn_gm]; exact d.gm (.inr rfl) b0
    have g2 : Lin 300 72 (((Dl le m).map tn).map (rs 1)) := by rw [rs_gm]; exact g1.gm (.inl rfl) b1
    refine ⟨h1.snoc (by rw [ln]; exact Nat.lt_succ_self m) (by simp only [RowH, gd]; omega), RowsOk.app h3 ⟨by rw [Nat.zero_add, dl]; exact Nat.lt_succ_self m, trivial⟩, ⟨rls (dR le m) [], ?_⟩, g2.mono (by decide) (by decide), by simp, by simp; omega⟩
    rw [rls_snoc]
    simp only [rl, gd]
theorem k22_law {T : Tab} (K : K22 T) (ns : List Int) (S0 : Scr ns) : ∃ h', call T 14 "law" [.ref 0] [.frz (ns.map .int)] = .ok (.bl true) h' := by
  have h0 : ([.frz (ns.map .int)] : Hs)[0]? = some (.frz (ns.map .int)) := rfl
  obtain ⟨rs_, o, cr, pos, le25, e1⟩ := rows22_ok K 11 h0 S0
  generalize hH : ([.frz (ns.map .int)] : Hs) ++ [.lst (rs_.map Rw.d), o] = H at e1
  have g1 : H[([.frz (ns.map .int)] : Hs).length]? = some (.lst (rs_.map Rw.d)) := by rw [← hH]; rfl
  have H0 : H[0]? = some (.frz (ns.map .int)) := by rw [← hH]; rfl
  have ls := list_lst g1
  have gA := (Gr.app H [O.lst (rs_.map Rw.d)]).at g1
  have gB : (H ++ [O.lst (rs_.map Rw.d)])[H.length]? = some (.lst (rs_.map Rw.d)) := List.getElem?_concat_length
  -- the line of the rows
  obtain ⟨a1, ⟨cs', al, c8⟩, a3⟩ := rows_main rs_ [] [] 1 (by decide) (by omega) ⟨rfl, fun i hi => absurd hi (Nat.not_lt_zero _)⟩ cr
  have rl_ := rls_len rs_ []
  simp only [List.length_nil, Nat.zero_add] at rl_
  obtain ⟨X, z, ez⟩ : ∃ X z, rls rs_ [] = X ++ [z] := ⟨_, _, (List.dropLast_concat_getLast (by intro e; rw [e] at rl_; simp at rl_; omega)).symm⟩
  have lX : X.length + 1 = rs_.length := by rw [← rl_, ez]; simp
  have gz : Gdl (1 + 6 * rs_.length) (cs'.getD X.length 0) z := by
    have := al.2 X.length (by rw [rl_]; omega)
    rw [ez] at this
    simpa using this
  have te : Tells z rs_ := fun x n hn h0 hx => by
    have := a3 x n hn h0 hx
    rw [ez, List.map_append, List.map_singleton] at this
    exact ⟨_, this⟩
  have ok0 : RowsOk 0 rs_ := cr.ok
  obtain ⟨G1, e2⟩ := line_of_rows_ok K.rows 2 gB ok0 pos (by omega) (by decide) (by decide) a1 ez
  have gA1 := (Gr.app (H ++ [O.lst (rs_.map Rw.d)]) G1).at gA
  have gB1 := (Gr.app (H ++ [O.lst (rs_.map Rw.d)]) G1).at gB
  obtain ⟨G2, e3⟩ := right_ok K.ri 9 gA1 ok0 (by omega) (gz.lin.mono (by decide) (by omega)) te
  have gA2 := (Gr.app (H ++ [O.lst (rs_.map Rw.d)] ++ G1) G2).at gA1
  have gB2 := (Gr.app (H ++ [O.lst (rs_.map Rw.d)] ++ G1) G2).at gB1
  have H2 := (Gr.app (H ++ [O.lst (rs_.map Rw.d)] ++ G1) G2).at ((Gr.app (H ++ [O.lst (rs_.map Rw.d)]) G1).at ((Gr.app H [O.lst (rs_.map Rw.d)]).at H0))
  have ne := ne_rows gB2 gA2
  generalize hh2 : H ++ [O.lst (rs_.map Rw.d)] ++ G1 ++ G2 = h2 at *
  generalize hh1 : H ++ [O.lst (rs_.map Rw.d)] ++ G1 = h1 at *
  generalize H ++ [O.lst (rs_.map Rw.d)] = h9 at *
  -- the doubled rows
  obtain ⟨c, ⟨c0, bc⟩, ec⟩ := cell1_ok K.cell H2 12 24 (by decide) (Bd.of (by decide))
  have q1 := Int.fmod_nonneg_of_pos c (show (0 : Int) < 60 by decide)
  have q2 := Int.fmod_lt_of_pos c (show (0 : Int) < 60 by decide)
  obtain ⟨m, hm⟩ := Int.eq_ofNat_of_zero_le (show 0 ≤ 1 + c.fmod 60 by omega)
  have p1 := Int.fmod_nonneg_of_pos (c.fdiv 60) (show (0 : Int) < 2 by decide)
  have p2 := Int.fmod_lt_of_pos (c.fdiv 60) (show (0 : Int) < 2 by decide)
  obtain ⟨le, hle⟩ : ∃ le : Bool, getI (.tup [.str (S "more"), .str (S "less")]) (.int ((c.fdiv 60).fmod 2)) h2 = .ok (.str (S (wOf le).s)) h2 := by
    have : (c.fdiv 60).fmod 2 = 0 ∨ (c.fdiv 60).fmod 2 = 1 := by omega
    rcases this with e | e
    · exact ⟨false, by rw [e]; simp [wOf, Wo.s]⟩
    · exact ⟨true, by rw [e]; simp [wOf, Wo.s]⟩
  obtain ⟨tl, htl⟩ : ∃ tl : Bool, decide ((c.fdiv 120).fmod 2 = 1) = tl := ⟨_, rfl⟩
  obtain ⟨G3, e4⟩ := doubled_ok K.doubled 12 h2 (m := m) (by omega) (by omega) le tl
  obtain ⟨b1, b2, ⟨Y, b3⟩, b4, b5, b6⟩ := dup_ok le tl (m := m) (by omega) (by omega)
  generalize (if tl then dR le m ++ [Rw.nt m] else dR le m) = R2 at *
  generalize (if tl then ((Dl le m).map tn).map (rs 1) else Dl le m) = z2 at *
  obtain ⟨G4, e5⟩ := line_of_rows_ok K.rows 2 (h := h2 ++ .lst (R2.map Rw.d) :: G3) (n := h2.length) (get_mid h2 G3 _) b2 b5 (by omega) (by decide) (by decide) b1 b3
  obtain ⟨o6, e6⟩ := isline_ok K.ri.is_ 10 (h2 ++ .lst (R2.map Rw.d) :: G3 ++ G4) (b4.cn.ch fun x hx => (b4.bx x hx).mono (by decide) (by decide)) b4.df b4.pos (by have := b4.len; omega)
  have q5 := eq_LT (h := h2 ++ .lst (R2.map Rw.d) :: G3 ++ G4 ++ [o6]) z2
  rw [show D.tup (z2.map St.d) = LT z2 from rfl] at e6
  refine ⟨h2 ++ .lst (R2.map Rw.d) :: G3 ++ G4 ++ [o6], ?_⟩
  generalize h2 ++ .lst (R2.map Rw.d) :: G3 ++ G4 ++ [o6] = h6 at *
  generalize h2 ++ .lst (R2.map Rw.d) :: G3 ++ G4 = h5 at *
  generalize h2 ++ .lst (R2.map Rw.d) :: G3 = h4 at *
  generalize LT z2 = L2 at *
  generalize LT z = L1 at *
  simp only [List.length_cons, List.length_nil] at e1 ls e3 ne
  generalize S (wOf le).s = ws at *
  have d60 : divB 60 := by decide
  have d120 : divB 120 := by decide
  rw [call_eq K.law rfl]
  show SR.fin (exB ⟨T, call T 13⟩ f_law_v21.body [some (.ref 0), none, none, none, none, none] [.frz (ns.map .int)]) = _
  have pre : exB ⟨T, call T 13⟩ f_law_v21.body [some (.ref 0), none, none, none, none, none] [.frz (ns.map .int)] = exB ⟨T, call T 13⟩ (dropB 4 f_law_v21.body) [some (.ref 0), some (.ref 1), some (.ref H.length), some (.int c), none, none] h2 := by
    simp [f_law_v21, dropB, e1, ls, e2, e3, ne, ec]
  rw [pre]
  have em : (1 + c.fmod 60) = (m : Int) := hm
  rw [← em] at e4
  simp only [f_law_v21, dropB]
  simp only [getI_tup] at hle
  simp [run_mod, run_fdiv, d60, d120, hle, htl, e4, setTR_tup, e5, e6, q5]
end Q

/-! the law and its world, printed by gen.py -/
namespace Q.k22
open PySem PySem.Spec PyProof.Rows L2
def top (i : Nat) : Stmt := PySem.Challenge.pw_leansay_k22_line_of_rows.main.body.getD i (.Pass ⟨0, 0, 0, 0⟩)
def ds0 : List DD := [⟨"shared", none, "shared", "shared", top 6, "fractions.shared", f_fractions_shared, [Str.ofString "one", Str.ofString "other", Str.ofString "big", Str.ofString "small", Str.ofString "rest"]⟩,
  ⟨"fraction", none, "fraction", "fraction", top 7, "fractions.fraction", f_fractions_fraction, [Str.ofString "top", Str.ofString "bottom", Str.ofString "by"]⟩,
  ⟨"less", none, "less", "less", top 8, "fractions.less", f_fractions_less, [Str.ofString "one", Str.ofString "other"]⟩,
  ⟨"rule_at", none, "rule_at", "rule_at", top 12, "lines.rule_at", f_lines_rule_at, [Str.ofString "stretch", Str.ofString "x"]⟩,
  ⟨"joined", none, "joined", "joined", top 13, "lines.joined", f_lines_joined, [Str.ofString "stretches", Str.ofString "line", Str.ofString "stretch"]⟩,
  ⟨"level", none, "level", "level", top 15, "lineworks.level", f_lineworks_level, [Str.ofString "height"]⟩,
  ⟨"pieces", none, "pieces", "pieces", top 16, "lineworks.pieces", f_lineworks_pieces, [Str.ofString "one", Str.ofString "other", Str.ofString "found", Str.ofString "i", Str.ofString "j", Str.ofString "first", Str.ofString "second", Str.ofString "end"]⟩,
  ⟨"added", none, "added", "added", top 17, "lineworks.added", f_lineworks_added, [Str.ofString "one", Str.ofString "other", Str.ofString "end", Str.ofString "first", Str.ofString "second"]⟩,
  ⟨"turned", none, "turned", "turned", top 18, "lineworks.turned", f_lineworks_turned, [Str.ofString "line", Str.ofString "stretch"]⟩,
  ⟨"raised", none, "raised", "raised", top 19, "lineworks.raised", f_lineworks_raised, [Str.ofString "line", Str.ofString "by", Str.ofString "stretch"]⟩,
  ⟨"higher", none, "higher", "higher", top 20, "lineworks.higher", f_lineworks_higher, [Str.ofString "start", Str.ofString "end", Str.ofString "first", Str.ofString "second", Str.ofString "ahead", Str.ofString "behind"]⟩,
  ⟨"crossing", none, "crossing", "crossing", top 21, "lineworks.crossing", f_lineworks_crossing, [Str.ofString "first", Str.ofString "second"]⟩]
def ds1 : List DD := [⟨"greater_line", none, "greater_line", "greater_line", top 22, "lineworks.greater_line", f_lineworks_greater_line, [Str.ofString "one", Str.ofString "other", Str.ofString "found", Str.ofString "start", Str.ofString "end", Str.ofString "first", Str.ofString "second"]⟩,
  ⟨"lesser_line", none, "lesser_line", "lesser_line", top 23, "lineworks.lesser_line", f_lineworks_lesser_line, [Str.ofString "one", Str.ofString "other"]⟩,
  ⟨"cut_off", none, "cut_off", "cut_off", top 24, "lineworks.cut_off", f_lineworks_cut_off, [Str.ofString "line"]⟩,
  ⟨"is_place", none, "is_place", "is_place", top 29, "rows.is_place", f_rows_is_place, [Str.ofString "thing", Str.ofString "at"]⟩,
  ⟨"is_row", none, "is_row", "is_row", top 30, "rows.is_row", f_rows_is_row, [Str.ofString "thing", Str.ofString "at", Str.ofString "size", Str.ofString "number"]⟩,
  ⟨"rows_fault", none, "rows_fault", "rows_fault", top 31, "rows.rows_fault", f_rows_rows_fault, [Str.ofString "things", Str.ofString "at", Str.ofString "thing"]⟩,
  ⟨"fold_line", none, "fold_line", "fold_line", top 34, "meanings.fold_line", f_meanings_fold_line, [Str.ofString "word", Str.ofString "one", Str.ofString "other"]⟩,
  ⟨"row_line", none, "row_line", "row_line", top 35, "meanings.row_line", f_meanings_row_line, [Str.ofString "row", Str.ofString "lines"]⟩,
  ⟨"last_line", none, "last_line", "last_line", top 36, "meanings.last_line", f_meanings_last_line, [Str.ofString "rows", Str.ofString "lines", Str.ofString "row"]⟩,
  ⟨"line_of_rows", none, "line_of_rows", "line_of_rows", top 37, "meanings.line_of_rows", f_meanings_line_of_rows, [Str.ofString "rows", Str.ofString "fault"]⟩,
  ⟨"_law_cell_at", none, "_law_cell_at", "_law_cell_at", top 39, "_law_cell_at", f__law_cell_at, [Str.ofString "_law_script", Str.ofString "_law_k", Str.ofString "_law_cell"]⟩,
  ⟨"_law_divisor", none, "_law_divisor", "_law_divisor", top 40, "_law_divisor", f__law_divisor, [Str.ofString "_law_a", Str.ofString "_law_b", Str.ofString "_law_rest"]⟩]
def ds2 : List DD := [⟨"_law_whole", none, "_law_whole", "_law_whole", top 41, "_law_whole", f__law_whole, [Str.ofString "_law_found"]⟩,
  ⟨"_law_is_stretch", none, "_law_is_stretch", "_law_is_stretch", top 42, "_law_is_stretch", f__law_is_stretch, [Str.ofString "_law_one", Str.ofString "_law_end"]⟩,
  ⟨"_law_is_line", none, "_law_is_line", "_law_is_line", top 43, "_law_is_line", f__law_is_line, [Str.ofString "_law_line", Str.ofString "_law_start", Str.ofString "_law_k", Str.ofString "_law_one", Str.ofString "_law_end", Str.ofString "_law_ahead", Str.ofString "_law_gap"]⟩,
  ⟨"_law_height", none, "_law_height", "_law_height", top 44, "_law_height", f__law_height, [Str.ofString "_law_line", Str.ofString "_law_x", Str.ofString "_law_k"]⟩,
  ⟨"_law_folded", none, "_law_folded", "_law_folded", top 45, "_law_folded", f__law_folded, [Str.ofString "_law_word", Str.ofString "_law_n", Str.ofString "_law_a", Str.ofString "_law_b"]⟩,
  ⟨"_law_rows", none, "_law_rows", "_law_rows", top 46, "_law_rows", f__law_rows_v2, [Str.ofString "_law_script", Str.ofString "_law_rows_here", Str.ofString "_law_many", Str.ofString "_law_k", Str.ofString "_law_cell", Str.ofString "_law_i", Str.ofString "_law_j", Str.ofString "_law_kind", Str.ofString "_law_row", Str.ofString "_law_count"]⟩,
  ⟨"_law_worths", none, "_law_worths", "_law_worths", top 47, "_law_worths", f__law_worths, [Str.ofString "_law_rows_here", Str.ofString "_law_n", Str.ofString "_law_x", Str.ofString "_law_worths_here", Str.ofString "_law_row"]⟩,
  ⟨"_law_as", none, "_law_as", "_law_as", top 48, "_law_as", f__law_as_v5, [Str.ofString "_law_line", Str.ofString "_law_rows_here", Str.ofString "_law_n", Str.ofString "_law_x", Str.ofString "_law_top", Str.ofString "_law_bottom"]⟩,
  ⟨"_law_right", none, "_law_right", "_law_right", top 49, "_law_right", f__law_right, [Str.ofString "_law_line", Str.ofString "_law_rows_here", Str.ofString "_law_end", Str.ofString "_law_slope", Str.ofString "_law_height_here", Str.ofString "_law_n", Str.ofString "_law_x"]⟩,
  ⟨"_law_doubled", none, "_law_doubled", "_law_doubled", top 50, "_law_doubled", f__law_doubled, [Str.ofString "_law_many", Str.ofString "_law_word", Str.ofString "_law_turned_last", Str.ofString "_law_rows_here", Str.ofString "_law_steep", Str.ofString "_law_k", Str.ofString "_law_line", Str.ofString "_law_end", Str.ofString "_law_slope", Str.ofString "_law_height_here"]⟩,
  ⟨"law", none, "law", "law", top 51, "law", f_law_v21, [Str.ofString "_law_script", Str.ofString "_law_rows_here", Str.ofString "_law_handed", Str.ofString "_law_cell", Str.ofString "_law_due", Str.ofString "_law_found"]⟩]
def lw : Lw := ⟨ds0 ++ ds1 ++ ds2, [.SayError, .NoRows, .NoNumber, .NoLetter], [("NOUGHT", "lines.NOUGHT", (.tup [(.int 0), (.int 1)])), ("ONE", "lines.ONE", (.tup [(.int 1), (.int 1)])), ("MOST", "rows.MOST", (.int 400)), ("PLAIN", "rows.PLAIN", (.tup [(.str (S "never")), (.str (S "always")), (.str (S "p")), (.str (S "q"))])), ("FOLDS", "rows.FOLDS", (.tup [(.str (S "more")), (.str (S "less")), (.str (S "greater")), (.str (S "lesser")), (.str (S "leads"))])), ("LETTER_LINE", "meanings.LETTER_LINE", (.tup [(.tup [(.tup [(.int 1), (.int 1)]), (.int 1), (.int 0)])]))], [⟨"NoRows", "NoRows.__init__", inCls (top 2) 0, [Str.ofString "self", Str.ofString "at"]⟩], [(.NoRows, some "NoRows")], [], fun _ => none⟩
def loose0 : List Str := ["SayError", "NoRows", "NoNumber", "NoLetter", "shared", "fraction", "less", "NOUGHT", "ONE", "rule_at", "joined", "level", "pieces", "added", "turned", "raised", "higher", "crossing", "greater_line", "lesser_line"]
def loose1 : List Str := ["cut_off", "MOST", "PLAIN", "FOLDS", "is_place", "is_row", "rows_fault", "LETTER_LINE", "fold_line", "row_line", "last_line", "line_of_rows", "_law_cell_at", "_law_divisor", "_law_whole", "_law_is_stretch", "_law_is_line", "_law_height", "_law_folded", "_law_rows"]
def loose2 : List Str := ["_law_worths", "_law_as", "_law_right", "_law_doubled"]
def loose : List Str := loose0 ++ loose1 ++ loose2
abbrev R : PySem.W.OpenRow := PySem.W.OpenLaw.row PySem.Challenge.rw_leansay_k22_line_of_rows
abbrev hk : PySem.W.Hook := hookQ 5 lw.ck lw.fn
def ob (s : PySem.W.SharedT) : AlQ := obsQG 5 lw.ck lw.fn (HandSHeadRun.getT s)
theorem ob_eq (s : PySem.W.SharedT) : ob s = hk.obs s.abs := obsQG_eq (HandSHeadRun.getT_eq s)
theorem run (w : World) : HandSHeadRun.RunEq R (PySem.W.view R.prog [51]) hk ob 30000 loose w := by
  intro os
  kernel_rfl
theorem fns : lw.fns = true := by decide +kernel
end Q.k22

/-! the law k22: its world and mine -/
namespace Q.k22
open PySem
def depth : Nat := 14
theorem tabs : K22 lw.T := ⟨⟨⟨⟨⟨⟨rfl, rfl, rfl, rfl, rfl⟩, rfl, rfl, rfl, rfl, rfl, rfl, rfl⟩, rfl, rfl, rfl⟩, rfl, rfl, rfl, rfl, rfl, rfl⟩, ⟨rfl, rfl, rfl, rfl, rfl, rfl⟩, rfl⟩, ⟨⟨rfl, rfl, rfl, rfl⟩, rfl, rfl, rfl, rfl, rfl⟩, rfl, rfl, rfl, rfl⟩
theorem law_ok (ns : List Int) (hl : ns.length ≤ 63) (hb : ∀ z ∈ ns, Builtin.Int.intBits z ≤ 1048576) : ∃ h, Q.call lw.T depth "law" [.ref 0] [.frz (ns.map D.int)] = .ok (.bl true) h := Q.k22_law tabs ns ⟨hl, hb⟩
end Q.k22

open PySem PySem.W PySem.Calls PyProof.Rows
theorem PySem.Challenge.cw_leansay_k22_line_of_rows_holds : PySem.Challenge.rw_leansay_k22_line_of_rows.Holds := by
  w_on; o_law
  refine HandSHeadRun.head_any (r := OpenLaw.row PySem.Challenge.rw_leansay_k22_line_of_rows) (q := view (OpenLaw.row PySem.Challenge.rw_leansay_k22_line_of_rows).prog [51]) (H := Q.k22.hk) (ob := Q.k22.ob) (M := 30000) (loose := Q.k22.loose) (d := HandSHeadRun.topDef (OpenLaw.row PySem.Challenge.rw_leansay_k22_line_of_rows).prog 51) (kwd := []) Q.k22.ob_eq
    (by kernel_rfl) (fun s => by kernel_rfl) Q.k22.run (by kernel_rfl) (by kernel_rfl) (by kernel_rfl) (by rfl) (by first | assumption | decide +kernel) (by decide +kernel) ⟨rfl, rfl, rfl, rfl, rfl, by decide +kernel⟩ ?hw ?hc
  case hw => w_witness2
  case hc => exact Q.law_walk (l := PySem.Challenge.rw_leansay_k22_line_of_rows) Q.k22.lw Q.k22.depth rfl (by kernel_rfl) ⟨rfl, by decide, by decide⟩ (by kernel_rfl) (by decide +kernel) (by decide +kernel) Q.k22.fns (by decide +kernel) ⟨_, rfl, rfl⟩ Q.k22.law_ok

