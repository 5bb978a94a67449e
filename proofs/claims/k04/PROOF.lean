import PyProof.Rows.All
import Wide.All
import OpenK.AllK
import Wide.FinOn
import HandS.Text
import HandS.ForExc
import HandS.Comp
import HandS.Dict
import HandS.Iter
import HandS.Flow
import HandS.Wide
import HandS.Deep
import HandS.IsInst
import HandS.ExcInit
import HandS.CallSlots
import HandS.TupAny
import HandS.More
import HandS.WordsDict
import KE.DataFind
import HandS.ExcIs
import HandS.TryMany
import HandS.Zip
import HandS.WordsExc
import HandS.New0
import HandS.CallRecv
import HandS.Codes
import KE.GoesMore
import PyProof.Draws
import HandS.Small
import HandS.TryOnly
import KE.KStateDown
import Lean
import HandS.Defaults
import HandS.Head0
import HandS.Head1
import HandS.Head2
import HandS.HeadEnd
import HandS.EndBits
import HandS.HeadHook1
import PyProof.Fits
import PyProof.FitsInt
import PySem.Challenge.RW_leansay_k04_sayings_put_in
set_option linter.all false
set_option Elab.async false
set_option maxRecDepth 100000
set_option maxHeartbeats 0
/-! My own value domain, heap, compact program text and interpreter. -/
namespace Q
open PySem (Str)

/-- the classes of the program -/
inductive Cn where
  | SayError | NoText | NoRows | NoLine | NoCall | NoName | NoNumber | TooMany | NoPoint | NoLetter | NoCut
  | Saying | Never | Always | Letter | Not | Fold | More | Less | Greater | Lesser | Leads | Desk
  deriving DecidableEq, Repr

/-- values: immutable things by value, lists and dicts by a place of my heap; lv: a list by value (comparisons alone) -/
inductive D where
  | non | bl (b : Bool) | int (i : Int) | str (s : Str) | tup (ds : List D) | obj (c : Cn) (ds : List D) | ref (n : Nat) | lv (ds : List D)

inductive O where
  | lst (ds : List D) | frz (ds : List D) | dic (t : Bool) (kvs : List (D × D))

abbrev Hs := List O
abbrev Ev := List (Option D)

inductive R (α : Type) where
  | ok (a : α) (h : Hs) | exc (c : Cn) (fs : List D) (h : Hs) | bad

@[reducible] def R.bind {α β : Type} (r : R α) (f : α → Hs → R β) : R β := match r with
  | .ok a h => f a h
  | .exc c fs h => .exc c fs h
  | .bad => .bad
@[simp] theorem R.bind_ok {α β : Type} (a : α) (h : Hs) (f : α → Hs → R β) : R.bind (.ok a h) f = f a h := rfl
@[simp] theorem R.bind_exc {α β : Type} (c : Cn) (fs : List D) (h : Hs) (f : α → Hs → R β) : R.bind (.exc c fs h) f = .exc c fs h := rfl
@[simp] theorem R.bind_bad {α β : Type} (f : α → Hs → R β) : R.bind (.bad : R α) f = .bad := rfl

/-- a statement's end -/
inductive SR where
  | nx (s : Ev) (h : Hs) | rt (d : D) (h : Hs) | bk (s : Ev) (h : Hs) | ct (s : Ev) (h : Hs) | exc (c : Cn) (fs : List D) (s : Ev) (h : Hs) | bad

abbrev S (x : String) : Str := Str.ofString x
/-- the largest size of a list, a text -/
def SZ : Nat := 16777216
/-- factors, divisors, numbers that are written: how many bits at most -/
def mulB (i : Int) : Prop := i.natAbs.log2 < 60000000
def divB (i : Int) : Prop := i.natAbs.log2 < 9000
def strB (i : Int) : Prop := i.natAbs.log2 < 1900
instance (i : Int) : Decidable (mulB i) := inferInstanceAs (Decidable (_ < _))
instance (i : Int) : Decidable (divB i) := inferInstanceAs (Decidable (_ < _))
instance (i : Int) : Decidable (strB i) := inferInstanceAs (Decidable (_ < _))
/-! ### equality -/
def b2i (b : Bool) : Int := if b then 1 else 0
mutual
def deq : D → D → Bool
  | .non, .non => true
  | .bl a, .bl b => a == b
  | .bl a, .int j => b2i a == j
  | .int i, .int j => i == j
  | .int i, .bl b => i == b2i b
  | .str x, .str y => x == y
  | .tup xs, .tup ys => deqs xs ys
  | .lv xs, .lv ys => deqs xs ys
  | _, _ => false
def deqs : List D → List D → Bool
  | [], [] => true
  | x :: xs, y :: ys => deq x y && deqs xs ys
  | _, _ => false
end
mutual
/-- a value by value alone: no objects, no places -/
def pur : D → Bool
  | .tup xs => purs xs
  | .lv xs => purs xs
  | .obj _ _ => false
  | .ref _ => false
  | _ => true
def purs : List D → Bool
  | [] => true
  | x :: xs => pur x && purs xs
end
mutual
/-- the lists within a value read, by f -/
def rsF (f : Nat → Option D) : D → Option D
  | .tup xs => (rsFs f xs).map .tup
  | .ref n => f n
  | .obj _ _ => none
  | .lv _ => none
  | d => some d
def rsFs (f : Nat → Option D) : List D → Option (List D)
  | [] => some []
  | x :: xs => match rsF f x, rsFs f xs with
    | some y, some ys => some (y :: ys)
    | _, _ => none
end
/-- a place read, n lists deep -/
def rdN (h : Hs) : Nat → Nat → Option D
  | 0, _ => none
  | k + 1, n => match h[n]? with
    | some (.lst xs) => (rsFs (rdN h k) xs).map .lv
    | some (.frz xs) => (rsFs (rdN h k) xs).map .lv
    | _ => none
abbrev rsv (h : Hs) (d : D) : Option D := rsF (rdN h 6) d
mutual
/-- how deep a value is -/
def ddep : D → Nat
  | .tup xs => ddeps xs + 1
  | .lv xs => ddeps xs + 1
  | _ => 0
def ddeps : List D → Nat
  | [] => 0
  | x :: xs => max (ddep x) (ddeps xs)
end
def eqv (h : Hs) (a b : D) : Option Bool := match rsv h a, rsv h b with
  | some x, some y => if min (ddep x) (ddep y) ≤ 150 then some (deq x y) else none
  | _, _ => none

/-! ### dicts: pairs in the order of their first store; t: the keys are tuples -/
def sca : D → Bool
  | .int _ => true
  | .str _ => true
  | _ => false
/-- a tuple as rows are: a text, or a text and one or two numbers -/
def rowK : List D → Bool
  | [.str _] => true
  | [.str _, .int _] => true
  | [.str _, .int _, .int _] => true
  | _ => false
def kOk (t : Bool) (x : D) : Bool := match t, x with
  | false, .int _ => true
  | false, .str _ => true
  | true, .tup ds => rowK ds
  | _, _ => false
def dlook (k : D) : List (D × D) → Option D
  | [] => none
  | (a, v) :: r => if deq a k then some v else dlook k r
def dput (k v : D) : List (D × D) → List (D × D)
  | [] => [(k, v)]
  | (a, w) :: r => if deq a k then (a, v) :: r else (a, w) :: dput k v r
def ddel (k : D) : List (D × D) → List (D × D)
  | [] => []
  | (a, w) :: r => if deq a k then r else (a, w) :: ddel k r

/-! ### the text -/
inductive Bop where | add | sub | mul | fdiv | mod | pow deriving DecidableEq
inductive Cop where | lt | le | gt | ge | eq | ne | isin | notin deriving DecidableEq
inductive Ty where | tint | tbool | tstr | ttuple | tlist | tval | own (c : Cn) deriving DecidableEq
/-- built-in functions -/
inductive Bi where | len | abs | min | max | int | str | tuple | list | sum | any | all | sortedset | sorted | lenset deriving DecidableEq
/-- built-in methods -/
inductive Bm where | append | extend | insert | pop | popAt | clear | count | index | split | join | get | dpop | indexFrom deriving DecidableEq

mutual
inductive Ex where
  | v (i : Nat)
  | k (d : D)
  | g (x : String)
  | tup (es : Exs)
  | lst (es : Exs)
  | dic (t : Bool) (es : Exs)
  | bin (o : Bop) (a b : Ex)
  | neg (a : Ex)
  | cmp (o : Cop) (a b : Ex)
  | chn (o p : Cop) (a b c : Ex)
  | isn (a : Ex) (neg : Bool)
  | ist (a : Ex) (b : Bool) (neg : Bool)
  | not (a : Ex)
  | and (es : Exs)
  | or (es : Exs)
  | orv (a : Ex) (b : Ex)
  | ite (c a b : Ex)
  | sub (a i : Ex)
  | slc (a : Ex) (lo hi : Eo)
  | fld (a : Ex) (f : String)
  | call (f : String) (es : Exs)
  | mk (c : Cn) (es : Exs)
  | mth (a : Ex) (m : String) (es : Exs)
  | b (f : Bi) (es : Exs)
  | bm (m : Bm) (a : Ex) (es : Exs)
  | isi (a : Ex) (ts : List Ty)
  | gget (x : String) (a : Ex)
  | gin (a : Ex) (x : String) (neg : Bool)
  | comp (e : Ex) (tg : Tg) (it : It) (c : Eo) (own : List Nat)
  | jst (es : Exs)
inductive Exs where
  | nil
  | cons (e : Ex) (es : Exs)
inductive Eo where
  | none
  | some (e : Ex)
inductive Tg where
  | one (i : Nat)
  | many (is : List Nat)
inductive It where
  | sq (e : Ex)
  | r1 (a : Ex)
  | r2 (a b : Ex)
  | r3 (a b c : Ex)
  | enum (e : Ex)
  | zip (a b : Ex)
  | items (a : Ex)
end
mutual
inductive Sm where
  | pass
  | set (i : Nat) (e : Ex)
  | setT (is : List Nat) (e : Ex)
  | par (i j : Nat) (a b : Ex)
  | setI (o i e : Ex)
  | ex (e : Ex)
  | ret (e : Ex)
  | retN
  | ite (c : Ex) (a b : Bl)
  | whl (c : Ex) (a : Bl)
  | for (tg : Tg) (it : It) (a : Bl)
  | brk
  | cnt
  | raise (c : Cn) (es : Exs)
  | try (a : Bl) (hs : Hds)
inductive Bl where
  | nil
  | cons (s : Sm) (r : Bl)
inductive Hds where
  | nil
  | cons (c : Cn) (i : Option Nat) (b : Bl) (r : Hds)
end

/-- a def: parameters, slots, body -/
structure Fn where
  np : Nat
  ns : Nat
  body : Bl
/-- a program: its defs by name (methods as Class.name), what a method's name means for a class, constants, constant dicts -/
structure Tab where
  fn : String → Option Fn
  meth : Cn → String → Option String
  con : String → Option D
  dic : String → Option (List (Str × D))

/-! ### operations -/
def Bop.run : Bop → D → D → Hs → R D
  | .add, .int i, .int j, h => .ok (.int (i + j)) h
  | .sub, .int i, .int j, h => .ok (.int (i - j)) h
  | .mul, .int i, .int j, h => if mulB i ∧ mulB j then .ok (.int (i * j)) h else .bad
  | .fdiv, .int i, .int j, h => if j ≠ 0 ∧ divB j then .ok (.int (i.fdiv j)) h else .bad
  | .mod, .int i, .int j, h => if j ≠ 0 then .ok (.int (i.fmod j)) h else .bad
  | .pow, .int i, .int j, h => if 0 ≤ j ∧ j ≤ 1000 ∧ i.natAbs < 1000 then .ok (.int (i ^ j.toNat)) h else .bad
  | .add, .str x, .str y, h => if x.length + y.length ≤ SZ then .ok (.str (x ++ y)) h else .bad
  | .add, .tup xs, .tup ys, h => if xs.length + ys.length ≤ SZ then .ok (.tup (xs ++ ys)) h else .bad
  | .add, .ref n, .ref m, h => match h[n]?, h[m]? with
    | some (.lst xs), some (.lst ys) => if xs.length + ys.length ≤ SZ then .ok (.ref h.length) (h ++ [.lst (xs ++ ys)]) else .bad
    | _, _ => .bad
  | .mul, .ref n, .int j, h => match h[n]? with
    | some (.lst xs) => if -(2 ^ 63) ≤ j ∧ j < 2 ^ 63 ∧ xs.length * j.toNat ≤ SZ then .ok (.ref h.length) (h ++ [.lst (List.replicate j.toNat xs).flatten]) else .bad
    | _ => .bad
  | _, _, _, _ => .bad

/-- one sign in a text -/
def signIn (x y : Str) : Option Bool := match x.cps.toList with
  | [c] => some (y.cps.toList.contains c)
  | _ => none
def inSeq (h : Hs) (x : D) : List D → Option Bool
  | [] => (rsv h x).map fun _ => false
  | y :: ys => match eqv h y x, inSeq h x ys with
    | some a, some b => some (a || b)
    | _, _ => none
/-- x in y -/
def isIn (h : Hs) (x y : D) : Option Bool := match y with
  | .tup ys => inSeq h x ys
  | .str y => match x with
    | .str x => signIn x y
    | _ => none
  | .ref n => match h[n]? with
    | some (.lst ys) => inSeq h x ys
    | some (.frz ys) => inSeq h x ys
    | some (.dic t kvs) => if kOk t x then some (dlook x kvs).isSome else none
    | _ => none
  | _ => none
def opt {α : Type} (r : Option α) (f : α → D) (h : Hs) : R D := match r with
  | some a => .ok (f a) h
  | none => .bad
def Cop.run : Cop → D → D → Hs → R D
  | .lt, .int i, .int j, h => .ok (.bl (decide (i < j))) h
  | .le, .int i, .int j, h => .ok (.bl (decide (i ≤ j))) h
  | .gt, .int i, .int j, h => .ok (.bl (decide (j < i))) h
  | .ge, .int i, .int j, h => .ok (.bl (decide (j ≤ i))) h
  | .eq, a, b, h => opt (eqv h a b) D.bl h
  | .ne, a, b, h => opt (eqv h a b) (fun c => D.bl (!c)) h
  | .isin, a, b, h => opt (isIn h a b) D.bl h
  | .notin, a, b, h => opt (isIn h a b) (fun c => D.bl (!c)) h
  | _, _, _, _ => .bad

/-- truth -/
def tru (h : Hs) : D → Option Bool
  | .non => some false
  | .bl b => some b
  | .int i => some (i != 0)
  | .str x => if x.length ≤ SZ then some (x.length != 0) else none
  | .tup xs => some (!xs.isEmpty)
  | .ref n => match h[n]? with
    | some (.lst xs) => some (!xs.isEmpty)
    | some (.dic false xs) => some (!xs.isEmpty)
    | _ => none
  | _ => none

/-- a place of a sequence of n things, from behind where below 0 -/
def ixN (n : Nat) (i : Int) : Option Nat := if 0 ≤ i then (if i < n then some i.toNat else none) else if -(n : Int) ≤ i then some (i + n).toNat else none
def atI {α : Type} (xs : List α) (i : Int) : Option α := (ixN xs.length i).bind fun j => xs[j]?
/-- o[i] -/
def getI (o i : D) (h : Hs) : R D := match o, i with
  | .tup xs, .int i => opt (atI xs i) id h
  | .str x, .int i => if x.length ≤ SZ then opt (atI x.cps.toList i) (fun c => .str ⟨#[c]⟩) h else .bad
  | .ref n, i => match h[n]?, i with
    | some (.lst xs), .int i => opt (atI xs i) id h
    | some (.frz xs), .int i => opt (atI xs i) id h
    | some (.dic t kvs), i => if kOk t i then opt (dlook i kvs) id h else .bad
    | _, _ => .bad
  | _, _ => .bad
/-- o[i] = v -/
def setI (o i v : D) (h : Hs) : Option Hs := match o, i with
  | .ref n, i => match h[n]?, i with
    | some (.lst xs), .int i => (ixN xs.length i).map fun j => h.set n (.lst (xs.set j v))
    | some (.dic t kvs), i => if kOk t i ∧ kvs.length < SZ then some (h.set n (.dic t (dput i v kvs))) else none
    | _, _ => none
  | _, _ => none

/-- a bound of a slice -/
def sIx (n d : Nat) : Option Int → Nat
  | none => d
  | some i => if i < 0 then (i + n).toNat else min i.toNat n
def cut {α : Type} (xs : List α) (lo hi : Option Int) : List α := (xs.drop (sIx xs.length 0 lo)).take (sIx xs.length xs.length hi - sIx xs.length 0 lo)
def slice (o : D) (lo hi : Option Int) (h : Hs) : R D := match o with
  | .tup xs => .ok (.tup (cut xs lo hi)) h
  | .str x => if x.length ≤ SZ then .ok (.str ⟨(cut x.cps.toList lo hi).toArray⟩) h else .bad
  | .ref n => match h[n]? with
    | some (.lst xs) => .ok (.ref h.length) (h ++ [.lst (cut xs lo hi)])
    | some (.frz xs) => .ok (.ref h.length) (h ++ [.lst (cut xs lo hi)])
    | _ => .bad
  | _ => .bad

/-- the things of a sequence -/
def itemsOf (h : Hs) : D → Option (List D)
  | .tup xs => some xs
  | .ref n => match h[n]? with
    | some (.lst xs) => some xs
    | some (.frz xs) => some xs
    | _ => none
  | _ => none
/-- the things of a list -/
def listOf (h : Hs) : D → Option (List D)
  | .ref n => match h[n]? with
    | some (.lst xs) => some xs
    | some (.frz xs) => some xs
    | _ => none
  | _ => none
def intsL : List D → Option (List Int)
  | [] => some []
  | .int i :: r => (intsL r).map (i :: ·)
  | _ :: _ => none
def boolsL : List D → Option (List Bool)
  | [] => some []
  | .bl b :: r => (boolsL r).map (b :: ·)
  | _ :: _ => none
def strsL : List D → Option (List Str)
  | [] => some []
  | .str b :: r => (strsL r).map (b :: ·)
  | _ :: _ => none
def leastI : List Int → Int → Int
  | [], m => m
  | x :: xs, m => leastI xs (if x < m then x else m)
def mostI : List Int → Int → Int
  | [], m => m
  | x :: xs, m => mostI xs (if m < x then x else m)
mutual
/-- what is less: intsL, tuples of such, one form alone -/
def dlt : D → D → Option Bool
  | .int i, .int j => some (decide (i < j))
  | .str x, .str y => some (decide (x.cps.toList < y.cps.toList))
  | .tup xs, .tup ys => dlts xs ys
  | _, _ => none
def dlts : List D → List D → Option Bool
  | [], [] => some false
  | x :: xs, y :: ys => match dlt x y with
    | some true => some true
    | some false => if deq x y then dlts xs ys else some false
    | none => none
  | _, _ => none
end
def leastD : List D → D → Option D
  | [], m => some m
  | x :: xs, m => match dlt x m with
    | some c => leastD xs (if c then x else m)
    | none => none
/-- put in order, like ones once -/
def insD (x : D) : List D → Option (List D)
  | [] => some [x]
  | y :: ys => match dlt x y with
    | some true => some (x :: y :: ys)
    | some false => if deq x y then some (y :: ys) else (insD x ys).map (y :: ·)
    | none => none
def sortD : List D → Option (List D)
  | [] => some []
  | x :: xs => (sortD xs).bind (insD x)
/-- each once, the first ones stay -/
def nubD : List D → List D → List D
  | [], acc => acc
  | x :: xs, acc => if acc.any (deq · x) then nubD xs acc else nubD xs (acc ++ [x])
def toStr (i : Int) : Str := S (toString i)
def Bi.run : Bi → List D → Hs → R D
  | .len, [.str x], h => if x.length ≤ SZ then .ok (.int x.length) h else .bad
  | .len, [.tup xs], h => .ok (.int xs.length) h
  | .len, [.ref n], h => match h[n]? with
    | some (.lst xs) => .ok (.int xs.length) h
    | some (.frz xs) => .ok (.int xs.length) h
    | some (.dic false xs) => .ok (.int xs.length) h
    | _ => .bad
  | .abs, [.int i], h => .ok (.int (if i < 0 then -i else i)) h
  | .min, [.int i, .int j], h => .ok (.int (if j < i then j else i)) h
  | .max, [.int i, .int j], h => .ok (.int (if j > i then j else i)) h
  | .min, [d], h => match listOf h d with
    | some (.int i :: xs) => opt (intsL xs) (fun l => .int (leastI l i)) h
    | _ => .bad
  | .max, [d], h => match listOf h d with
    | some (.int i :: xs) => opt (intsL xs) (fun l => .int (mostI l i)) h
    | _ => .bad
  | .int, [.int i], h => .ok (.int i) h
  | .int, [.bl b], h => .ok (.int (b2i b)) h
  | .int, [.str x], h => if x.length ≤ 640 then opt (PySem.intText? x) .int h else .bad
  | .str, [.int i], h => if strB i ∧ PySem.PyData.strOk (toStr i) = true then .ok (.str (toStr i)) h else .bad
  | .tuple, [d], h => opt (itemsOf h d) D.tup h
  | .list, [.tup xs], h => .ok (.ref h.length) (h ++ [.lst xs])
  | .list, [.ref n], h => match h[n]? with
    | some (.lst xs) => .ok (.ref h.length) (h ++ [.lst xs])
    | some (.frz xs) => .ok (.ref h.length) (h ++ [.lst xs])
    | some (.dic false kvs) => .ok (.ref h.length) (h ++ [.lst (kvs.map (·.1))])
    | _ => .bad
  | .sum, [d], h => opt ((listOf h d).bind intsL) (fun l => .int l.sum) h
  | .any, [d], h => opt ((listOf h d).bind boolsL) (fun l => .bl (l.any id)) h
  | .all, [d], h => opt ((listOf h d).bind boolsL) (fun l => .bl (l.all id)) h
  | _, _, _ => .bad

def lenAll : List Str → Nat
  | [] => 0
  | x :: xs => x.length + lenAll xs
/-- what has the method -/
inductive Rk where | l | d | s deriving DecidableEq
def Bm.rk : Bm → Rk
  | .split | .join => .s
  | .get | .dpop => .d
  | _ => .l
def bmK (f : Bm) (x : D) (h : Hs) : Bool := match x with
  | .str _ => f.rk == .s
  | .ref n => match h[n]? with
    | some (.lst _) => f.rk == .l
    | some (.frz _) => f.rk == .l
    | some (.dic _ _) => f.rk == .d
    | none => false
  | _ => false
def bmD {α : Type} (f : Bm) (x : D) (g : Hs → R α) (h : Hs) : R α := if bmK f x h then g h else .bad
def Bm.run : Bm → D → List D → Hs → R D
  | .append, .ref n, [d], h => match h[n]? with
    | some (.lst xs) => if xs.length < SZ then .ok .non (h.set n (.lst (xs ++ [d]))) else .bad
    | _ => .bad
  | .extend, .ref n, [.ref m], h => match h[n]?, h[m]? with
    | some (.lst xs), some (.lst ys) => if xs.length + ys.length ≤ SZ then .ok .non (h.set n (.lst (xs ++ ys))) else .bad
    | _, _ => .bad
  | .insert, .ref n, [.int i, d], h => match h[n]? with
    | some (.lst xs) => if 0 ≤ i ∧ i ≤ xs.length ∧ xs.length < SZ then .ok .non (h.set n (.lst (xs.take i.toNat ++ d :: xs.drop i.toNat))) else .bad
    | _ => .bad
  | .pop, .ref n, [], h => match h[n]? with
    | some (.lst xs) => match xs[xs.length - 1]? with
      | some d => .ok d (h.set n (.lst xs.dropLast))
      | none => .bad
    | _ => .bad
  | .popAt, .ref n, [.int i], h => match h[n]? with
    | some (.lst (x :: r)) => if i = 0 then .ok x (h.set n (.lst r)) else .bad
    | _ => .bad
  | .clear, .ref n, [], h => match h[n]? with
    | some (.lst _) => .ok .non (h.set n (.lst []))
    | _ => .bad
  | .count, .ref n, [d], h => match rdN h 7 n, rsv h d with
    | some (.lv ys), some x => if ddeps ys ≤ 62 ∧ ddep x ≤ 62 then .ok (.int (ys.countP (fun y => deq y x) : Nat)) h else .bad
    | _, _ => .bad
  | .index, .ref n, [d], h => match rdN h 7 n, rsv h d with
    | some (.lv ys), some x => if ddeps ys ≤ 62 ∧ ddep x ≤ 62 then opt (ys.findIdx? fun y => deq y x) (fun n => .int n) h else .bad
    | _, _ => .bad
  | .split, .str x, [.str y], h => if y.length ≠ 0 ∧ x.length + 2 ≤ SZ ∧ (PySem.Txt.split x y).all PySem.PyData.strOk = true then .ok (.ref h.length) (h ++ [.lst ((PySem.Txt.split x y).map .str)]) else .bad
  | .join, .str sep, [d], h => match (itemsOf h d).bind strsL with
    | some l => if (l.map (·.length)).sum + l.length * sep.length ≤ 16777216 ∧ PySem.PyData.strOk (PySem.Txt.join sep l) = true then .ok (.str (PySem.Txt.join sep l)) h else .bad
    | none => .bad
  | .get, .ref n, [k, d], h => match h[n]? with
    | some (.dic t kvs) => if kOk t k then .ok ((dlook k kvs).getD d) h else .bad
    | _ => .bad
  | .dpop, .ref n, [k], h => match h[n]? with
    | some (.dic false kvs) => if kOk false k then (match dlook k kvs with
      | some v => .ok v (h.set n (.dic false (ddel k kvs)))
      | none => .bad) else .bad
    | _ => .bad
  | _, _, _, _ => .bad

/-! ### classes -/
def Cn.up : Cn → Option Cn
  | .SayError | .Saying | .Desk => none
  | .NoText | .NoRows | .NoLine | .NoCall | .NoName | .NoNumber | .TooMany | .NoPoint | .NoLetter | .NoCut => some .SayError
  | .Never | .Always | .Letter | .Not | .Fold => some .Saying
  | .More | .Less | .Greater | .Lesser | .Leads => some .Fold
def Cn.isExc : Cn → Bool
  | .SayError | .NoText | .NoRows | .NoLine | .NoCall | .NoName | .NoNumber | .TooMany | .NoPoint | .NoLetter | .NoCut => true
  | _ => false
/-- c is d or below it -/
def Cn.under (c d : Cn) : Bool := c == d || match c.up with
  | some e => e == d || (match e.up with
    | some f => f == d
    | none => false)
  | none => false
/-- the fields, in the order in which they are given -/
def Cn.flds : Cn → List String
  | .NoText | .NoRows => ["at"]
  | .NoLine => ["word", "at"]
  | .NoCall => ["line"]
  | .NoName => ["name"]
  | .Letter => ["name"]
  | .Not => ["part"]
  | .More | .Less | .Greater | .Lesser | .Leads => ["one", "other"]
  | .Desk => ["kept"]
  | _ => []
def fldOf : List String → List D → String → Option D
  | f :: fs, d :: ds, g => if f = g then some d else fldOf fs ds g
  | _, _, _ => none
/-- exception classes that are made of one text (no own __init__) -/
def Cn.plainExc : Cn → Bool
  | .NoNumber | .TooMany | .NoPoint | .NoLetter | .NoCut | .SayError => true
  | _ => false
/-- is d of the type t -/
def isTy (h : Hs) (d : D) (t : Ty) : Option Bool := match d with
  | .non => some false
  | .bl _ => some (t == .tint || t == .tbool)
  | .int _ => some (t == .tint)
  | .str _ => some (t == .tstr)
  | .tup _ => some (t == .ttuple)
  | .obj c _ => some (match t with
    | .own e => c.under e
    | .tval => c.isExc
    | _ => false)
  | .ref n => match h[n]? with
    | some (.lst _) => some (t == .tlist)
    | some (.frz _) => some (t == .tlist)
    | some (.dic _ _) => some false
    | none => none
  | .lv _ => none
def isTys (h : Hs) (d : D) : List Ty → Option Bool
  | [] => some false
  | t :: ts => match isTy h d t, isTys h d ts with
    | some a, some b => some (a || b)
    | _, _ => none

/-! ### the interpreter -/
/-- a for's target -/
def asg : Tg → D → Ev → Option Ev
  | .one i, d, s => some (s.set i (some d))
  | .many is, .tup ds, s => if is.length = ds.length then some ((is.zip ds).foldl (fun s p => s.set p.1 (some p.2)) s) else none
  | _, _, _ => none
def wipe (s : Ev) : List Nat → Ev
  | [] => s
  | v :: vs => (wipe s vs).set v none
/-- what a for walks: its things, and what must stay true meanwhile -/
structure Walk where
  items : List D
  ok : Hs → Prop
def rangeL (lo : Int) : Nat → List D
  | 0 => []
  | n + 1 => .int lo :: rangeL (lo + 1) n
def rangeC (lo c : Int) : Nat → List D
  | 0 => []
  | n + 1 => .int lo :: rangeC (lo + c) c n
def walkSq (h : Hs) : D → Option Walk
  | .tup xs => some ⟨xs, fun _ => True⟩
  | .ref n => match h[n]? with
    | some (.lst xs) => some ⟨xs, fun h => h[n]? = some (.lst xs)⟩
    | some (.frz xs) => some ⟨xs, fun h => h[n]? = some (.frz xs)⟩
    | _ => none
  | _ => none
def enumL : Nat → List D → List D
  | _, [] => []
  | n, x :: xs => .tup [.int n, x] :: enumL (n + 1) xs
def zipL : List D → List D → List D
  | x :: xs, y :: ys => .tup [x, y] :: zipL xs ys
  | _, _ => []
open Classical in
/-- a for's turns -/
noncomputable def forL (ok : Hs → Prop) (g : D → Ev → Hs → SR) : List D → Ev → Hs → SR
  | [], s, h => if ok h then .nx s h else .bad
  | d :: ds, s, h => if ok h then (match g d s h with
    | .nx s h => forL ok g ds s h
    | .ct s h => forL ok g ds s h
    | .bk s h => .nx s h
    | r => r) else .bad
open Classical in
/-- a comprehension's turns: the element, or nothing -/
noncomputable def compL (ok : Hs → Prop) (g : D → Hs → R (Option D)) : List D → Hs → R (List D)
  | [], h => if ok h then .ok [] h else .bad
  | d :: ds, h => if ok h then (match g d h with
    | .ok r h => (match compL ok g ds h with
      | .ok l h => .ok (match r with
        | some x => x :: l
        | none => l) h
      | _ => .bad)
    | _ => .bad) else .bad
/-- a while, n turns at most -/
def whI (c : Ev → Hs → R Bool) (b : Ev → Hs → SR) : Nat → Ev → Hs → Option SR
  | 0, _, _ => none
  | n + 1, s, h => match c s h with
    | .ok true h => (match b s h with
      | .nx s h => whI c b n s h
      | .ct s h => whI c b n s h
      | .bk s h => some (.nx s h)
      | r => some r)
    | .ok false h => some (.nx s h)
    | .exc e fs h => some (.exc e fs s h)
    | .bad => some .bad
open Classical in
noncomputable def whU (c : Ev → Hs → R Bool) (b : Ev → Hs → SR) (s : Ev) (h : Hs) : SR :=
  if H : ∃ n r, whI c b n s h = some r then H.choose_spec.choose else .bad
theorem whI_mono {c : Ev → Hs → R Bool} {b : Ev → Hs → SR} : ∀ {n m : Nat} {s : Ev} {h : Hs} {r : SR}, whI c b n s h = some r → n ≤ m → whI c b m s h = some r
  | 0, _, _, _, _, e, _ => by cases e
  | n + 1, 0, _, _, _, _, l => by omega
  | n + 1, m + 1, s, h, r, e, l => by
    unfold whI at e ⊢
    cases hc : c s h with
    | ok t h1 =>
      rw [hc] at e
      cases t with
      | true =>
        simp only at e ⊢
        cases hb : b s h1 with
        | nx s2 h2 => rw [hb] at e; exact whI_mono (n := n) e (by omega)
        | ct s2 h2 => rw [hb] at e; exact whI_mono (n := n) e (by omega)
        | bk s2 h2 => rw [hb] at e; exact e
        | rt d h2 => rw [hb] at e; exact e
        | exc c2 fs s2 h2 => rw [hb] at e; exact e
        | bad => rw [hb] at e; exact e
      | false => exact e
    | exc c2 fs h2 => rw [hc] at e; exact e
    | bad => rw [hc] at e; exact e
theorem whI_same {c : Ev → Hs → R Bool} {b : Ev → Hs → SR} {n m : Nat} {s : Ev} {h : Hs} {r q : SR} (e : whI c b n s h = some r) (f : whI c b m s h = some q) : r = q := by
  have e' := whI_mono e (Nat.le_max_left n m)
  have f' := whI_mono f (Nat.le_max_right n m)
  rw [e'] at f'
  exact Option.some.inj f'
theorem whU_of {c : Ev → Hs → R Bool} {b : Ev → Hs → SR} {n : Nat} {s : Ev} {h : Hs} {r : SR} (e : whI c b n s h = some r) : whU c b s h = r := by
  unfold whU
  have H : ∃ n r, whI c b n s h = some r := ⟨n, r, e⟩
  rw [dif_pos H]
  exact whI_same H.choose_spec.choose_spec e
/-- a while, one turn told -/
theorem whU_eq (c : Ev → Hs → R Bool) (b : Ev → Hs → SR) (s : Ev) (h : Hs) : whU c b s h = match c s h with
    | .ok true h => (match b s h with
      | .nx s h => whU c b s h
      | .ct s h => whU c b s h
      | .bk s h => .nx s h
      | r => r)
    | .ok false h => .nx s h
    | .exc e fs h => .exc e fs s h
    | .bad => .bad := by
  have one : ∀ {r}, whI c b 1 s h = some r → whU c b s h = r := fun e => whU_of e
  have inner : ∀ {h1 s2 h2}, c s h = .ok true h1 → (b s h1 = .nx s2 h2 ∨ b s h1 = .ct s2 h2) → whU c b s h = whU c b s2 h2 := by
    intro h1 s2 h2 e1 e2
    by_cases H : ∃ n r, whI c b n s2 h2 = some r
    · obtain ⟨n, r, e⟩ := H
      rw [whU_of e]
      refine whU_of (n := n + 1) ?_
      unfold whI
      rw [e1]
      rcases e2 with e2 | e2 <;> simp only [e2] <;> exact e
    · have H2 : ¬ ∃ n r, whI c b n s h = some r := by
        rintro ⟨n, r, e⟩
        cases n with
        | zero => cases e
        | succ n =>
          unfold whI at e
          rw [e1] at e
          rcases e2 with e2 | e2 <;> simp only [e2] at e <;> exact H ⟨n, r, e⟩
      unfold whU
      rw [dif_neg H, dif_neg H2]
  cases hc : c s h with
  | ok t h1 =>
    cases t with
    | true =>
      simp only
      cases hb : b s h1 with
      | nx s2 h2 => exact inner hc (.inl hb)
      | ct s2 h2 => exact inner hc (.inr hb)
      | bk s2 h2 => exact one (by unfold whI; rw [hc]; simp only [hb])
      | rt d h2 => exact one (by unfold whI; rw [hc]; simp only [hb])
      | exc c2 fs s2 h2 => exact one (by unfold whI; rw [hc]; simp only [hb])
      | bad => exact one (by unfold whI; rw [hc]; simp only [hb])
    | false => exact one (by unfold whI; rw [hc])
  | exc c2 fs h2 => exact one (by unfold whI; rw [hc])
  | bad => exact one (by unfold whI; rw [hc])

/-- where a text is run: the program, what a call does -/
structure Cl where
  T : Tab
  call : String → List D → Hs → R D
def optI : D → Hs → R (Option Int)
  | .int i, h => .ok (some i) h
  | _, _ => .bad
def walkOf (r : Option Walk) (h : Hs) : R Walk := match r with
  | some w => .ok w h
  | none => .bad
def small (i : Int) : Prop := -(2 ^ 62) ≤ i ∧ i < 2 ^ 62
instance (i : Int) : Decidable (small i) := inferInstanceAs (Decidable (_ ∧ _))
def rng1 : D → Hs → R Walk
  | .int j, h => if small j then .ok ⟨rangeL 0 j.toNat, fun _ => True⟩ h else .bad
  | _, _ => .bad
def rng2 : D → D → Hs → R Walk
  | .int i, .int j, h => if small i ∧ small j then .ok ⟨rangeL i (j - i).toNat, fun _ => True⟩ h else .bad
  | _, _, _ => .bad
def rng3 : D → D → D → Hs → R Walk
  | .int i, .int j, .int c, h => if small i ∧ small j ∧ 0 < c ∧ c < 1000 then .ok ⟨rangeC i c ((j - i + c - 1) / c).toNat, fun _ => True⟩ h else .bad
  | _, _, _, _ => .bad
def enumOf (h : Hs) (d : D) : Option Walk := match d with
  | .ref n => (walkSq h (.ref n)).map fun w => ⟨enumL 0 w.items, w.ok⟩
  | .tup xs => some ⟨enumL 0 xs, fun _ => True⟩
  | _ => none
def zipOf (h : Hs) (a b : D) : Option Walk := match a, b with
  | .ref n, .ref m => (match walkSq h (.ref n), walkSq h (.ref m) with
    | some w, some u => some ⟨zipL w.items u.items, fun h => w.ok h ∧ u.ok h⟩
    | _, _ => none)
  | .tup xs, .tup ys => some ⟨zipL xs ys, fun _ => True⟩
  | _, _ => none
def itemsDic (h : Hs) : D → Option Walk
  | .ref n => match h[n]? with
    | some (.dic t kvs) => some ⟨kvs.map fun p => .tup [p.1, p.2], fun h => h[n]? = some (.dic t kvs)⟩
    | _ => none
  | _ => none
/-- a new thing of a class -/
def mkO (c : Cn) (ds : List D) (h : Hs) : R D := match c, ds with
  | .Desk, [] => .ok (.obj .Desk [.ref h.length]) (h ++ [.dic false []])
  | .Desk, _ => .bad
  | c, ds => if ds.length = c.flds.length ∧ c.isExc = false then .ok (.obj c ds) h else .bad
def fldD (f : String) (d : D) (h : Hs) : R D := match d with
  | .obj c ds => opt (fldOf c.flds ds f) id h
  | _ => .bad
def mthD {α : Type} (C : Cl) (m : String) (d : D) (g : String → Hs → R α) (h : Hs) : R α := match d with
  | .obj c _ => (match C.T.meth c m with
    | some f => g f h
    | none => .bad)
  | _ => .bad
def isN : D → Bool
  | .non => true
  | _ => false
def isBl (b : Bool) : D → Bool
  | .bl c => b == c
  | _ => false
def gget (C : Cl) (x : String) (d : D) (h : Hs) : R D := match C.T.dic x, d with
  | some kvs, .str z => opt (kvs.lookup z) id h
  | _, _ => .bad
def gin (C : Cl) (x : String) (neg : Bool) (d : D) (h : Hs) : R D := match C.T.dic x, d with
  | some kvs, .str z => .ok (.bl ((kvs.lookup z).isSome != neg)) h
  | _, _ => .bad
def newDic : List D → Option (List (D × D))
  | [] => some []
  | k :: v :: r => (newDic r).map fun l => (k, v) :: l
  | _ => none
/-- pairs put one behind another -/
def putAll : List (D × D) → List (D × D) → List (D × D)
  | [], acc => acc
  | (k, v) :: r, acc => putAll r (dput k v acc)
def mkDic (t : Bool) (ds : List D) (h : Hs) : R D := match newDic ds with
  | some kvs => if (kvs.map (·.1)).all (fun k => !t && kOk false k) then .ok (.ref h.length) (h ++ [.dic t (putAll kvs [])]) else .bad
  | none => .bad
def partS : D → Option Str
  | .str x => some x
  | .int i => if strB i then some (toStr i) else none
  | _ => none
def partsS : List D → Option (List Str)
  | [] => some []
  | d :: ds => match partS d, partsS ds with
    | some x, some xs => some (x :: xs)
    | _, _ => none
def catS : List Str → Str
  | [] => S ""
  | x :: xs => x ++ catS xs
/-- a value's truth -/
def truR (x : D) (h : Hs) : R Bool := match tru h x with
  | some c => .ok c h
  | none => .bad
/-- one turn of a comprehension -/
def compG (tg : Tg) (own : List Nat) (c : Ev → Hs → R Bool) (e : Ev → Hs → R D) (s : Ev) (d : D) (h : Hs) : R (Option D) := match asg tg d (wipe s own) with
  | some s2 => (match c s2 h with
    | .ok true h => (match e s2 h with
      | .ok x h => .ok (some x) h
      | _ => .bad)
    | .ok false h => .ok none h
    | _ => .bad)
  | none => .bad
noncomputable def compE (w : Walk) (g : D → Hs → R (Option D)) (h : Hs) : R D := match compL w.ok g w.items h with
  | .ok l h => if w.items.length ≤ SZ then .ok (.ref h.length) (h ++ [.lst l]) else .bad
  | _ => .bad
def negD (x : D) (h : Hs) : R D := match x with
  | .int i => .ok (.int (-i)) h
  | _ => .bad
/-- the second comparison of a chain -/
def chnD (t : D) (f : Hs → R D) (h : Hs) : R D := match t with
  | .bl true => f h
  | .bl false => .ok (.bl false) h
  | _ => .bad
def andD (x : D) (f : Hs → R D) (h : Hs) : R D := match x with
  | .bl true => f h
  | .bl false => .ok (.bl false) h
  | _ => .bad
def orD (x : D) (f : Hs → R D) (h : Hs) : R D := match x with
  | .bl true => .ok (.bl true) h
  | .bl false => f h
  | _ => .bad
def orvD (x : D) (f : Hs → R D) (h : Hs) : R D := match tru h x with
  | some true => .ok x h
  | some false => f h
  | none => .bad
def iteD (x : D) (f g : Hs → R D) (h : Hs) : R D := match tru h x with
  | some true => f h
  | some false => g h
  | none => .bad
def jstD (ds : List D) (h : Hs) : R D := match partsS ds with
  | some l => if lenAll l ≤ SZ then .ok (.str (catS l)) h else .bad
  | none => .bad
def getV (s : Ev) (i : Nat) (h : Hs) : R D := match s[i]? with
  | some (some d) => .ok d h
  | _ => .bad
mutual
noncomputable def evE (C : Cl) : Ex → Ev → Hs → R D
  | .v i, s, h => getV s i h
  | .k d, _, h => .ok d h
  | .g x, _, h => opt (C.T.con x) id h
  | .tup es, s, h => (evs C es s h).bind fun ds h => .ok (.tup ds) h
  | .lst es, s, h => (evs C es s h).bind fun ds h => .ok (.ref h.length) (h ++ [.lst ds])
  | .dic t es, s, h => (evs C es s h).bind fun ds h => mkDic t ds h
  | .bin o a b, s, h => (evE C a s h).bind fun x h => (evE C b s h).bind fun y h => o.run x y h
  | .neg a, s, h => (evE C a s h).bind fun x h => negD x h
  | .cmp o a b, s, h => (evE C a s h).bind fun x h => (evE C b s h).bind fun y h => o.run x y h
  | .chn o p a b c, s, h => (evE C a s h).bind fun x h => (evE C b s h).bind fun y h => (o.run x y h).bind fun t h => chnD t (fun h => (evE C c s h).bind fun z h => p.run y z h) h
  | .isn a n, s, h => (evE C a s h).bind fun x h => .ok (.bl (isN x != n)) h
  | .ist a b n, s, h => (evE C a s h).bind fun x h => .ok (.bl (isBl b x != n)) h
  | .not a, s, h => (evE C a s h).bind fun x h => opt (tru h x) (fun c => .bl (!c)) h
  | .and es, s, h => evAnd C es s h
  | .or es, s, h => evOr C es s h
  | .orv a b, s, h => (evE C a s h).bind fun x h => orvD x (fun h => evE C b s h) h
  | .ite c a b, s, h => (evE C c s h).bind fun x h => iteD x (fun h => evE C a s h) (fun h => evE C b s h) h
  | .sub a i, s, h => (evE C a s h).bind fun x h => (evE C i s h).bind fun y h => getI x y h
  | .slc a lo hi, s, h => (evE C a s h).bind fun x h => (evO C lo s h).bind fun l h => (evO C hi s h).bind fun u h => slice x l u h
  | .fld a f, s, h => (evE C a s h).bind fun x h => fldD f x h
  | .call f es, s, h => (evs C es s h).bind fun ds h => C.call f ds h
  | .mk c es, s, h => (evs C es s h).bind fun ds h => mkO c ds h
  | .mth a m es, s, h => (evE C a s h).bind fun x h => mthD C m x (fun f h => (evs C es s h).bind fun ds h => C.call f (x :: ds) h) h
  | .b f es, s, h => (evs C es s h).bind fun ds h => f.run ds h
  | .bm m a es, s, h => (evE C a s h).bind fun x h => bmD m x (fun h => (evs C es s h).bind fun ds h => m.run x ds h) h
  | .isi a ts, s, h => (evE C a s h).bind fun x h => opt (isTys h x ts) D.bl h
  | .gget x a, s, h => (evE C a s h).bind fun d h => gget C x d h
  | .gin a x n, s, h => (evE C a s h).bind fun d h => gin C x n d h
  | .comp e tg it c own, s, h => (walk C it s h).bind fun w h => compE w (compG tg own (fun s h => evC C c s h) (fun s h => evE C e s h) s) h
  | .jst es, s, h => (evs C es s h).bind fun ds h => jstD ds h
noncomputable def evs (C : Cl) : Exs → Ev → Hs → R (List D)
  | .nil, _, h => .ok [] h
  | .cons e es, s, h => (evE C e s h).bind fun d h => (evs C es s h).bind fun ds h => .ok (d :: ds) h
noncomputable def evAnd (C : Cl) : Exs → Ev → Hs → R D
  | .nil, _, _ => .bad
  | .cons e .nil, s, h => evE C e s h
  | .cons e es, s, h => (evE C e s h).bind fun x h => andD x (fun h => evAnd C es s h) h
noncomputable def evOr (C : Cl) : Exs → Ev → Hs → R D
  | .nil, _, _ => .bad
  | .cons e .nil, s, h => evE C e s h
  | .cons e es, s, h => (evE C e s h).bind fun x h => orD x (fun h => evOr C es s h) h
noncomputable def evC (C : Cl) : Eo → Ev → Hs → R Bool
  | .none, _, h => .ok true h
  | .some e, s, h => (evE C e s h).bind fun x h => truR x h
noncomputable def evO (C : Cl) : Eo → Ev → Hs → R (Option Int)
  | .none, _, h => .ok none h
  | .some e, s, h => (evE C e s h).bind fun d h => optI d h
noncomputable def walk (C : Cl) : It → Ev → Hs → R Walk
  | .sq e, s, h => (evE C e s h).bind fun d h => walkOf (walkSq h d) h
  | .r1 a, s, h => (evE C a s h).bind fun x h => rng1 x h
  | .r2 a b, s, h => (evE C a s h).bind fun x h => (evE C b s h).bind fun y h => rng2 x y h
  | .r3 a b c, s, h => (evE C a s h).bind fun x h => (evE C b s h).bind fun y h => (evE C c s h).bind fun z h => rng3 x y z h
  | .enum e, s, h => (evE C e s h).bind fun d h => walkOf (enumOf h d) h
  | .zip a b, s, h => (evE C a s h).bind fun x h => (evE C b s h).bind fun y h => walkOf (zipOf h x y) h
  | .items e, s, h => (evE C e s h).bind fun d h => walkOf (itemsDic h d) h
end
/-- an expression within a statement -/
@[reducible] def R.st {α : Type} (r : R α) (s : Ev) (f : α → Hs → SR) : SR := match r with
  | .ok a h => f a h
  | .exc c fs h => .exc c fs s h
  | .bad => .bad
@[simp] theorem R.st_ok {α : Type} (a : α) (h : Hs) (s : Ev) (f : α → Hs → SR) : R.st (.ok a h) s f = f a h := rfl
@[simp] theorem R.st_exc {α : Type} (c : Cn) (fs : List D) (h : Hs) (s : Ev) (f : α → Hs → SR) : R.st (.exc c fs h) s f = .exc c fs s h := rfl
@[simp] theorem R.st_bad {α : Type} (s : Ev) (f : α → Hs → SR) : R.st (.bad : R α) s f = .bad := rfl
/-- a test -/
noncomputable def evT (C : Cl) (e : Ex) (s : Ev) (h : Hs) : R Bool := (evE C e s h).bind fun x h => truR x h
/-- what is unpacked -/
def unp (n : Nat) (d : D) (h : Hs) : Option (List D) := match itemsOf h d with
  | some ds => if ds.length = n then some ds else none
  | none => none
def setAll (s : Ev) : List Nat → List D → Ev
  | i :: is, d :: ds => setAll (s.set i (some d)) is ds
  | _, _ => s
/-- what is raised -/
def excO (c : Cn) (ds : List D) : Option (List D) := if c.plainExc then (match ds with
  | [.str _] => some []
  | _ => none) else if c.isExc ∧ ds.length = c.flds.length then some ds else none
def setTR (is : List Nat) (d : D) (s : Ev) (h : Hs) : SR := match unp is.length d h with
  | some ds => .nx (setAll s is ds) h
  | none => .bad
def setIR (x y d : D) (s : Ev) (h : Hs) : SR := match setI x y d h with
  | some h => .nx s h
  | none => .bad
def forG (tg : Tg) (b : Ev → Hs → SR) (d : D) (s : Ev) (h : Hs) : SR := match asg tg d s with
  | some s => b s h
  | none => .bad
def raiseR (c : Cn) (ds : List D) (s : Ev) (h : Hs) : SR := match excO c ds with
  | some fs => .exc c fs s h
  | none => .bad
@[reducible] def SR.then (r : SR) (f : Ev → Hs → SR) : SR := match r with
  | .nx s h => f s h
  | .rt d h => .rt d h
  | .bk s h => .bk s h
  | .ct s h => .ct s h
  | .exc c fs s h => .exc c fs s h
  | .bad => .bad
@[reducible] def SR.caught (r : SR) (f : Cn → List D → Ev → Hs → SR) : SR := match r with
  | .exc c fs s h => f c fs s h
  | .nx s h => .nx s h
  | .rt d h => .rt d h
  | .bk s h => .bk s h
  | .ct s h => .ct s h
  | .bad => .bad
/-- an except's suite; i: the name's place -/
def suite (i : Option Nat) (c : Cn) (fs : List D) (s : Ev) (b : Ev → Hs → SR) (h : Hs) : SR := match i with
  | some i => (match b (s.set i (some (.obj c fs))) h with
    | .nx s h => .nx (s.set i none) h
    | .rt d h => .rt d h
    | _ => .bad)
  | none => (match b s h with
    | .nx s h => .nx s h
    | .rt d h => .rt d h
    | _ => .bad)
mutual
noncomputable def exS (C : Cl) : Sm → Ev → Hs → SR
  | .pass, s, h => .nx s h
  | .set i e, s, h => (evE C e s h).st s fun d h => .nx (s.set i (some d)) h
  | .setT is e, s, h => (evE C e s h).st s fun d h => setTR is d s h
  | .par i j a b, s, h => (evE C a s h).st s fun x h => (evE C b s h).st s fun y h => .nx ((s.set i (some x)).set j (some y)) h
  | .setI o i e, s, h => (evE C e s h).st s fun d h => (evE C o s h).st s fun x h => (evE C i s h).st s fun y h => setIR x y d s h
  | .ex e, s, h => (evE C e s h).st s fun _ h => .nx s h
  | .ret e, s, h => (evE C e s h).st s fun d h => .rt d h
  | .retN, _, h => .rt .non h
  | .ite c a b, s, h => (evT C c s h).st s fun t h => if t then exB C a s h else exB C b s h
  | .whl c a, s, h => whU (fun s h => evT C c s h) (fun s h => exB C a s h) s h
  | .for tg it a, s, h => (walk C it s h).st s fun w h => forL w.ok (forG tg (fun s h => exB C a s h)) w.items s h
  | .brk, s, h => .bk s h
  | .cnt, s, h => .ct s h
  | .raise c es, s, h => (evs C es s h).st s fun ds h => raiseR c ds s h
  | .try a hs, s, h => (exB C a s h).caught fun c fs s h => exH C hs c fs s h
noncomputable def exB (C : Cl) : Bl → Ev → Hs → SR
  | .nil, s, h => .nx s h
  | .cons x r, s, h => (exS C x s h).then fun s h => exB C r s h
noncomputable def exH (C : Cl) : Hds → Cn → List D → Ev → Hs → SR
  | .nil, c, fs, s, h => .exc c fs s h
  | .cons d i b r, c, fs, s, h => if c.under d then suite i c fs s (fun s h => exB C b s h) h else exH C r c fs s h
end
/-- a def's end -/
def SR.fin : SR → R D
  | .nx _ h => .ok .non h
  | .rt d h => .ok d h
  | .exc c fs _ h => .exc c fs h
  | _ => .bad
def start (n : Nat) (ds : List D) : Ev := ds.map some ++ List.replicate (n - ds.length) none
/-- a call, k calls deep at most -/
noncomputable def call (T : Tab) : Nat → String → List D → Hs → R D
  | 0, _, _, _ => .bad
  | k + 1, f, ds, h => match T.fn f with
    | some g => if ds.length = g.np then (exB ⟨T, call T k⟩ g.body (start g.ns ds) h).fin else .bad
    | none => .bad
end Q

/-! how my values and my heap stand for those of the layer -/
namespace Q
open PySem PySem.Spec PyProof.Rows L2

/-- the static world: the written part, the classes -/
structure Wd where
  K : PySem.W.Frag
  C : Cn → Addr
  has : Cn → Bool

/-- an exception that was caught: kept by the layer's heap -/
def exT (a C : Addr) (d : Option Addr) : HO := .ext fun h => ∃ oe vs, h.get? a = some oe ∧ oe.cls = .ref C ∧ oe.dict = d ∧ oe.data = .fields vs

/-- values as rows are -/
def rowV : List V → Bool
  | [.str _] => true
  | [.str _, .int _] => true
  | [.str _, .int _, .int _] => true
  | _ => false
/-- a tuple made as the program runs; or one of the program's own, which is never as rows are -/
def TupAt (W : Wd) (r : List Addr) (H : Hp) (a : Addr) (vs : List V) : Prop :=
  (H a = some (.tup vs) ∧ a ∉ r) ∨ ((∃ (o : Obj) (its : Array Value) (n : Nat), W.K.lookup a = some o ∧ o.cls = .type "tuple" ∧ o.data = .seq its n ∧ its.size ≤ sizeLine ∧ Vals vs its.toList) ∧ rowV vs = false)
theorem TupAt.sq {W : Wd} {r : List Addr} {H : Hp} {a : Addr} {vs : List V} (h : TupAt W r H a vs) : SqT W.K H a vs := by
  rcases h with h | h
  · exact .inl (.inl h.1)
  · exact .inr h.1
/-- a field's name -/
def fN (f : String) : Str := Str.ofString f
/-- the attributes of a thing, as they were put -/
def zipF : List String → List V → List (Str × V)
  | f :: fs, v :: vs => (fN f, v) :: zipF fs vs
  | _, _ => []
def LkAll : List String → List V → List (Str × V) → Prop
  | f :: fs, v :: vs, l => l.lookup (fN f) = some v ∧ LkAll fs vs l
  | _, _, _ => True

mutual
inductive Rv (W : Wd) (r : List Addr) (H : Hp) : D → V → Prop where
  | non : Rv W r H .non .non
  | bl (b : Bool) : Rv W r H (.bl b) (.bl b)
  | int (i : Int) : Rv W r H (.int i) (.int i)
  | str (x : Str) (k : PyData.strOk x = true) : Rv W r H (.str x) (.str x)
  | tup {ds : List D} {vs : List V} {a : Addr} (h : TupAt W r H a vs) (e : Rvs W r H ds vs) : Rv W r H (.tup ds) (.ref a)
  | obj {c : Cn} {ds : List D} {vs : List V} {a dx : Addr} (pr : W.has c = true) (x : c.isExc = false) (h : H a = some (.ins (W.C c) dx (zipF c.flds vs))) (n : a ∉ r) (l : ds.length = c.flds.length) (e : Rvs W r H ds vs) : Rv W r H (.obj c ds) (.ref a)
  | exc0 {c : Cn} {a : Addr} (pr : W.has c = true) (x : c.isExc = true) (f : c.flds = []) (h : H a = some (exT a (W.C c) none)) (n : a ∉ r) : Rv W r H (.obj c []) (.ref a)
  | exc1 {c : Cn} {ds : List D} {vs : List V} {a dx : Addr} {l : List (Str × V)} (pr : W.has c = true) (x : c.isExc = true) (h : H a = some (exT a (W.C c) (some dx))) (n : a ∉ r) (hd : H dx = some (.xd l)) (nd : dx ∉ r) (e : Rvs W r H ds vs) (k : LkAll c.flds vs l)
      (ll : ds.length = c.flds.length) : Rv W r H (.obj c ds) (.ref a)
  | ref {n : Nat} {a : Addr} (h : r[n]? = some a) : Rv W r H (.ref n) (.ref a)
inductive Rvs (W : Wd) (r : List Addr) (H : Hp) : List D → List V → Prop where
  | nil : Rvs W r H [] []
  | cons {d : D} {ds : List D} {v : V} {vs : List V} (h : Rv W r H d v) (t : Rvs W r H ds vs) : Rvs W r H (d :: ds) (v :: vs)
end

/-- what goes on: further places, all else that is known stays -/
structure Ext (r : List Addr) (H : Hp) (r' : List Addr) (H' : Hp) : Prop where
  pre : ∃ e, r' = r ++ e
  keep : ∀ a o, H a = some o → a ∉ r → H' a = some o ∧ a ∉ r'
theorem Ext.refl (r : List Addr) (H : Hp) : Ext r H r H := ⟨⟨[], by simp⟩, fun a o h n => ⟨h, n⟩⟩
theorem Ext.trans {r r1 r2 : List Addr} {H H1 H2 : Hp} (a : Ext r H r1 H1) (b : Ext r1 H1 r2 H2) : Ext r H r2 H2 := by
  obtain ⟨⟨e, rfl⟩, k⟩ := a
  obtain ⟨⟨f, rfl⟩, k2⟩ := b
  exact ⟨⟨e ++ f, by simp⟩, fun c o h n => let ⟨h1, n1⟩ := k c o h n; k2 c o h1 n1⟩
theorem Ext.at {r r' : List Addr} {H H' : Hp} (x : Ext r H r' H') {n : Nat} {a : Addr} (h : r[n]? = some a) : r'[n]? = some a := by
  obtain ⟨⟨e, rfl⟩, _⟩ := x
  rw [List.getElem?_append_left (by have := List.getElem?_eq_some_iff.mp h; exact this.1)]
  exact h
theorem TupAt.mono {W : Wd} {r r' : List Addr} {H H' : Hp} {a : Addr} {vs : List V} (h : TupAt W r H a vs) (x : Ext r H r' H') : TupAt W r' H' a vs := by
  rcases h with ⟨h, n⟩ | h
  · exact .inl (x.keep a _ h n)
  · exact .inr h
mutual
theorem Rv.mono {W : Wd} {r r' : List Addr} {H H' : Hp} {d : D} {v : V} (h : Rv W r H d v) (x : Ext r H r' H') : Rv W r' H' d v := by
  cases h with
  | non => exact .non
  | bl b => exact .bl b
  | int i => exact .int i
  | str y k => exact .str y k
  | tup h e => exact .tup (h.mono x) (Rvs.mono e x)
  | obj pr xx h n l e => exact .obj pr xx (x.keep _ _ h n).1 (x.keep _ _ h n).2 l (Rvs.mono e x)
  | exc0 pr xx f h n => exact .exc0 pr xx f (x.keep _ _ h n).1 (x.keep _ _ h n).2
  | exc1 pr xx h n hd nd e k ll => exact .exc1 pr xx (x.keep _ _ h n).1 (x.keep _ _ h n).2 (x.keep _ _ hd nd).1 (x.keep _ _ hd nd).2 (Rvs.mono e x) k ll
  | ref h => exact .ref (x.at h)
theorem Rvs.mono {W : Wd} {r r' : List Addr} {H H' : Hp} {d : List D} {v : List V} (h : Rvs W r H d v) (x : Ext r H r' H') : Rvs W r' H' d v := by
  cases h with
  | nil => exact .nil
  | cons h t => exact .cons (Rv.mono h x) (Rvs.mono t x)
end
theorem Rvs.length {W : Wd} {r : List Addr} {H : Hp} : ∀ {d : List D} {v : List V}, Rvs W r H d v → v.length = d.length
  | _, _, .nil => rfl
  | _, _, .cons h t => by rw [List.length_cons, List.length_cons, Rvs.length t]
theorem Rvs.get {W : Wd} {r : List Addr} {H : Hp} : ∀ {ds : List D} {vs : List V} {i : Nat} {d : D}, Rvs W r H ds vs → ds[i]? = some d → ∃ v, vs[i]? = some v ∧ Rv W r H d v
  | _, _, _, _, .nil, e => by simp at e
  | _, _, 0, _, .cons h t, e => by
    simp at e
    subst e
    exact ⟨_, rfl, h⟩
  | _, _, i + 1, d, .cons h t, e => by
    obtain ⟨v, e1, e2⟩ := Rvs.get (i := i) (d := d) t (by simpa using e)
    exact ⟨v, by simpa using e1, e2⟩
theorem Rvs.append {W : Wd} {r : List Addr} {H : Hp} : ∀ {ds es : List D} {vs us : List V}, Rvs W r H ds vs → Rvs W r H es us → Rvs W r H (ds ++ es) (vs ++ us)
  | _, _, _, _, .nil, s => s
  | _, _, _, _, .cons h t, s => .cons h (Rvs.append t s)
theorem Rvs.set {W : Wd} {r : List Addr} {H : Hp} {d : D} {v : V} (x : Rv W r H d v) : ∀ {ds : List D} {vs : List V} (i : Nat), Rvs W r H ds vs → Rvs W r H (ds.set i d) (vs.set i v)
  | _, _, _, .nil => .nil
  | _, _, 0, .cons h t => .cons x t
  | _, _, i + 1, .cons h t => .cons h (Rvs.set x i t)
theorem Rvs.drop {W : Wd} {r : List Addr} {H : Hp} : ∀ {ds : List D} {vs : List V} (i : Nat), Rvs W r H ds vs → Rvs W r H (ds.drop i) (vs.drop i)
  | _, _, 0, h => h
  | _, _, _ + 1, .nil => .nil
  | _, _, i + 1, .cons h t => Rvs.drop i t
theorem Rvs.take {W : Wd} {r : List Addr} {H : Hp} : ∀ {ds : List D} {vs : List V} (i : Nat), Rvs W r H ds vs → Rvs W r H (ds.take i) (vs.take i)
  | _, _, 0, _ => .nil
  | _, _, _ + 1, .nil => .nil
  | _, _, i + 1, .cons h t => .cons h (Rvs.take i t)
theorem Rvs.rep {W : Wd} {r : List Addr} {H : Hp} {ds : List D} {vs : List V} (h : Rvs W r H ds vs) : ∀ n : Nat, Rvs W r H (List.replicate n ds).flatten (List.replicate n vs).flatten
  | 0 => .nil
  | n + 1 => by
    rw [List.replicate_succ, List.replicate_succ, List.flatten_cons, List.flatten_cons]
    exact h.append (Rvs.rep h n)
theorem Rvs.dropLast {W : Wd} {r : List Addr} {H : Hp} {ds : List D} {vs : List V} (h : Rvs W r H ds vs) : Rvs W r H ds.dropLast vs.dropLast := by
  rw [List.dropLast_eq_take, List.dropLast_eq_take, h.length]
  exact h.take _

/-! ### the heap -/
def keyD : Key → D
  | .inl i => .int i
  | .inr x => .str x
def OAt (W : Wd) (r : List Addr) (H : Hp) (a : Addr) : O → Prop
  | .lst ds => ∃ vs, H a = some (.lst vs) ∧ Rvs W r H ds vs
  | .frz ds => ∃ ob vs, H a = some (.frz ob (.lst vs)) ∧ Rvs W r H ds vs
  | .dic false kvs => ∃ (ks : List Key) (ds : List D) (vs : List V), H a = some (.dK (ks.zip vs)) ∧ kvs = (ks.map keyD).zip ds ∧ ks.length = ds.length ∧ (ks.Nodup ∧ ∀ x : Str, Sum.inr x ∈ ks → PyData.strOk x = true) ∧ Rvs W r H ds vs
  | .dic true kvs => ∃ (ks : List (List Key)) (ds : List D) (vs : List V), H a = some (.dT (ks.zip vs)) ∧ kvs = (ks.map fun k => D.tup (k.map keyD)).zip ds ∧ ks.length = ds.length ∧ ks.Nodup ∧ Rvs W r H ds vs
theorem OAt.there {W : Wd} {r : List Addr} {H : Hp} {a : Addr} {o : O} (h : OAt W r H a o) : ∃ u, H a = some u := by
  cases o with
  | lst ds => obtain ⟨vs, e, _⟩ := h; exact ⟨_, e⟩
  | frz ds => obtain ⟨ob, vs, e, _⟩ := h; exact ⟨_, e⟩
  | dic t kvs =>
    cases t with
    | false => obtain ⟨ks, ds, vs, e, _⟩ := h; exact ⟨_, e⟩
    | true => obtain ⟨ks, ds, vs, e, _⟩ := h; exact ⟨_, e⟩
/-- the places stand for my heap -/
structure Mt (W : Wd) (r : List Addr) (H : Hp) (hs : Hs) : Prop where
  len : r.length = hs.length
  nd : r.Nodup
  at_ : ∀ (n : Nat) (a : Addr) (o : O), r[n]? = some a → hs[n]? = some o → OAt W r H a o
theorem OAt.mono {W : Wd} {r r' : List Addr} {H H' : Hp} {a : Addr} {o : O} (h : OAt W r H a o) (x : Ext r H r' H') (e : H' a = H a) : OAt W r' H' a o := by
  cases o with
  | lst ds => obtain ⟨vs, q, k⟩ := h; exact ⟨vs, e.trans q, k.mono x⟩
  | frz ds => obtain ⟨ob, vs, q, k⟩ := h; exact ⟨ob, vs, e.trans q, k.mono x⟩
  | dic t kvs =>
    cases t with
    | false => obtain ⟨ks, ds, vs, q, k1, k2, k4, k3⟩ := h; exact ⟨ks, ds, vs, e.trans q, k1, k2, k4, k3.mono x⟩
    | true => obtain ⟨ks, ds, vs, q, k1, k2, k4, k3⟩ := h; exact ⟨ks, ds, vs, e.trans q, k1, k2, k4, k3.mono x⟩
section
variable {W : Wd} {r : List Addr} {H : Hp} {hs : Hs}
theorem Mt.get (m : Mt W r H hs) {n : Nat} {o : O} (h : hs[n]? = some o) : ∃ a, r[n]? = some a ∧ OAt W r H a o := by
  have hn := (List.getElem?_eq_some_iff.mp h).1
  rw [← m.len] at hn
  exact ⟨r[n], List.getElem?_eq_getElem hn, m.at_ n _ o (List.getElem?_eq_getElem hn) h⟩
theorem Mt.atR (m : Mt W r H hs) {n : Nat} {a : Addr} (h : r[n]? = some a) : ∃ o, hs[n]? = some o ∧ OAt W r H a o := by
  have hn := (List.getElem?_eq_some_iff.mp h).1
  rw [m.len] at hn
  exact ⟨hs[n], List.getElem?_eq_getElem hn, m.at_ n a _ h (List.getElem?_eq_getElem hn)⟩
theorem Mt.notNew (m : Mt W r H hs) {p : Addr} (h : H p = none) : p ∉ r := fun q => by
  obtain ⟨n, hn, e⟩ := List.mem_iff_getElem.mp q
  obtain ⟨o, _, t⟩ := m.atR (n := n) (a := p) (by rw [List.getElem?_eq_getElem hn, e])
  obtain ⟨u, e2⟩ := t.there
  rw [h] at e2
  cases e2
/-- a new thing that is no place of mine -/
theorem ext_new {p : Addr} (h : H p = none) (o : HO) : Ext r H r (upd H p o) := ⟨⟨[], by simp⟩, fun a u e n => ⟨by rw [upd_ne (ne_of_none e h)]; exact e, n⟩⟩
theorem Mt.new (m : Mt W r H hs) {p : Addr} (h : H p = none) (o : HO) : Mt W r (upd H p o) hs := ⟨m.len, m.nd, fun n a u h1 h2 => by
  obtain t := m.at_ n a u h1 h2
  obtain ⟨v, e⟩ := t.there
  exact t.mono (ext_new h o) (by rw [upd_ne (ne_of_none e h)])⟩
/-- a new place -/
theorem ext_push (m : Mt W r H hs) {p : Addr} (h : H p = none) (o : HO) : Ext r H (r ++ [p]) (upd H p o) := ⟨⟨[p], rfl⟩, fun a u e n => by
  have ne := ne_of_none e h
  refine ⟨by rw [upd_ne ne]; exact e, fun q => ?_⟩
  rcases List.mem_append.mp q with q | q
  · exact n q
  · exact ne (List.mem_singleton.mp q)⟩
theorem Mt.push (m : Mt W r H hs) {p : Addr} {o : HO} {u : O} (h : H p = none) (t : OAt W (r ++ [p]) (upd H p o) p u) : Mt W (r ++ [p]) (upd H p o) (hs ++ [u]) := by
  have hp := m.notNew h
  refine ⟨by simp [m.len], ?_, fun n a v h1 h2 => ?_⟩
  · rw [List.nodup_append]
    refine ⟨m.nd, by simp, fun a ha b hb e => ?_⟩
    rw [List.mem_singleton] at hb
    subst e
    rw [hb] at ha
    exact hp ha
  · by_cases hn : n < r.length
    · rw [List.getElem?_append_left hn] at h1
      rw [List.getElem?_append_left (by rw [← m.len]; exact hn)] at h2
      obtain t := m.at_ n a v h1 h2
      obtain ⟨w, e⟩ := t.there
      exact t.mono (ext_push m h o) (by rw [upd_ne (ne_of_none e h)])
    · rw [List.getElem?_append_right (by omega)] at h1
      rw [List.getElem?_append_right (by rw [← m.len]; omega)] at h2
      rw [m.len] at h1
      cases e : n - hs.length with
      | zero =>
        rw [e] at h1 h2
        simp at h1 h2
        subst h1 h2
        exact t
      | succ k =>
        rw [e] at h1
        simp at h1
/-- a place is written -/
theorem ext_set (m : Mt W r H hs) {n : Nat} {p : Addr} (h : r[n]? = some p) (o : HO) : Ext r H r (upd H p o) := ⟨⟨[], by simp⟩, fun a u e q => by
  have ne : a ≠ p := fun z => q (by rw [z]; exact List.mem_of_getElem? h)
  exact ⟨by rw [upd_ne ne]; exact e, q⟩⟩
theorem Mt.set (m : Mt W r H hs) {n : Nat} {p : Addr} {o : HO} {u : O} (h : r[n]? = some p) (t : OAt W r (upd H p o) p u) : Mt W r (upd H p o) (hs.set n u) := by
  refine ⟨by simp [m.len], m.nd, fun k a v h1 h2 => ?_⟩
  have hn := (List.getElem?_eq_some_iff.mp h).1
  by_cases hk : k = n
  · subst hk
    rw [h] at h1
    cases h1
    rw [List.getElem?_set_self (by rw [← m.len]; exact hn)] at h2
    cases h2
    exact t
  · rw [List.getElem?_set_ne (Ne.symm hk)] at h2
    have ne : a ≠ p := fun z => hk (by
      have h1' := List.getElem?_eq_some_iff.mp h1
      have h' := List.getElem?_eq_some_iff.mp h
      exact (List.getElem_inj m.nd).mp (by rw [h1'.2, h'.2, z]))
    obtain t := m.at_ k a v h1 h2
    exact t.mono (ext_set m h o) (by rw [upd_ne ne])
end

/-- the frame's values -/
def EnvR (W : Wd) (r : List Addr) (H : Hp) (s : Ev) (σ : L2.St) : Prop := s.length = σ.length ∧ ∀ (i : Nat) (d : D), s[i]? = some (some d) → ∃ v, σ[i]? = some (some v) ∧ Rv W r H d v
theorem EnvR.mono {W : Wd} {r r' : List Addr} {H H' : Hp} {s : Ev} {σ : L2.St} (h : EnvR W r H s σ) (x : Ext r H r' H') : EnvR W r' H' s σ := ⟨h.1, fun i d e => by
  obtain ⟨v, e1, e2⟩ := h.2 i d e
  exact ⟨v, e1, e2.mono x⟩⟩
theorem EnvR.set {W : Wd} {r : List Addr} {H : Hp} {s : Ev} {σ : L2.St} (h : EnvR W r H s σ) {d : D} {v : V} (x : Rv W r H d v) (i : Nat) : EnvR W r H (s.set i (some d)) (σ.set i (some v)) := by
  refine ⟨by simp [h.1], fun j e hj => ?_⟩
  by_cases hi : j = i
  · subst hi
    have hl : j < s.length := by
      by_cases hl : j < s.length
      · exact hl
      · rw [List.getElem?_eq_none (by simpa using hl)] at hj
        cases hj
    rw [List.getElem?_set_self hl] at hj
    cases hj
    exact ⟨v, by rw [List.getElem?_set_self (by rw [← h.1]; exact hl)], x⟩
  · rw [List.getElem?_set_ne (Ne.symm hi)] at hj ⊢
    exact h.2 j e hj
theorem EnvR.gone {W : Wd} {r : List Addr} {H : Hp} {s : Ev} {σ : L2.St} (h : EnvR W r H s σ) (i : Nat) : EnvR W r H (s.set i none) (σ.set i none) := by
  refine ⟨by simp [h.1], fun j e hj => ?_⟩
  by_cases hi : j = i
  · subst hi
    by_cases hl : j < s.length
    · rw [List.getElem?_set_self hl] at hj
      cases hj
    · rw [List.getElem?_eq_none (by simpa using hl)] at hj
      cases hj
  · rw [List.getElem?_set_ne (Ne.symm hi)] at hj ⊢
    exact h.2 j e hj

/-- an exception as it leaves -/
def ExR (W : Wd) (r : List Addr) (H : Hp) (c : Cn) (fs : List D) (cls : Value) (dx : Option Addr) : Prop :=
  (c.isExc = true ∧ W.has c = true) ∧ cls = .ref (W.C c) ∧ ((c.flds = [] ∧ fs = [] ∧ dx = none) ∨
    ∃ (d : Addr) (l : List (Str × V)) (vs : List V), dx = some d ∧ H d = some (.xd l) ∧ d ∉ r ∧ Rvs W r H fs vs ∧ LkAll c.flds vs l ∧ fs.length = c.flds.length)
theorem ExR.mono {W : Wd} {r r' : List Addr} {H H' : Hp} {c : Cn} {fs : List D} {cls : Value} {dx : Option Addr} (h : ExR W r H c fs cls dx) (x : Ext r H r' H') : ExR W r' H' c fs cls dx := by
  obtain ⟨h1, h2, h3⟩ := h
  refine ⟨h1, h2, ?_⟩
  rcases h3 with h3 | ⟨d, l, vs, e1, e2, e3, e4, e5, e6⟩
  · exact .inl h3
  · exact .inr ⟨d, l, vs, e1, (x.keep _ _ e2 e3).1, (x.keep _ _ e2 e3).2, e4.mono x, e5, e6⟩

/-- what is wanted behind my result -/
def Post {α β : Type} (rel : List Addr → Hp → α → β → Prop) (W : Wd) (X : WX) (σ : L2.St) (r : List Addr) (H : Hp) (res : R α) (Q : β → Hp → Prop) : Prop := match res with
  | .ok d hs' => ∀ r' H' v, Ext r H r' H' → Mt W r' H' hs' → rel r' H' d v → Q v H'
  | .exc c fs hs' => ∀ r' H' cls dx, Ext r H r' H' → Mt W r' H' hs' → ExR W r' H' c fs cls dx → X cls dx σ H'
  | .bad => False
theorem Post.mono {α β : Type} {rel : List Addr → Hp → α → β → Prop} {W : Wd} {X : WX} {σ : L2.St} {r r' : List Addr} {H H' : Hp} {res : R α} {Q Q' : β → Hp → Prop} (p : Post rel W X σ r H res Q) (x : Ext r H r' H') (hQ : ∀ v H, Q v H → Q' v H) :
    Post rel W X σ r' H' res Q' := by
  cases res with
  | ok d hs' => exact fun r2 H2 v x2 m rv => hQ _ _ (p r2 H2 v (x.trans x2) m rv)
  | exc c fs hs' => exact fun r2 H2 cls dx x2 m e => p r2 H2 cls dx (x.trans x2) m e
  | bad => exact p
/-- a reading of the layer's, from a function of mine -/
def rd {α β : Type} (rel : List Addr → Hp → α → β → Prop) (W : Wd) (X : WX) (f : Ev → Hs → R α) : L2.St → Hp → (β → Hp → Prop) → Prop :=
  fun σ H Q => ∃ r hs s, Mt W r H hs ∧ EnvR W r H s σ ∧ Post rel W X σ r H (f s hs) Q
abbrev rdE (W : Wd) (X : WX) (f : Ev → Hs → R D) : TE := rd (Rv W) W X f
abbrev rdA (W : Wd) (X : WX) (f : Ev → Hs → R (List D)) : TA := rd (Rvs W) W X f
abbrev rdT (W : Wd) (X : WX) (f : Ev → Hs → R Bool) : TT := rd (fun _ _ (a b : Bool) => a = b) W X f
/-- one thing behind another -/
theorem rd_bind {α β γ δ : Type} {rel : List Addr → Hp → α → β → Prop} {rel2 : List Addr → Hp → γ → δ → Prop} {W : Wd} {X : WX} {f : Ev → Hs → R α} {g : α → Hs → R γ} {σ : L2.St} {H : Hp} {r : List Addr} {hs : Hs} {s : Ev} {Q : δ → Hp → Prop} {K : β → Hp → Prop}
    (m : Mt W r H hs) (e : EnvR W r H s σ) (p : Post rel2 W X σ r H ((f s hs).bind g) Q)
    (k : ∀ d r1 H1 hs1 v, Ext r H r1 H1 → Mt W r1 H1 hs1 → EnvR W r1 H1 s σ → rel r1 H1 d v → f s hs = .ok d hs1 → Post rel2 W X σ r1 H1 (g d hs1) Q → K v H1) : rd rel W X f σ H K := by
  refine ⟨r, hs, s, m, e, ?_⟩
  cases q : f s hs with
  | ok d hs1 =>
    rw [q] at p
    exact fun r' H' v x m' rv => k d r' H' hs1 v x m' (e.mono x) rv q (p.mono x fun _ _ z => z)
  | exc c fs hs1 =>
    rw [q] at p
    exact p
  | bad =>
    rw [q] at p
    exact p
theorem pe_weak {X : Cx} {e : Expr} {t t' : TE} (h : PE X e t) (w : ∀ σ H Q, t' σ H Q → t σ H Q) : PE X e t' := ⟨fun pins s σ H Q I q => h.run pins s σ H Q I (w σ H Q q)⟩
theorem pt_weak {X : Cx} {e : Expr} {t t' : TT} (h : PT X e t) (w : ∀ σ H Q, t' σ H Q → t σ H Q) : PT X e t' := ⟨fun pins s σ H Q I q => h.run pins s σ H Q I (w σ H Q q)⟩
theorem pa_weak {X : Cx} {e : List Expr} {t t' : TA} (h : PA X e t) (w : ∀ σ H Q, t' σ H Q → t σ H Q) : PA X e t' := ⟨fun pos pins s σ H Q I q => h.run pos pins s σ H Q I (w σ H Q q)⟩
end Q

/-! the operations by values: mine against the layer's -/
namespace Q
open PySem PySem.Spec PyProof.Rows L2

theorem sz_eq : SZ = sizeLine := by rw [sizeLine_eq]; rfl
theorem sl_eq : sizeLine = SZ := sz_eq.symm
abbrev PD (W : Wd) (X : WX) (σ : L2.St) (r : List Addr) (H : Hp) (res : R D) (Q : VK) : Prop := Post (Rv W) W X σ r H res Q

/-! ### ends that make something -/
section
variable {W : Wd} {X : WX} {σ : L2.St} {r : List Addr} {H : Hp} {hs : Hs} {Q : VK} {d : D} {v : V}
theorem pd_ok (p : PD W X σ r H (.ok d hs) Q) (m : Mt W r H hs) (x : Rv W r H d v) : Q v H := p r H v (Ext.refl _ _) m x
/-- a tuple made -/
theorem pd_tup {ds : List D} {vs : List V} (p : PD W X σ r H (.ok (.tup ds) hs) Q) (m : Mt W r H hs) (e : Rvs W r H ds vs) : ∀ a, H a = none → Q (.ref a) (upd H a (.tup vs)) := fun a n =>
  p r _ _ (ext_new n _) (m.new n _) (.tup (.inl ⟨upd_same, m.notNew n⟩) (e.mono (ext_new n _)))
/-- a list made -/
theorem pd_lst {ds : List D} {vs : List V} (p : PD W X σ r H (.ok (.ref hs.length) (hs ++ [.lst ds])) Q) (m : Mt W r H hs) (e : Rvs W r H ds vs) : ∀ a, H a = none → Q (.ref a) (upd H a (.lst vs)) := fun a n =>
  p (r ++ [a]) _ _ (ext_push m n _) (m.push n ⟨vs, upd_same, e.mono (ext_push m n _)⟩) (.ref (by rw [← m.len]; simp))
/-- a place written -/
theorem pd_set {d' : D} {v' : V} {n : Nat} {a : Addr} {o : HO} {u : O} (p : PD W X σ r H (.ok d' (hs.set n u)) Q) (m : Mt W r H hs) (h : r[n]? = some a) (t : OAt W r (upd H a o) a u) (x : Rv W r (upd H a o) d' v') : Q v' (upd H a o) :=
  p r _ _ (ext_set m h o) (m.set h t) x
theorem set_lst {n : Nat} {a : Addr} {ds : List D} {vs : List V} (m : Mt W r H hs) (h : r[n]? = some a) (e : Rvs W r H ds vs) : OAt W r (upd H a (.lst vs)) a (.lst ds) := ⟨vs, upd_same, e.mono (ext_set m h _)⟩
/-- the list at a place -/
theorem Mt.lst (m : Mt W r H hs) {n : Nat} {a : Addr} {ds : List D} (h : r[n]? = some a) (e : hs[n]? = some (.lst ds)) : ∃ vs, H a = some (.lst vs) ∧ Rvs W r H ds vs := m.at_ n a _ h e
theorem Mt.frz (m : Mt W r H hs) {n : Nat} {a : Addr} {ds : List D} (h : r[n]? = some a) (e : hs[n]? = some (.frz ds)) : ∃ ob vs, H a = some (.frz ob (.lst vs)) ∧ Rvs W r H ds vs := m.at_ n a _ h e
end


/-! ### arithmetic -/
section
variable {X : Cx} {W : Wd} {Y : WX} {σ : L2.St} {r : List Addr} {H : Hp} {hs : Hs} {Q : VK} {d e : D} {v u : V}
abbrev RAdd (K : PySem.W.Frag) : R2 := fun x y H Q => ((rI0 (fun i j => .int (i + j)) x y H Q) ∨ (∃ i j, x = .str i ∧ y = .str j ∧ i.length + j.length ≤ sizeLine ∧ Q (.str (i ++ j)) H) ∨ rCat x y H Q) ∨ rCatA K x y H Q
theorem op_addU : OpR X (binaryOp .Add) (RAdd X.K) := (op_add.or (op_add_str.or op_cat)).or op_catA
abbrev RMul : R2 := fun x y H Q => rI (fun i j => mulB i ∧ mulB j) (fun i j => .int (i * j)) x y H Q ∨ rRep x y H Q
theorem mul_ok {i j : Int} (h1 : mulB i) (h2 : mulB j) : IntMulOk i j := by
  unfold mulB at h1 h2
  unfold IntMulOk
  intro h
  rw [Bool.and_eq_true, Bool.and_eq_true] at h
  have h3 := h.2
  unfold Builtin.Int.intTooBig at h3
  have h4 := of_decide_eq_true h3
  have h5 : bitsLine = 134217728 := rfl
  rw [h5] at h4
  unfold Builtin.Int.intBits at h4
  split at h4 <;> split at h4 <;> omega
theorem op_mulU : OpR X (binaryOp .Mult) RMul := (opI fun _ _ _ _ _ _ _ hc q => mul_int q (mul_ok hc.1 hc.2)).or op_rep
abbrev RDiv : R2 := rI (fun i j => j ≠ 0 ∧ divB j) (fun i j => .int (i.fdiv j))
theorem op_divU : OpR X (binaryOp .FloorDiv) RDiv := opI fun _ _ _ _ _ _ _ hc q => floordiv_int hc.1 q (.inl (PyProof.noPylong_of_log2 hc.2))
abbrev RMod : R2 := rI (fun _ j => j ≠ 0) (fun i j => .int (i.fmod j))
abbrev RPow : R2 := rI CPow fun i j => .int (i ^ j.toNat)
def Bop.op : Bop → Operator
  | .add => .Add
  | .sub => .Sub
  | .mul => .Mult
  | .fdiv => .FloorDiv
  | .mod => .Mod
  | .pow => .Pow
def RB (K : PySem.W.Frag) : Bop → R2
  | .add => RAdd K
  | .sub => rI0 fun i j => .int (i - j)
  | .mul => RMul
  | .fdiv => RDiv
  | .mod => RMod
  | .pow => RPow
theorem op_bin : ∀ o : Bop, OpR X (binaryOp o.op) (RB X.K o)
  | .add => op_addU
  | .sub => op_sub
  | .mul => op_mulU
  | .fdiv => op_divU
  | .mod => op_modN
  | .pow => op_pow
theorem strOk_app {x y : Str} (a : PyData.strOk x = true) (b : PyData.strOk y = true) : PyData.strOk (x ++ y) = true := by
  unfold PyData.strOk at *
  show (x.cps ++ y.cps).all _ = true
  rw [Array.all_append, a, b] <;> rfl
theorem q_add (m : Mt W r H hs) (x : Rv W r H d v) (y : Rv W r H e u) (p : PD W Y σ r H (Bop.add.run d e hs) Q) : RAdd W.K v u H Q := by
  cases d <;> cases e <;> first | exact False.elim p | skip
  case int.int i j =>
    cases x; cases y
    exact .inl (.inl ⟨_, _, rfl, rfl, pd_ok p m (.int _)⟩)
  case str.str i j =>
    cases x with | str _ k => cases y with | str _ k2 =>
    simp only [Bop.run] at p
    split at p
    · rename_i h
      exact .inl (.inr (.inl ⟨_, _, rfl, rfl, by rw [sl_eq]; exact h, pd_ok p m (.str _ (strOk_app k k2))⟩))
    · exact False.elim p
  case tup.tup i j =>
    cases x with | tup t1 e1 => cases y with | tup t2 e2 =>
    simp only [Bop.run] at p
    split at p
    · rename_i h3
      rename_i vs1 a1 vs2 a2
      refine .inr ⟨_, _, vs1, vs2, rfl, rfl, t1.sq, t2.sq, by rw [sl_eq, e1.length, e2.length]; exact h3, fun z => ?_, fun _ z => ?_, fun _ _ => pd_tup p m (e1.append e2)⟩
      · subst z
        cases e1
        exact pd_ok p m (.tup t2 e2)
      · subst z
        cases e2
        rw [List.append_nil] at p
        exact pd_ok p m (.tup t1 e1)
    · exact False.elim p
  case ref.ref i j =>
    cases x with | ref a1 => cases y with | ref a2 =>
    simp only [Bop.run] at p
    split at p
    · rename_i xs ys h1 h2
      split at p
      · rename_i h
        obtain ⟨vs, g1, e1⟩ := m.lst a1 h1
        obtain ⟨us, g2, e2⟩ := m.lst a2 h2
        exact .inl (.inr (.inr ⟨_, _, vs, us, rfl, rfl, g1, g2, by rw [sl_eq, e1.length, e2.length]; exact h, pd_lst p m (e1.append e2)⟩))
      · exact False.elim p
    · exact False.elim p
theorem q_bin (m : Mt W r H hs) (x : Rv W r H d v) (y : Rv W r H e u) : ∀ o : Bop, PD W Y σ r H (o.run d e hs) Q → RB W.K o v u H Q
  | .add, p => q_add m x y p
  | .sub, p => by
    cases d <;> cases e <;> first | exact False.elim p | skip
    cases x; cases y
    exact ⟨_, _, rfl, rfl, pd_ok p m (.int _)⟩
  | .mul, p => by
    cases d <;> cases e <;> first | exact False.elim p | skip
    case int.int i j =>
      cases x; cases y
      simp only [Bop.run] at p
      split at p
      · rename_i h
        exact .inl ⟨_, _, rfl, rfl, h, pd_ok p m (.int _)⟩
      · exact False.elim p
    case ref.int n j =>
      cases x with | ref a1 =>
      cases y
      simp only [Bop.run] at p
      split at p
      · rename_i xs h1
        split at p
        · rename_i h
          obtain ⟨vs, g1, e1⟩ := m.lst a1 h1
          exact .inr ⟨_, _, vs, rfl, rfl, g1, h.1, h.2.1, by rw [sl_eq, e1.length]; exact h.2.2, pd_lst p m (e1.rep _)⟩
        · exact False.elim p
      · exact False.elim p
  | .fdiv, p => by
    cases d <;> cases e <;> first | exact False.elim p | skip
    cases x; cases y
    simp only [Bop.run] at p
    split at p
    · rename_i h
      exact ⟨_, _, rfl, rfl, h, pd_ok p m (.int _)⟩
    · exact False.elim p
  | .mod, p => by
    cases d <;> cases e <;> first | exact False.elim p | skip
    cases x; cases y
    simp only [Bop.run] at p
    split at p
    · rename_i h
      exact ⟨_, _, rfl, rfl, h, pd_ok p m (.int _)⟩
    · exact False.elim p
  | .pow, p => by
    cases d <;> cases e <;> first | exact False.elim p | skip
    cases x; cases y
    simp only [Bop.run] at p
    split at p
    · rename_i h
      exact ⟨_, _, rfl, rfl, ⟨h.1, by omega, by omega⟩, pd_ok p m (.int _)⟩
    · exact False.elim p
end

/-! ### equality -/
mutual
def toP : D → PyData
  | .non => .none
  | .bl b => .bool b
  | .int i => .int i
  | .str x => .str x
  | .tup xs => .tuple (toPs xs)
  | .lv xs => .list (toPs xs)
  | .obj _ _ => .none
  | .ref _ => .none
def toPs : List D → List PyData
  | [] => []
  | x :: xs => toP x :: toPs xs
end
mutual
theorem deq_toP : ∀ x y : D, pur x = true → pur y = true → deq x y = PyData.eqv (toP x) (toP y)
  | .tup xs, y, h, k => by
    cases y <;> first | (simp [pur] at k; done) | simp only [toP, deq, PyData.eqv]
    exact deqs_toP xs _ h k
  | .lv xs, y, h, k => by
    cases y <;> first | (simp [pur] at k; done) | simp only [toP, deq, PyData.eqv]
    exact deqs_toP xs _ h k
  | .non, y, h, k => by cases y <;> first | (simp [pur] at k; done) | simp only [toP, deq, PyData.eqv]
  | .bl b, y, h, k => by cases y <;> first | (simp [pur] at k; done) | simp only [toP, deq, PyData.eqv, b2i]
  | .int b, y, h, k => by cases y <;> first | (simp [pur] at k; done) | simp only [toP, deq, PyData.eqv, b2i]
  | .str b, y, h, k => by cases y <;> first | (simp [pur] at k; done) | simp only [toP, deq, PyData.eqv]
  | .obj _ _, _, h, _ => by simp [pur] at h
  | .ref _, _, h, _ => by simp [pur] at h
theorem deqs_toP : ∀ xs ys : List D, purs xs = true → purs ys = true → deqs xs ys = PyData.eqvAll (toPs xs) (toPs ys)
  | [], [], _, _ => by simp only [toPs, deqs, PyData.eqvAll]
  | [], _ :: _, _, _ => by simp only [toPs, deqs, PyData.eqvAll]
  | _ :: _, [], _, _ => by simp only [toPs, deqs, PyData.eqvAll]
  | x :: xs, y :: ys, h, k => by
    simp only [purs, Bool.and_eq_true] at h k
    simp only [toPs, deqs, PyData.eqvAll]
    rw [deq_toP x y h.1 k.1, deqs_toP xs ys h.2 k.2]
end
mutual
theorem ddep_toP : ∀ x : D, (toP x).depth = ddep x
  | .tup xs => by simp only [toP, ddep, PyData.depth, ddeps_toP xs]
  | .lv xs => by simp only [toP, ddep, PyData.depth, ddeps_toP xs]
  | .non | .bl _ | .int _ | .str _ | .obj _ _ | .ref _ => by simp only [toP, ddep, PyData.depth]
theorem ddeps_toP : ∀ xs : List D, PyData.depthAll (toPs xs) = ddeps xs
  | [] => by simp only [toPs, ddeps, PyData.depthAll]
  | x :: xs => by simp only [toPs, ddeps, PyData.depthAll, ddep_toP x, ddeps_toP xs]
end
/-- a value that is read as data -/
structure Gd (K : PySem.W.Frag) (H : Hp) (v : V) (x : D) : Prop where
  dp : Dp K H v (toP x)
  can : (toP x).canLay0 = true
  pu : pur x = true
structure Gds (K : PySem.W.Frag) (H : Hp) (v : List V) (x : List D) : Prop where
  dp : DpAll K H v (toPs x)
  can : PyData.canLayAll0 (toPs x) = true
  pu : purs x = true
section
variable {W : Wd} {r : List Addr} {H : Hp} {hs : Hs}
mutual
theorem rs_gd {f : Nat → Option D} (hf : ∀ n y a, f n = some y → r[n]? = some a → Gd W.K H (.ref a) y) {d : D} {v : V} {x : D} (h : Rv W r H d v) (e : rsF f d = some x) : Gd W.K H v x := by
  cases h with
  | non => cases e; exact ⟨.non, rfl, rfl⟩
  | bl b => cases e; exact ⟨.bl b, rfl, rfl⟩
  | int i => cases e; exact ⟨.int i, rfl, rfl⟩
  | str y k => cases e; exact ⟨.str y, by simpa [toP, PyData.canLay0] using k, rfl⟩
  | @tup ds vs a h es =>
    simp only [rsF] at e
    cases q : rsFs f ds with
    | none => rw [q] at e; cases e
    | some ys =>
      rw [q] at e
      cases e
      have g := rs_gds hf es q
      exact ⟨.tup h.sq g.dp, by simpa [toP, PyData.canLay0] using g.can, g.pu⟩
  | obj => cases e
  | exc0 => cases e
  | exc1 => cases e
  | ref h => exact hf _ _ _ e h
theorem rs_gds {f : Nat → Option D} (hf : ∀ n y a, f n = some y → r[n]? = some a → Gd W.K H (.ref a) y) {d : List D} {v : List V} {x : List D} (h : Rvs W r H d v) (e : rsFs f d = some x) : Gds W.K H v x := by
  cases h with
  | nil => cases e; exact ⟨.nil, rfl, rfl⟩
  | @cons d ds v vs h t =>
    simp only [rsFs] at e
    cases q : rsF f d with
    | none => rw [q] at e; cases e
    | some y =>
      cases q2 : rsFs f ds with
      | none => rw [q, q2] at e; cases e
      | some ys =>
        rw [q, q2] at e
        cases e
        have g := rs_gd hf h q
        have g2 := rs_gds hf t q2
        exact ⟨.cons g.dp g2.dp, by simp only [toPs, PyData.canLayAll0, g.can, g2.can, Bool.and_self], by simp only [purs, g.pu, g2.pu, Bool.and_self]⟩
end
theorem rdN_gd (m : Mt W r H hs) : ∀ (k n : Nat) (y : D) (a : Addr), rdN hs k n = some y → r[n]? = some a → Gd W.K H (.ref a) y
  | 0, _, _, _, e, _ => by cases e
  | k + 1, n, y, a, e, ha => by
    unfold rdN at e
    split at e
    · rename_i xs hx
      obtain ⟨vs, h1, h2⟩ := m.lst ha hx
      cases q : rsFs (rdN hs k) xs with
      | none => rw [q] at e; cases e
      | some ys =>
        rw [q] at e
        cases e
        have g := rs_gds (rdN_gd m k) h2 q
        exact ⟨.lst (SqL.of h1) g.dp, by simpa [toP, PyData.canLay0] using g.can, g.pu⟩
    · rename_i xs hx
      obtain ⟨ob, vs, h1, h2⟩ := m.frz ha hx
      cases q : rsFs (rdN hs k) xs with
      | none => rw [q] at e; cases e
      | some ys =>
        rw [q] at e
        cases e
        have g := rs_gds (rdN_gd m k) h2 q
        exact ⟨.lst (.inl (.inr ⟨ob, h1⟩)) g.dp, by simpa [toP, PyData.canLay0] using g.can, g.pu⟩
    · cases e
theorem rsv_gd (m : Mt W r H hs) {d : D} {v : V} {x : D} (h : Rv W r H d v) (e : rsv hs d = some x) : Gd W.K H v x := rs_gd (rdN_gd m 6) h e
end
/-- == of data; neg: != -/
def REq (K : PySem.W.Frag) (neg : Bool) : R2 := fun v u H Q => ∃ x y : PyData, Dp K H v x ∧ Dp K H u y ∧ x.canLay0 = true ∧ y.canLay0 = true ∧ min x.depth y.depth ≤ 150 ∧ Q (.bl (PyData.eqv x y != neg)) H
theorem op_eqU {X : Cx} (hu : X.A.units + 151 < cLine) : OpR X (compareOp .Eq) (REq X.K false) := by
  intro pins s σ H v u a b Q I rx ry h
  obtain ⟨x, y, h1, h2, c1, c2, dd, q⟩ := h
  obtain ⟨as, r1⟩ := Dp.reads I _ _ _ h1 rx
  obtain ⟨bs, r2⟩ := Dp.reads I _ _ _ h2 ry
  exact SeqAt.compareEq_reads r1 r2 c1 c2 (by omega) ⟨.bl _, H, I, by simp [L2.RelV], q⟩
theorem op_neU {X : Cx} (hu : X.A.units + 151 < cLine) : OpR X (compareOp .NotEq) (REq X.K true) := by
  intro pins s σ H v u a b Q I rx ry h
  obtain ⟨x, y, h1, h2, c1, c2, dd, q⟩ := h
  obtain ⟨as, r1⟩ := Dp.reads I _ _ _ h1 rx
  obtain ⟨bs, r2⟩ := Dp.reads I _ _ _ h2 ry
  exact SeqAt.compareNe_reads r1 r2 c1 c2 (by omega) ⟨.bl _, H, I, by simp [L2.RelV], q⟩
theorem eqv_some {hs : Hs} {d e : D} {b : Bool} (h : eqv hs d e = some b) : ∃ x y, rsv hs d = some x ∧ rsv hs e = some y ∧ min (ddep x) (ddep y) ≤ 150 ∧ b = deq x y := by
  unfold eqv at h
  split at h
  · rename_i x y h1 h2
    split at h
    · rename_i h3
      cases h
      exact ⟨x, y, h1, h2, h3, rfl⟩
    · cases h
  · cases h
section
variable {X : Cx} {W : Wd} {Y : WX} {σ : L2.St} {r : List Addr} {H : Hp} {hs : Hs} {Q : VK} {d e : D} {v u : V}
theorem q_eq (m : Mt W r H hs) (x : Rv W r H d v) (y : Rv W r H e u) {b neg : Bool} (h : eqv hs d e = some b) (q : Q (.bl (b != neg)) H) : REq W.K neg v u H Q := by
  obtain ⟨x', y', h1, h2, h3, h4⟩ := eqv_some h
  have g1 := rsv_gd m x h1
  have g2 := rsv_gd m y h2
  refine ⟨_, _, g1.dp, g2.dp, g1.can, g2.can, by rw [ddep_toP, ddep_toP]; exact h3, ?_⟩
  rw [← deq_toP _ _ g1.pu g2.pu, ← h4]
  exact q
end

/-! ### in -/
def RInS (K : PySem.W.Frag) (neg : Bool) : R2 := fun v u H Q => ∃ (x : PyData) (ys : List PyData), Dp K H v x ∧ (Dp K H u (.list ys) ∨ Dp K H u (.tuple ys)) ∧ x.canLay0 = true ∧ PyData.canLayAll0 ys = true ∧
  min (PyData.depthAll ys) x.depth ≤ 150 ∧ Q (.bl ((ys.any fun y => PyData.eqv y x) != neg)) H
def RInT (neg : Bool) : R2 := fun x y H Q => ∃ (c : Nat) (z : Str), x = .str ⟨#[c]⟩ ∧ y = .str z ∧ Q (.bl (decide (c ∈ z.cps.toList) != neg)) H
def RInD (neg : Bool) : R2 := fun x y H Q => ∃ a o, y = .ref a ∧ DGet H a x o ∧ Q (.bl (o.isSome != neg)) H
theorem op_inS {X : Cx} (hu : X.A.units + 152 < cLine) : OpR X (compareOp .In) (RInS X.K false) := by
  intro pins s σ H v u a b Q I rx ry h
  obtain ⟨x, ys, h1, h2, c1, c2, dd, q⟩ := h
  obtain ⟨as, r1⟩ := Dp.reads I _ _ _ h1 rx
  rcases h2 with h2 | h2
  · obtain ⟨bs, r2⟩ := Dp.reads I _ _ _ h2 ry
    exact SeqAt.in_list_reads r2 r1 c2 c1 (by omega) ⟨.bl _, H, I, by simp [L2.RelV], q⟩
  · obtain ⟨bs, r2⟩ := Dp.reads I _ _ _ h2 ry
    exact SeqAt.in_tuple_reads r2 r1 c2 c1 (by omega) ⟨.bl _, H, I, by simp [L2.RelV], q⟩
theorem op_notInS {X : Cx} (hu : X.A.units + 152 < cLine) : OpR X (compareOp .NotIn) (RInS X.K true) := by
  intro pins s σ H v u a b Q I rx ry h
  obtain ⟨x, ys, h1, h2, c1, c2, dd, q⟩ := h
  obtain ⟨as, r1⟩ := Dp.reads I _ _ _ h1 rx
  rcases h2 with h2 | h2
  · obtain ⟨bs, r2⟩ := Dp.reads I _ _ _ h2 ry
    exact SeqAt.notIn_list_reads r2 r1 c2 c1 (by omega) ⟨.bl _, H, I, by simp [L2.RelV], q⟩
  · obtain ⟨bs, r2⟩ := Dp.reads I _ _ _ h2 ry
    exact SeqAt.notIn_tuple_reads r2 r1 c2 c1 (by omega) ⟨.bl _, H, I, by simp [L2.RelV], q⟩
theorem op_inT {X : Cx} : OpR X (compareOp .In) (RInT false) := by
  intro pins s σ H v u a b Q I rx ry h
  obtain ⟨c, z, h1, h2, q⟩ := h
  exact op_in_sign pins s σ H v u a b Q I rx ry ⟨c, z, h1, h2, by simpa using q⟩
theorem op_notInT {X : Cx} : OpR X (compareOp .NotIn) (RInT true) := by
  intro pins s σ H v u a b Q I rx ry h
  obtain ⟨c, z, h1, h2, q⟩ := h
  exact op_notIn_sign pins s σ H v u a b Q I rx ry ⟨c, z, h1, h2, by simpa using q⟩
theorem op_inD' {X : Cx} (hu : X.A.units + 1 < cLine) : OpR X (compareOp .In) (RInD false) := by
  intro pins s σ H v u a b Q I rx ry h
  obtain ⟨c, o, h1, h2, q⟩ := h
  subst h1
  cases ry
  exact d_in hu I h2 rx fun s' I' => ⟨.bl _, H, I', by simp [L2.RelV], q⟩
theorem op_notInD' {X : Cx} (hu : X.A.units + 1 < cLine) : OpR X (compareOp .NotIn) (RInD true) := by
  intro pins s σ H v u a b Q I rx ry h
  obtain ⟨c, o, h1, h2, q⟩ := h
  subst h1
  cases ry
  exact d_notIn hu I h2 rx fun s' I' => ⟨.bl _, H, I', by simp [L2.RelV], q⟩
abbrev RIn (K : PySem.W.Frag) (neg : Bool) : R2 := fun x y H Q => RInS K neg x y H Q ∨ RInT neg x y H Q ∨ RInD neg x y H Q
def Cop.op : Cop → CmpOp
  | .lt => .Lt
  | .le => .LtE
  | .gt => .Gt
  | .ge => .GtE
  | .eq => .Eq
  | .ne => .NotEq
  | .isin => .In
  | .notin => .NotIn
def RC (K : PySem.W.Frag) : Cop → R2
  | .lt => rI0 fun i j => .bl (decide (i < j))
  | .le => rI0 fun i j => .bl (decide (i ≤ j))
  | .gt => rI0 fun i j => .bl (decide (j < i))
  | .ge => rI0 fun i j => .bl (decide (j ≤ i))
  | .eq => REq K false
  | .ne => REq K true
  | .isin => RIn K false
  | .notin => RIn K true
theorem op_cmp {X : Cx} (hu : X.A.units + 152 < cLine) : ∀ o : Cop, OpR X (compareOp o.op) (RC X.K o)
  | .lt => op_lt
  | .le => op_le
  | .gt => op_gt
  | .ge => op_ge
  | .eq => op_eqU (by omega)
  | .ne => op_neU (by omega)
  | .isin => (op_inS hu).or (op_inT.or (op_inD' (by omega)))
  | .notin => (op_notInS hu).or (op_notInT.or (op_notInD' (by omega)))
section
variable {X : Cx} {W : Wd} {Y : WX} {σ : L2.St} {r : List Addr} {H : Hp} {hs : Hs} {Q : VK} {d e : D} {v u : V}
theorem inSeq_gd (m : Mt W r H hs) (x : Rv W r H d v) : ∀ {ys : List D} {us : List V} {b : Bool}, Rvs W r H ys us → inSeq hs d ys = some b →
    ∃ (x' : D) (zs : List D), rsv hs d = some x' ∧ Gds W.K H us zs ∧ min (ddeps zs) (ddep x') ≤ 150 ∧ b = (toPs zs).any fun y => PyData.eqv y (toP x')
  | [], _, b, .nil, h => by
    simp only [inSeq] at h
    cases q : rsv hs d with
    | none => rw [q] at h; cases h
    | some x' =>
      rw [q] at h
      cases h
      exact ⟨x', [], rfl, ⟨.nil, rfl, rfl⟩, by simp [ddeps], rfl⟩
  | y :: ys, _, b, .cons h1 h2, h => by
    simp only [inSeq] at h
    split at h
    · rename_i a c ha hc
      cases h
      obtain ⟨x', zs, g1, g2, g3, g4⟩ := inSeq_gd m x h2 hc
      obtain ⟨z, x'', k1, k2, k3, k4⟩ := eqv_some ha
      rw [g1] at k2
      cases k2
      have gz := rsv_gd m h1 k1
      have gx := rsv_gd m x g1
      refine ⟨x', z :: zs, g1, ⟨.cons gz.dp g2.dp, by simp only [toPs, PyData.canLayAll0, gz.can, g2.can, Bool.and_self], by simp only [purs, gz.pu, g2.pu, Bool.and_self]⟩, by simp only [ddeps]; omega, ?_⟩
      simp only [toPs, List.any_cons]
      rw [← g4, k4, deq_toP _ _ gz.pu gx.pu]
    · cases h
theorem key_deq (a b : Key) : deq (keyD a) (keyD b) = decide (a = b) := by
  cases a <;> cases b <;> simp only [keyD, deq, key_ll, key_rr, key_lr, key_rl]
  · rename_i x y
    by_cases h : x = y
    · subst h; simp
    · simp [h]
/-- a scalar key -/
theorem key_at (k : kOk false d = true) (x : Rv W r H d v) : ∃ q : Key, d = keyD q ∧ v = kV q := by
  cases d <;> first | (simp [kOk] at k; done) | skip
  · cases x; exact ⟨.inl _, rfl, rfl⟩
  · cases x; exact ⟨.inr _, rfl, rfl⟩
theorem dlook_val (q : Key) : ∀ (ks : List Key) (ds : List D) (vs : List V), ks.length = ds.length → Rvs W r H ds vs →
    match dlook (keyD q) ((ks.map keyD).zip ds) with
    | some e => ∃ w, valV (ks.zip vs) q = some w ∧ Rv W r H e w
    | none => valV (ks.zip vs) q = none
  | [], ds, vs, h, x => by simp [dlook, valV]
  | k :: ks, [], _, h, _ => by simp at h
  | k :: ks, d :: ds, _, h, .cons (v := v) (vs := vs) x t => by
    simp only [List.map_cons, List.zip_cons_cons, dlook, key_deq]
    by_cases e : k = q
    · subst e
      simp only [decide_true, if_true]
      exact ⟨v, valV_pos rfl, x⟩
    · rw [decide_eq_false e, valV_neg (p := (k, v)) e]
      simp only [Bool.false_eq_true, if_false]
      exact dlook_val q ks ds vs (by simpa using h) t
/-! ### tuples for keys -/
theorem rowV_rowK : ∀ {ds : List D} {vs : List V}, Rvs W r H ds vs → rowK ds = true → rowV vs = true ∧ ∃ q : List Key, ds = q.map keyD ∧ vs = q.map kV := by
  intro ds vs x h
  unfold rowK at h
  split at h
  · cases x with | cons a t =>
    cases t
    cases a
    exact ⟨rfl, [.inr _], rfl, rfl⟩
  · cases x with | cons a t =>
    cases t with | cons b t =>
    cases t
    cases a
    cases b
    exact ⟨rfl, [.inr _, .inl _], rfl, rfl⟩
  · cases x with | cons a t =>
    cases t with | cons b t =>
    cases t with | cons c t =>
    cases t
    cases a
    cases b
    cases c
    exact ⟨rfl, [.inr _, .inl _, .inl _], rfl, rfl⟩
  · cases h
theorem rowK_rowV : ∀ {ds : List D} {vs : List V}, Rvs W r H ds vs → rowK ds = false → rowV vs = false := by
  intro ds vs x h
  cases hv : rowV vs
  · rfl
  · exfalso
    unfold rowV at hv
    split at hv
    · cases x with | cons a t =>
      cases t
      cases a
      cases h
    · cases x with | cons a t =>
      cases t with | cons b t =>
      cases t
      cases a
      cases b
      cases h
    · cases x with | cons a t =>
      cases t with | cons b t =>
      cases t with | cons c t =>
      cases t
      cases a
      cases b
      cases c
      cases h
    · cases hv
def tkD (q : List Key) : D := .tup (q.map keyD)
theorem keys_deq : ∀ a b : List Key, deqs (a.map keyD) (b.map keyD) = decide (a = b)
  | [], [] => by simp [deqs]
  | [], _ :: _ => by simp [deqs]
  | _ :: _, [] => by simp [deqs]
  | x :: a, y :: b => by
    simp only [List.map_cons, deqs, key_deq, keys_deq a b]
    by_cases h : x = y <;> by_cases g : a = b <;> simp [h, g]
theorem tkey_deq (a b : List Key) : deq (tkD a) (tkD b) = decide (a = b) := by
  simp only [tkD, deq, keys_deq]
theorem tkey_at (k : kOk true d = true) (x : Rv W r H d v) : ∃ (q : List Key) (b : Addr), d = tkD q ∧ v = .ref b ∧ H b = some (.tup (q.map kV)) := by
  cases d <;> first | (simp [kOk] at k; done) | skip
  cases x with | tup h e =>
  obtain ⟨h1, q, h2, h3⟩ := rowV_rowK e k
  rcases h with h | h
  · exact ⟨q, _, by rw [h2]; rfl, rfl, by rw [← h3]; exact h.1⟩
  · rw [h1] at h
    cases h.2
theorem dlook_valT (q : List Key) : ∀ (ks : List (List Key)) (ds : List D) (vs : List V), ks.length = ds.length → Rvs W r H ds vs →
    match dlook (tkD q) ((ks.map fun k => D.tup (k.map keyD)).zip ds) with
    | some e => ∃ w, valV (ks.zip vs) q = some w ∧ Rv W r H e w
    | none => valV (ks.zip vs) q = none
  | [], ds, vs, h, x => by simp [dlook, valV]
  | k :: ks, [], _, h, _ => by simp at h
  | k :: ks, d :: ds, _, h, .cons (v := v) (vs := vs) x t => by
    simp only [List.map_cons, List.zip_cons_cons, dlook]
    rw [show deq (D.tup (k.map keyD)) (tkD q) = decide (k = q) from tkey_deq k q]
    by_cases e : k = q
    · subst e
      simp only [decide_true, if_true]
      exact ⟨v, valV_pos rfl, x⟩
    · rw [decide_eq_false e, valV_neg (p := (k, v)) e]
      simp only [Bool.false_eq_true, if_false]
      exact dlook_valT q ks ds vs (by simpa using h) t
theorem dic_get (m : Mt W r H hs) {n : Nat} {a : Addr} {t : Bool} {kvs : List (D × D)} (ha : r[n]? = some a) (h : hs[n]? = some (.dic t kvs)) (x : Rv W r H d v) (k : kOk t d = true) :
    match dlook d kvs with
    | some e => ∃ w, DGet H a v (some w) ∧ Rv W r H e w
    | none => DGet H a v none := by
  cases t with
  | true =>
    obtain ⟨ks, ds, vs, h1, h2, h3, h4, h5⟩ := m.at_ n a _ ha h
    obtain ⟨q, b, rfl, rfl, hb⟩ := tkey_at k x
    have hd := dlook_valT q ks ds vs h3 h5
    subst h2
    split at hd
    · rename_i e he
      obtain ⟨w, hw, rw'⟩ := hd
      exact ⟨w, hw ▸ DGet.t h1 hb, rw'⟩
    · rename_i he
      exact hd ▸ DGet.t h1 hb
  | false =>
    obtain ⟨ks, ds, vs, h1, h2, h3, h4, h5⟩ := m.at_ n a _ ha h
    obtain ⟨q, rfl, rfl⟩ := key_at k x
    have hd := dlook_val q ks ds vs h3 h5
    subst h2
    split at hd
    · rename_i e he
      obtain ⟨w, hw, rw'⟩ := hd
      exact ⟨w, hw ▸ DGet.k h1, rw'⟩
    · rename_i he
      exact hd ▸ DGet.k h1
theorem q_in (m : Mt W r H hs) (x : Rv W r H d v) (y : Rv W r H e u) {b neg : Bool} (h : isIn hs d e = some b) (q : Q (.bl (b != neg)) H) : RIn W.K neg v u H Q := by
  cases e <;> first | (cases h; done) | skip
  case str z =>
    cases d <;> first | (cases h; done) | skip
    rename_i c
    cases x; cases y
    simp only [isIn, signIn] at h
    split at h
    · rename_i g hc
      cases h
      refine .inr (.inl ⟨g, z, ?_, rfl, ?_⟩)
      · congr 1
        cases c with | mk cps => cases cps; simp only at hc; subst hc; rfl
      · rw [show decide (g ∈ z.cps.toList) = z.cps.toList.contains g from by simp]
        exact q
    · cases h
  case tup ys =>
    cases y with | tup t es =>
    obtain ⟨x', zs, g1, g2, g3, g4⟩ := inSeq_gd m x es h
    have gx := rsv_gd m x g1
    exact .inl ⟨_, _, gx.dp, .inr (.tup t.sq g2.dp), gx.can, g2.can, by rw [ddep_toP, ddeps_toP]; exact g3, by rw [← g4]; exact q⟩
  case ref n =>
    cases y with | ref ha =>
    simp only [isIn] at h
    split at h
    · rename_i ys hy
      obtain ⟨vs, k1, k2⟩ := m.lst ha hy
      obtain ⟨x', zs, g1, g2, g3, g4⟩ := inSeq_gd m x k2 h
      have gx := rsv_gd m x g1
      exact .inl ⟨_, _, gx.dp, .inl (.lst (SqL.of k1) g2.dp), gx.can, g2.can, by rw [ddep_toP, ddeps_toP]; exact g3, by rw [← g4]; exact q⟩
    · rename_i ys hy
      obtain ⟨ob, vs, k1, k2⟩ := m.frz ha hy
      obtain ⟨x', zs, g1, g2, g3, g4⟩ := inSeq_gd m x k2 h
      have gx := rsv_gd m x g1
      exact .inl ⟨_, _, gx.dp, .inl (.lst (.inl (.inr ⟨ob, k1⟩)) g2.dp), gx.can, g2.can, by rw [ddep_toP, ddeps_toP]; exact g3, by rw [← g4]; exact q⟩
    · rename_i t kvs hy
      split at h
      · rename_i hk
        cases h
        have hd := dic_get m ha hy x hk
        split at hd
        · rename_i e he
          obtain ⟨w, hw, _⟩ := hd
          exact .inr (.inr ⟨_, _, rfl, hw, by rw [he] at q; exact q⟩)
        · rename_i he
          exact .inr (.inr ⟨_, _, rfl, hd, by rw [he] at q; exact q⟩)
      · cases h
    · cases h
theorem pd_opt {α : Type} {ρ : Option α} {f : α → D} (p : PD W Y σ r H (opt ρ f hs) Q) : ∃ a, ρ = some a ∧ PD W Y σ r H (.ok (f a) hs) Q := by
  cases ρ with
  | none => exact False.elim p
  | some a => exact ⟨a, rfl, p⟩
theorem q_cmp (m : Mt W r H hs) (x : Rv W r H d v) (y : Rv W r H e u) : ∀ o : Cop, PD W Y σ r H (o.run d e hs) Q → RC W.K o v u H Q
  | .eq, p => by
    obtain ⟨b, hb, p⟩ := pd_opt p
    exact q_eq m x y hb (by simpa using pd_ok p m (.bl b))
  | .ne, p => by
    obtain ⟨b, hb, p⟩ := pd_opt p
    exact q_eq m x y hb (by simpa using pd_ok p m (.bl (!b)))
  | .isin, p => by
    obtain ⟨b, hb, p⟩ := pd_opt p
    exact q_in m x y hb (by simpa using pd_ok p m (.bl b))
  | .notin, p => by
    obtain ⟨b, hb, p⟩ := pd_opt p
    exact q_in m x y hb (by simpa using pd_ok p m (.bl (!b)))
  | .lt, p => by
    cases d <;> cases e <;> first | exact False.elim p | skip
    cases x; cases y
    exact ⟨_, _, rfl, rfl, pd_ok p m (.bl _)⟩
  | .le, p => by
    cases d <;> cases e <;> first | exact False.elim p | skip
    cases x; cases y
    exact ⟨_, _, rfl, rfl, pd_ok p m (.bl _)⟩
  | .gt, p => by
    cases d <;> cases e <;> first | exact False.elim p | skip
    cases x; cases y
    exact ⟨_, _, rfl, rfl, pd_ok p m (.bl _)⟩
  | .ge, p => by
    cases d <;> cases e <;> first | exact False.elim p | skip
    cases x; cases y
    exact ⟨_, _, rfl, rfl, pd_ok p m (.bl _)⟩
end
end Q

/-! subscripts, slices, truth, built-in functions and methods: mine against the layer's -/
namespace Q
open PySem PySem.Spec PyProof.Rows L2

section
variable {X : Cx} {W : Wd} {Y : WX} {σ : L2.St} {r : List Addr} {H : Hp} {hs : Hs} {Q : VK} {d e : D} {v u : V}

/-! ### a[i] -/
theorem Rvs.none {W : Wd} {r : List Addr} {H : Hp} {ds : List D} {vs : List V} (h : Rvs W r H ds vs) {i : Nat} (e : ds[i]? = none) : vs[i]? = none := by
  rw [List.getElem?_eq_none_iff] at e ⊢
  rw [h.length]
  exact e
theorem atI_rv {ds : List D} {vs : List V} {i : Int} (h : Rvs W r H ds vs) (e : atI ds i = some d) : ∃ v, L2.atI vs i = some v ∧ Rv W r H d v := by
  unfold atI at e
  unfold L2.atI
  rw [h.length]
  cases q : ixN ds.length i with
  | none => rw [q] at e; cases e
  | some j =>
    rw [q] at e
    have q2 : L2.ixN ds.length i = some j := q
    rw [q2]
    exact h.get e
def RIxD : R2 := fun x y H Q => ∃ a v, x = .ref a ∧ DGet H a y (some v) ∧ Q v H
theorem ix_dic (hu : X.A.units + 1 < cLine) : IxR X RIxD := by
  intro value slice pins s σ H x y v u Q I rx ry h hs
  obtain ⟨a, z, rfl, g, q⟩ := h
  cases rx
  exact tail_any (dict_typeIs I g) PySem.F.slot_dict_getitem.lookup (d_getItem hu I g ry fun w' s3 I3 rw' => ⟨z, H, I3, rw', q⟩) hs
abbrev RIx (K : PySem.W.Frag) : R2 := fun x y H Q => rIx K x y H Q ∨ RIxD x y H Q
theorem ix_U (hu : X.A.units + 1 < cLine) : IxR X (RIx X.K) := ix_seq.or (ix_dic hu)
theorem strOk_sign {x : Str} {c : Nat} (h : PyData.strOk x = true) (m : c ∈ x.cps.toList) : PyData.strOk ⟨#[c]⟩ = true := by
  unfold PyData.strOk at *
  rw [Array.all_eq_true'] at h ⊢
  intro y hy
  simp at hy
  subst hy
  exact h y (by simpa using m)
theorem atI_mem {α : Type} {xs : List α} {i : Int} {c : α} (h : atI xs i = some c) : c ∈ xs := by
  unfold atI at h
  cases q : ixN xs.length i with
  | none => rw [q] at h; cases h
  | some j => rw [q] at h; exact List.mem_of_getElem? h
theorem q_ix (m : Mt W r H hs) (x : Rv W r H d v) (y : Rv W r H e u) (p : PD W Y σ r H (getI d e hs) Q) : RIx W.K v u H Q := by
  cases d <;> first | exact False.elim p | skip
  case str z =>
    cases e <;> first | exact False.elim p | skip
    rename_i i
    cases x with | str _ k =>
    cases y
    simp only [getI] at p
    split at p
    · rename_i hz
      obtain ⟨c, hc, p⟩ := pd_opt p
      exact .inl (.inr (.inr ⟨z, i, c, rfl, rfl, by rw [sl_eq]; exact hz, hc, pd_ok p m (.str _ (strOk_sign k (atI_mem hc)))⟩))
    · exact False.elim p
  case tup ds =>
    cases e <;> first | exact False.elim p | skip
    rename_i i
    cases x with | tup t es =>
    cases y
    simp only [getI] at p
    obtain ⟨c, hc, p⟩ := pd_opt p
    obtain ⟨w, hw, rw'⟩ := atI_rv es hc
    exact .inl (.inr (.inl ⟨_, _, i, w, rfl, rfl, t.sq, hw, pd_ok p m rw'⟩))
  case ref n =>
    cases x with | ref ha =>
    simp only [getI] at p
    split at p
    · rename_i _ _ xs i hx
      cases y
      obtain ⟨vs, h1, es⟩ := m.lst ha hx
      obtain ⟨c, hc, p⟩ := pd_opt p
      obtain ⟨w, hw, rw'⟩ := atI_rv es hc
      exact .inl (.inl ⟨_, _, i, w, rfl, rfl, SqL.of h1, hw, pd_ok p m rw'⟩)
    · rename_i _ _ xs i hx
      cases y
      obtain ⟨ob, vs, h1, es⟩ := m.frz ha hx
      obtain ⟨c, hc, p⟩ := pd_opt p
      obtain ⟨w, hw, rw'⟩ := atI_rv es hc
      exact .inl (.inl ⟨_, _, i, w, rfl, rfl, .inl (.inr ⟨ob, h1⟩), hw, pd_ok p m rw'⟩)
    · rename_i t kvs hx
      split at p
      · rename_i hk
        obtain ⟨c, hc, p⟩ := pd_opt p
        have hd := dic_get m ha hx y hk
        rw [hc] at hd
        obtain ⟨w, hw, rw'⟩ := hd
        exact .inr ⟨_, w, rfl, hw, pd_ok p m rw'⟩
      · exact False.elim p
    · exact False.elim p

/-! ### slices -/
theorem sIx_eq (n d : Nat) (o : Option Int) : sIx n d o = HT.sIx n d o := by cases o <;> rfl
abbrev RSl (K : PySem.W.Frag) : V → Option Int → Option Int → Hp → VK → Prop := fun x lo hi H Q => rSlL K x lo hi H Q ∨ rSlA K x lo hi H Q ∨ rSlS x lo hi H Q
theorem sl_U : SlR X (RSl X.K) := sl_list.or (sl_tupA.or sl_str)
theorem cut_rvs {ds : List D} {vs : List V} (h : Rvs W r H ds vs) (lo hi : Option Int) : Rvs W r H (cut ds lo hi) (cutV vs lo hi) := by
  unfold cut cutV
  rw [h.length, ← sIx_eq, ← sIx_eq]
  exact (h.drop _).take _
theorem strOk_cut {x : Str} {lo hi : Option Int} (h : PyData.strOk x = true) : PyData.strOk ⟨(cut x.cps.toList lo hi).toArray⟩ = true := by
  unfold PyData.strOk at *
  rw [Array.all_eq_true'] at h ⊢
  intro y hy
  have hy' : y ∈ cut x.cps.toList lo hi := by simpa using hy
  unfold cut at hy'
  exact h y (by simpa using List.mem_of_mem_drop (List.mem_of_mem_take hy'))
theorem q_slice (m : Mt W r H hs) (x : Rv W r H d v) {lo hi : Option Int} (p : PD W Y σ r H (slice d lo hi hs) Q) : RSl W.K v lo hi H Q := by
  cases d <;> first | exact False.elim p | skip
  case str z =>
    cases x with | str _ k =>
    simp only [slice] at p
    split at p
    · rename_i hz
      refine .inr (.inr ⟨z, rfl, by rw [sl_eq]; exact hz, ?_⟩)
      have e : cutS z lo hi = ⟨(cut z.cps.toList lo hi).toArray⟩ := by
        unfold cutS cut
        rw [← sIx_eq, ← sIx_eq] <;> simp [Str.length]
      rw [e]
      exact pd_ok p m (.str _ (strOk_cut k))
    · exact False.elim p
  case tup ds =>
    cases x with | tup t es =>
    simp only [slice] at p
    refine .inr (.inl ⟨_, _, rfl, t.sq, fun hw => ?_, fun _ => pd_tup p m (cut_rvs es lo hi)⟩)
    rw [es.length, ← sIx_eq, ← sIx_eq] at hw
    have e : cut ds lo hi = ds := by
      unfold cut
      rw [hw.1, hw.2, List.drop_zero, Nat.sub_zero, List.take_length]
    rw [e] at p
    exact pd_ok p m (.tup t es)
  case ref n =>
    cases x with | ref ha =>
    simp only [slice] at p
    split at p
    · rename_i xs hx
      obtain ⟨vs, h1, es⟩ := m.lst ha hx
      exact .inl ⟨_, _, rfl, SqL.of h1, pd_lst p m (cut_rvs es lo hi)⟩
    · rename_i xs hx
      obtain ⟨ob, vs, h1, es⟩ := m.frz ha hx
      exact .inl ⟨_, _, rfl, .inl (.inr ⟨ob, h1⟩), pd_lst p m (cut_rvs es lo hi)⟩
    · exact False.elim p

/-! ### truth -/
theorem Rvs.empty {W : Wd} {r : List Addr} {H : Hp} {ds : List D} {vs : List V} (h : Rvs W r H ds vs) : vs.isEmpty = ds.isEmpty := by cases h <;> rfl
theorem q_tru (m : Mt W r H hs) (x : Rv W r H d v) {b : Bool} (h : tru hs d = some b) : TruV W.K v H b := by
  cases d <;> first | (cases h; done) | skip
  case non => cases x; cases h; exact rfl
  case bl => cases x; cases h; exact rfl
  case int => cases x; cases h; exact rfl
  case str z =>
    cases x
    simp only [tru] at h
    split at h
    · rename_i hz
      cases h
      exact ⟨by rw [sl_eq]; exact hz, by
        show _ = ((z.length : Int) != 0)
        cases z.length <;> rfl⟩
    · cases h
  case tup ds =>
    cases x with | tup t es =>
    cases h
    exact .inr (.inl ⟨_, t.sq, by rw [es.empty]⟩)
  case ref n =>
    cases x with | ref ha =>
    simp only [tru] at h
    split at h
    · rename_i xs hx
      obtain ⟨vs, h1, es⟩ := m.lst ha hx
      cases h
      exact .inl ⟨_, SqL.of h1, by rw [es.empty]⟩
    · rename_i xs hx
      obtain ⟨ks, ds, vs, h1, h2, h3, h4, h5⟩ := m.at_ n _ _ ha hx
      cases h
      refine .inr (.inr ⟨_, h1, ?_⟩)
      subst h2
      have := h5.length
      cases ks <;> cases ds <;> cases vs <;> simp at * 
    · cases h
end
end Q

/-! built-in functions and methods: mine against the layer's -/
namespace Q
open PySem PySem.Spec PyProof.Rows L2

section
variable {X : Cx} {W : Wd} {Y : WX} {σ : L2.St} {r : List Addr} {H : Hp} {hs : Hs} {Q : VK} {d e : D} {v u : V} {ds : List D} {vs : List V}

/-! ### parts -/
theorem items_at (m : Mt W r H hs) (x : Rv W r H d v) {l : List D} (h : itemsOf hs d = some l) : ∃ p us, v = .ref p ∧ (SqL W.K H p us ∨ SqT W.K H p us) ∧ Rvs W r H l us := by
  cases d <;> first | (cases h; done) | skip
  case tup ds =>
    cases x with | tup t es =>
    cases h
    exact ⟨_, _, rfl, .inr t.sq, es⟩
  case ref n =>
    cases x with | ref ha =>
    simp only [itemsOf] at h
    split at h
    · rename_i xs hx
      obtain ⟨vs, h1, es⟩ := m.lst ha hx
      cases h
      exact ⟨_, _, rfl, .inl (SqL.of h1), es⟩
    · rename_i xs hx
      obtain ⟨ob, vs, h1, es⟩ := m.frz ha hx
      cases h
      exact ⟨_, _, rfl, .inl (.inl (.inr ⟨ob, h1⟩)), es⟩
    · cases h
theorem list_at (m : Mt W r H hs) (x : Rv W r H d v) {l : List D} (h : listOf hs d = some l) : ∃ p us, v = .ref p ∧ SqL W.K H p us ∧ Rvs W r H l us := by
  cases d <;> first | (cases h; done) | skip
  case ref n =>
    cases x with | ref ha =>
    simp only [listOf] at h
    split at h
    · rename_i xs hx
      obtain ⟨vs, h1, es⟩ := m.lst ha hx
      cases h
      exact ⟨_, _, rfl, SqL.of h1, es⟩
    · rename_i xs hx
      obtain ⟨ob, vs, h1, es⟩ := m.frz ha hx
      cases h
      exact ⟨_, _, rfl, .inl (.inr ⟨ob, h1⟩), es⟩
    · cases h
theorem ints_at : ∀ {l : List D} {us : List V} {ns : List Int}, Rvs W r H l us → intsL l = some ns → us = ns.map V.int
  | [], _, _, .nil, h => by cases h; rfl
  | d :: l, _, ns, .cons x t, h => by
    cases d <;> first | (cases h; done) | skip
    rename_i i
    cases x
    simp only [intsL] at h
    cases q : intsL l with
    | none => rw [q] at h; cases h
    | some ms =>
      rw [q] at h
      cases h
      rw [List.map_cons, ints_at t q]
theorem bools_at : ∀ {l : List D} {us : List V} {ns : List Bool}, Rvs W r H l us → boolsL l = some ns → us = ns.map V.bl
  | [], _, _, .nil, h => by cases h; rfl
  | d :: l, _, ns, .cons x t, h => by
    cases d <;> first | (cases h; done) | skip
    rename_i i
    cases x
    simp only [boolsL] at h
    cases q : boolsL l with
    | none => rw [q] at h; cases h
    | some ms =>
      rw [q] at h
      cases h
      rw [List.map_cons, bools_at t q]
theorem strs_at : ∀ {l : List D} {us : List V} {ns : List Str}, Rvs W r H l us → strsL l = some ns → us = ns.map V.str
  | [], _, _, .nil, h => by cases h; rfl
  | d :: l, _, ns, .cons x t, h => by
    cases d <;> first | (cases h; done) | skip
    rename_i i
    cases x
    simp only [strsL] at h
    cases q : strsL l with
    | none => rw [q] at h; cases h
    | some ms =>
      rw [q] at h
      cases h
      rw [List.map_cons, strs_at t q]
theorem leastI_le : ∀ (xs : List Int) (m : Int), leastI xs m ≤ m ∧ ∀ y ∈ xs, leastI xs m ≤ y
  | [], m => ⟨Int.le_refl _, fun _ h => nomatch h⟩
  | x :: xs, m => by
    obtain ⟨h1, h2⟩ := leastI_le xs (if x < m then x else m)
    simp only [leastI]
    have h3 : (if x < m then x else m) ≤ m ∧ (if x < m then x else m) ≤ x := by split <;> omega
    refine ⟨by omega, fun y hy => ?_⟩
    rcases List.mem_cons.mp hy with e | hy
    · subst e; omega
    · exact h2 y hy
theorem leastI_mem : ∀ (xs : List Int) (m : Int), leastI xs m ∈ m :: xs
  | [], m => List.mem_cons_self
  | x :: xs, m => by
    have h := leastI_mem xs (if x < m then x else m)
    simp only [leastI]
    rcases List.mem_cons.mp h with e | h
    · rw [e]; split
      · exact List.mem_cons_of_mem _ List.mem_cons_self
      · exact List.mem_cons_self
    · exact List.mem_cons_of_mem _ (List.mem_cons_of_mem _ h)
theorem mostI_le : ∀ (xs : List Int) (m : Int), m ≤ mostI xs m ∧ ∀ y ∈ xs, y ≤ mostI xs m
  | [], m => ⟨Int.le_refl _, fun _ h => nomatch h⟩
  | x :: xs, m => by
    obtain ⟨h1, h2⟩ := mostI_le xs (if m < x then x else m)
    simp only [mostI]
    have h3 : m ≤ (if m < x then x else m) ∧ x ≤ (if m < x then x else m) := by split <;> omega
    refine ⟨by omega, fun y hy => ?_⟩
    rcases List.mem_cons.mp hy with e | hy
    · subst e; omega
    · exact h2 y hy
theorem mostI_mem : ∀ (xs : List Int) (m : Int), mostI xs m ∈ m :: xs
  | [], m => List.mem_cons_self
  | x :: xs, m => by
    have h := mostI_mem xs (if m < x then x else m)
    simp only [mostI]
    rcases List.mem_cons.mp h with e | h
    · rw [e]; split
      · exact List.mem_cons_of_mem _ List.mem_cons_self
      · exact List.mem_cons_self
    · exact List.mem_cons_of_mem _ (List.mem_cons_of_mem _ h)

/-! ### built-in functions -/
abbrev RF := List V → Hp → VK → Prop
theorem crU {f : Value} {a b : RF} (h : CallR X f a) (k : CallR X f b) : CallR X f (fun xs H Q => a xs H Q ∨ b xs H Q) := by
  intro pins s σ H xs us Q I rx q
  rcases q with q | q
  · exact h pins s σ H xs us Q I rx q
  · exact k pins s σ H xs us Q I rx q
abbrev RLenA (K : PySem.W.Frag) : RF := fun xs H Q => ∃ x n, xs = [x] ∧ LenV K x H n ∧ Q (.int n) H
abbrev RLenD : RF := fun xs H Q => ∃ a kvs, xs = [V.ref a] ∧ H a = some (.dK kvs) ∧ Q (.int kvs.length) H
abbrev RAbs : RF := fun xs H Q => ∃ i, xs = [.int i] ∧ Q (.int (if i < 0 then -i else i)) H
abbrev RMin2 : RF := fun xs H Q => ∃ i j, xs = [.int i, .int j] ∧ Q (.int (if j < i then j else i)) H
abbrev RMax2 : RF := fun xs H Q => ∃ i j, xs = [.int i, .int j] ∧ Q (.int (if j > i then j else i)) H
abbrev RInt1 : RF := fun xs H Q => (∃ i, xs = [.int i] ∧ Q (.int i) H) ∨ ∃ k, xs = [.bl k] ∧ Q (.int (if k then 1 else 0)) H
abbrev RIntS : RF := fun xs H Q => ∃ a n, xs = [.str a] ∧ PySem.intText? a = some n ∧ a.length ≤ 640 ∧ Q (.int n) H
abbrev RStrI : RF := fun xs H Q => ∃ i, xs = [.int i] ∧ i.natAbs.log2 < 1920 ∧ Q (.str (toString i)) H
abbrev RTupO (K : PySem.W.Frag) : RF := fun xs H Q => ∃ p ys, xs = [.ref p] ∧ ((SqL K H p ys ∧ ∀ l, H l = none → Q (.ref l) (upd H l (.tup ys))) ∨ (SqT K H p ys ∧ Q (.ref p) H))
abbrev RLstO (K : PySem.W.Frag) : RF := fun xs H Q => ∃ p ys, xs = [.ref p] ∧ (SqL K H p ys ∨ SqT K H p ys) ∧ ∀ l, H l = none → Q (.ref l) (upd H l (.lst ys))
abbrev RLstD : RF := fun xs H Q => ∃ (a : Addr) (kvs : List (Key × V)), xs = [.ref a] ∧ Rd H a (.dK kvs) ∧ ∀ p, H p = none → Q (.ref p) (upd H p (.lst (kvs.map fun kv => kV kv.1)))
def RBi (K : PySem.W.Frag) : Bi → RF
  | .len => fun xs H Q => RLenA K xs H Q ∨ RLenD xs H Q
  | .abs => RAbs
  | .min => fun xs H Q => RMin2 xs H Q ∨ rMin K xs H Q
  | .max => fun xs H Q => RMax2 xs H Q ∨ rMax K xs H Q
  | .int => fun xs H Q => RInt1 xs H Q ∨ RIntS xs H Q
  | .str => RStrI
  | .tuple => RTupO K
  | .list => fun xs H Q => RLstO K xs H Q ∨ RLstD xs H Q
  | .sum => rSum K
  | .any => rAny K
  | .all => rAll K
  | _ => fun _ _ _ => False
def Bi.val : Bi → String × Value
  | .len => ("len", .builtin "len")
  | .abs => ("abs", .builtin "abs")
  | .min => ("min", .builtin "min")
  | .max => ("max", .builtin "max")
  | .int => ("int", .type "int")
  | .str => ("str", .type "str")
  | .tuple => ("tuple", .type "tuple")
  | .list => ("list", .type "list")
  | .sum => ("sum", .builtin "sum")
  | .any => ("any", .builtin "any")
  | .all => ("all", .builtin "all")
  | _ => ("", .none)
theorem cr_none {f : Value} : CallR X f (fun _ _ _ => False) := fun _ _ _ _ _ _ _ _ _ h => h.elim
theorem call_bi (hc : X.calm = true) : ∀ f : Bi, CallR X f.val.2 (RBi X.K f)
  | .len => crU call_len call_lenD
  | .abs => call_abs
  | .min => crU (call_min2 hc) (cr_min hc)
  | .max => crU (call_max2 hc) (cr_max hc)
  | .int => crU call_int1 call_int_str
  | .str => call_str_int
  | .tuple => call_tuple_of
  | .list => crU call_list_of (call_listD hc)
  | .sum => cr_sum hc
  | .any => cr_any hc
  | .all => cr_all hc
  | .sortedset => cr_none
  | .sorted => cr_none
  | .lenset => cr_none
theorem toStr_eq (i : Int) : toStr i = (toString i : Str) := rfl
theorem log_of {i : Int} (h : strB i) : i.natAbs.log2 < 1920 := by
  unfold strB at h
  omega
theorem keys_rvs : ∀ (ks : List Key) (ds : List D) (vs : List V), ks.length = ds.length → vs.length = ds.length → (∀ x : Str, Sum.inr x ∈ ks → PyData.strOk x = true) →
    Rvs W r H (((ks.map keyD).zip ds).map (·.1)) ((ks.zip vs).map fun kv => kV kv.1) := by
  intro ks
  induction ks with
  | nil => intro ds vs _ _ _; exact .nil
  | cons k ks ih =>
    intro ds vs h1 h2 h3
    cases ds with
    | nil => simp at h1
    | cons d ds =>
      cases vs with
      | nil => simp at h2
      | cons v vs =>
        refine .cons ?_ (ih ds vs (by simpa using h1) (by simpa using h2) fun x hx => h3 x (List.mem_cons_of_mem _ hx))
        cases k with
        | inl i => exact .int i
        | inr x => exact .str x (h3 x List.mem_cons_self)
theorem q_bi (m : Mt W r H hs) (x : Rvs W r H ds vs) : ∀ f : Bi, PD W Y σ r H (f.run ds hs) Q → RBi W.K f vs H Q
  | .len, p => by
    cases x with
    | nil => exact False.elim p
    | cons x t =>
      cases t with
      | cons _ _ => rename_i d _ _ _ _ _ _ _; cases d <;> exact False.elim p
      | nil =>
        rename_i d v
        cases d <;> first | exact False.elim p | skip
        case str z =>
          cases x
          simp only [Bi.run] at p
          split at p
          · rename_i hz
            exact .inl ⟨_, _, rfl, ⟨by rw [sl_eq]; exact hz, rfl⟩, pd_ok p m (.int _)⟩
          · exact False.elim p
        case tup es =>
          cases x with | tup t es =>
          exact .inl ⟨_, _, rfl, .inr ⟨_, t.sq, rfl⟩, by rw [es.length]; exact pd_ok p m (.int _)⟩
        case ref n =>
          cases x with | ref ha =>
          simp only [Bi.run] at p
          split at p
          · rename_i xs hx
            obtain ⟨us, h1, es⟩ := m.lst ha hx
            exact .inl ⟨_, _, rfl, .inl ⟨_, SqL.of h1, rfl⟩, by rw [es.length]; exact pd_ok p m (.int _)⟩
          · rename_i xs hx
            obtain ⟨ob, us, h1, es⟩ := m.frz ha hx
            exact .inl ⟨_, _, rfl, .inl ⟨_, .inl (.inr ⟨ob, h1⟩), rfl⟩, by rw [es.length]; exact pd_ok p m (.int _)⟩
          · rename_i xs hx
            obtain ⟨ks, ds, us, h1, h2, h3, h4, h5⟩ := m.at_ n _ _ ha hx
            refine .inr ⟨_, _, rfl, h1, ?_⟩
            have e : (ks.zip us).length = xs.length := by
              subst h2
              have := h5.length
              simp [List.length_zip] <;> omega
            rw [e]
            exact pd_ok p m (.int _)
          · exact False.elim p
  | .abs, p => by
    cases x with
    | nil => exact False.elim p
    | cons x t =>
      rename_i d _ _ _
      cases t with
      | cons _ _ => cases d <;> exact False.elim p
      | nil =>
        cases d <;> first | exact False.elim p | skip
        cases x
        exact ⟨_, rfl, pd_ok p m (.int _)⟩
  | .min, p => by
    cases x with
    | nil => exact False.elim p
    | cons x t =>
      rename_i d _ _ _
      cases t with
      | cons y t =>
        rename_i e _ _ _
        cases t with
        | cons _ _ => cases d <;> cases e <;> exact False.elim p
        | nil =>
          cases d <;> cases e <;> first | exact False.elim p | skip
          cases x; cases y
          exact .inl ⟨_, _, rfl, pd_ok p m (.int _)⟩
      | nil =>
        have p' : PD W Y σ r H (match listOf hs d with
          | some (.int i :: xs) => opt (intsL xs) (fun l => .int (leastI l i)) hs
          | _ => .bad) Q := by cases d <;> exact p
        split at p'
        · rename_i i xs hx
          obtain ⟨p1, us, rfl, h1, es⟩ := list_at m x hx
          obtain ⟨l, hl, p'⟩ := pd_opt p'
          cases es with | cons y es =>
          cases y
          have hu := ints_at es hl
          subst hu
          refine .inr ⟨p1, i :: l, rfl, h1, Nat.succ_pos _, fun z hz hm => ?_⟩
          have h2 := leastI_le l i
          have h3 := leastI_mem l i
          have h4 : z = leastI l i := by
            have h5 := hm _ h3
            rcases List.mem_cons.mp hz with e | e
            · subst e; omega
            · have := h2.2 _ e; omega
          rw [h4]
          exact pd_ok p' m (.int _)
        · exact False.elim p'
  | .max, p => by
    cases x with
    | nil => exact False.elim p
    | cons x t =>
      rename_i d _ _ _
      cases t with
      | cons y t =>
        rename_i e _ _ _
        cases t with
        | cons _ _ => cases d <;> cases e <;> exact False.elim p
        | nil =>
          cases d <;> cases e <;> first | exact False.elim p | skip
          cases x; cases y
          exact .inl ⟨_, _, rfl, pd_ok p m (.int _)⟩
      | nil =>
        have p' : PD W Y σ r H (match listOf hs d with
          | some (.int i :: xs) => opt (intsL xs) (fun l => .int (mostI l i)) hs
          | _ => .bad) Q := by cases d <;> exact p
        split at p'
        · rename_i i xs hx
          obtain ⟨p1, us, rfl, h1, es⟩ := list_at m x hx
          obtain ⟨l, hl, p'⟩ := pd_opt p'
          cases es with | cons y es =>
          cases y
          have hu := ints_at es hl
          subst hu
          refine .inr ⟨p1, i :: l, rfl, h1, Nat.succ_pos _, fun z hz hm => ?_⟩
          have h2 := mostI_le l i
          have h3 := mostI_mem l i
          have h4 : z = mostI l i := by
            have h5 := hm _ h3
            rcases List.mem_cons.mp hz with e | e
            · subst e; omega
            · have := h2.2 _ e; omega
          rw [h4]
          exact pd_ok p' m (.int _)
        · exact False.elim p'
  | .int, p => by
    cases x with
    | nil => exact False.elim p
    | cons x t =>
      rename_i d _ _ _
      cases t with
      | cons _ _ => cases d <;> exact False.elim p
      | nil =>
        cases d <;> first | exact False.elim p | skip
        case bl => cases x; exact .inl (.inr ⟨_, rfl, pd_ok p m (.int _)⟩)
        case int => cases x; exact .inl (.inl ⟨_, rfl, pd_ok p m (.int _)⟩)
        case str =>
          cases x
          simp only [Bi.run] at p
          split at p
          · rename_i hz
            obtain ⟨n, hn, p⟩ := pd_opt p
            exact .inr ⟨_, n, rfl, hn, hz, pd_ok p m (.int _)⟩
          · exact False.elim p
  | .str, p => by
    cases x with
    | nil => exact False.elim p
    | cons x t =>
      rename_i d _ _ _
      cases t with
      | cons _ _ => cases d <;> exact False.elim p
      | nil =>
        cases d <;> first | exact False.elim p | skip
        cases x
        simp only [Bi.run] at p
        split at p
        · rename_i hz
          exact ⟨_, rfl, log_of hz.1, pd_ok p m (.str _ hz.2)⟩
        · exact False.elim p
  | .tuple, p => by
    cases x with
    | nil => exact False.elim p
    | cons x t =>
      cases t with
      | cons _ _ => exact False.elim p
      | nil =>
        simp only [Bi.run] at p
        obtain ⟨l, hl, p'⟩ := pd_opt p
        rename_i d _
        cases d <;> first | (cases hl; done) | skip
        case tup =>
          cases x with | tup t es' =>
          cases hl
          exact ⟨_, _, rfl, .inr ⟨t.sq, pd_ok p' m (.tup t es')⟩⟩
        case ref n =>
          cases x with | ref ha =>
          simp only [itemsOf] at hl
          split at hl
          · rename_i xs hx
            cases hl
            obtain ⟨us, h1, es⟩ := m.lst ha hx
            exact ⟨_, _, rfl, .inl ⟨SqL.of h1, pd_tup p' m es⟩⟩
          · rename_i xs hx
            cases hl
            obtain ⟨ob, us, h1, es⟩ := m.frz ha hx
            exact ⟨_, _, rfl, .inl ⟨.inl (.inr ⟨ob, h1⟩), pd_tup p' m es⟩⟩
          · cases hl
  | .list, p => by
    cases x with
    | nil => exact False.elim p
    | cons x t =>
      rename_i d _ _ _
      cases t with
      | cons _ _ => cases d <;> exact False.elim p
      | nil =>
        cases d <;> first | exact False.elim p | skip
        case tup =>
          cases x with | tup t es =>
          exact .inl ⟨_, _, rfl, .inr t.sq, pd_lst p m es⟩
        case ref n =>
          cases x with | ref ha =>
          simp only [Bi.run] at p
          split at p
          · rename_i xs hx
            obtain ⟨us, h1, es⟩ := m.lst ha hx
            exact .inl ⟨_, _, rfl, .inl (SqL.of h1), pd_lst p m es⟩
          · rename_i xs hx
            obtain ⟨ob, us, h1, es⟩ := m.frz ha hx
            exact .inl ⟨_, _, rfl, .inl (.inl (.inr ⟨ob, h1⟩)), pd_lst p m es⟩
          · rename_i xs hx
            obtain ⟨ks, ds, us, h1, h2, h3, h4, h5⟩ := m.at_ n _ _ ha hx
            subst h2
            exact .inr ⟨_, _, rfl, .inl h1, pd_lst p m (keys_rvs ks ds us h3 h5.length h4.2)⟩
          · exact False.elim p
  | .sum, p => by
    cases x with
    | nil => exact False.elim p
    | cons x t =>
      cases t with
      | cons _ _ => exact False.elim p
      | nil =>
        simp only [Bi.run] at p
        obtain ⟨l, hl, p⟩ := pd_opt p
        obtain ⟨l1, hl1, hl2⟩ := Option.bind_eq_some_iff.mp hl
        obtain ⟨p1, us, rfl, h1, es⟩ := list_at m x hl1
        have hu := ints_at es hl2
        subst hu
        exact ⟨p1, l, rfl, h1, pd_ok p m (.int _)⟩
  | .any, p => by
    cases x with
    | nil => exact False.elim p
    | cons x t =>
      cases t with
      | cons _ _ => exact False.elim p
      | nil =>
        simp only [Bi.run] at p
        obtain ⟨l, hl, p⟩ := pd_opt p
        obtain ⟨l1, hl1, hl2⟩ := Option.bind_eq_some_iff.mp hl
        obtain ⟨p1, us, rfl, h1, es⟩ := list_at m x hl1
        have hu := bools_at es hl2
        subst hu
        exact ⟨p1, l, rfl, h1, pd_ok p m (.bl _)⟩
  | .all, p => by
    cases x with
    | nil => exact False.elim p
    | cons x t =>
      cases t with
      | cons _ _ => exact False.elim p
      | nil =>
        simp only [Bi.run] at p
        obtain ⟨l, hl, p⟩ := pd_opt p
        obtain ⟨l1, hl1, hl2⟩ := Option.bind_eq_some_iff.mp hl
        obtain ⟨p1, us, rfl, h1, es⟩ := list_at m x hl1
        have hu := bools_at es hl2
        subst hu
        exact ⟨p1, l, rfl, h1, pd_ok p m (.bl _)⟩
  | .sortedset, p => by
    cases x with
    | nil => exact False.elim p
    | cons x t => rename_i d _ _ _; cases t <;> cases d <;> exact False.elim p
  | .sorted, p => by
    cases x with
    | nil => exact False.elim p
    | cons x t => rename_i d _ _ _; cases t <;> cases d <;> exact False.elim p
  | .lenset, p => by
    cases x with
    | nil => exact False.elim p
    | cons x t => rename_i d _ _ _; cases t <;> cases d <;> exact False.elim p
end
end Q

/-! stores into lists and dicts, built-in methods: mine against the layer's -/
namespace Q
open PySem PySem.Spec PyProof.Rows L2

section
variable {X : Cx} {W : Wd} {Y : WX} {σ : L2.St} {r : List Addr} {H : Hp} {hs : Hs} {Q : VK} {d e : D} {v u : V} {ds : List D} {vs : List V}

/-! ### dicts, rewritten -/
def putR (q : Key) (w : V) : List (Key × V) → List (Key × V)
  | [] => [(q, w)]
  | (a, u) :: l => if a = q then (a, w) :: l else (a, u) :: putR q w l
theorem putK_cons_ne {a q : Key} {u w : V} {l : List (Key × V)} (h : ¬ a = q) : putK ((a, u) :: l) q w = (a, u) :: putK l q w := by
  unfold putK
  simp only [List.any_cons, decide_eq_false h, Bool.false_or]
  split
  · simp [h]
  · simp
theorem map_id_of {q : Key} {w : V} : ∀ {l : List (Key × V)}, q ∉ l.map (·.1) → (l.map fun kv => if kv.1 = q then (kv.1, w) else kv) = l
  | [], _ => rfl
  | (a, u) :: l, h => by
    have h1 : ¬ a = q := fun e => h (by simp [e])
    have h2 : q ∉ l.map (·.1) := fun e => h (by simp at e ⊢; exact .inr e)
    simp only [List.map_cons, h1, if_false]
    rw [map_id_of h2]
theorem putK_R {q : Key} {w : V} : ∀ {l : List (Key × V)}, (l.map (·.1)).Nodup → putK l q w = putR q w l
  | [], _ => by simp [putK, putR]
  | (a, u) :: l, h => by
    rw [List.map_cons, List.nodup_cons] at h
    by_cases e : a = q
    · subst e
      have e1 : putK ((a, u) :: l) a w = (a, w) :: l := by
        unfold putK
        simp only [List.any_cons, decide_true, Bool.true_or, if_true, List.map_cons]
        rw [map_id_of h.1]
      rw [e1]
      simp [putR]
    · rw [putK_cons_ne e, putK_R h.2]
      simp [putR, e]
def delR (q : Key) : List (Key × V) → List (Key × V)
  | [] => []
  | (a, u) :: l => if a = q then l else (a, u) :: delR q l
theorem filter_id_of {q : Key} : ∀ {l : List (Key × V)}, q ∉ l.map (·.1) → (l.filter fun kv => decide (kv.1 ≠ q)) = l := by
  intro l h
  rw [List.filter_eq_self]
  intro kv hk
  have : kv.1 ≠ q := fun e => h (e ▸ List.mem_map_of_mem hk)
  simpa using this
theorem dropK_R {q : Key} : ∀ {l : List (Key × V)}, (l.map (·.1)).Nodup → dropK l q = delR q l
  | [], _ => rfl
  | (a, u) :: l, h => by
    rw [List.map_cons, List.nodup_cons] at h
    by_cases e : a = q
    · subst e
      unfold dropK
      rw [List.filter_cons]
      simp only [ne_eq, not_true_eq_false, decide_false, Bool.false_eq_true, if_false, delR, if_true]
      exact filter_id_of h.1
    · have h2 := dropK_R (q := q) h.2
      unfold dropK at h2 ⊢
      rw [List.filter_cons, h2]
      simp [delR, e]
theorem zip_fst {ks : List Key} : ∀ {vs : List V}, vs.length = ks.length → (ks.zip vs).map (·.1) = ks := by
  induction ks with
  | nil => intro vs _; rfl
  | cons k ks ih =>
    intro vs h
    cases vs with
    | nil => simp at h
    | cons v vs => simp only [List.zip_cons_cons, List.map_cons]; rw [ih (by simpa using h)]
theorem put_zip (q : Key) (x : Rv W r H e v) : ∀ (ks : List Key) (ds : List D) (vs : List V), ks.length = ds.length → Rvs W r H ds vs → ks.Nodup →
    ∃ (ks' : List Key) (ds' : List D) (vs' : List V), putR q v (ks.zip vs) = ks'.zip vs' ∧ dput (keyD q) e ((ks.map keyD).zip ds) = (ks'.map keyD).zip ds' ∧ ks'.length = ds'.length ∧ Rvs W r H ds' vs' ∧ ks'.Nodup ∧ (∀ k ∈ ks', k = q ∨ k ∈ ks)
  | [], ds, vs, h, t, _ => by
    cases t with
    | nil => exact ⟨[q], [e], [v], rfl, rfl, rfl, .cons x .nil, by simp, by simp⟩
    | cons _ _ => simp at h
  | k :: ks, [], _, h, _, _ => by simp at h
  | k :: ks, d :: ds, _, h, .cons (v := w) (vs := vs) y t, nd => by
    rw [List.nodup_cons] at nd
    simp only [List.zip_cons_cons, List.map_cons, putR, dput, key_deq]
    by_cases eq : k = q
    · simp only [eq, if_true, decide_true]
      exact ⟨q :: ks, e :: ds, v :: vs, rfl, rfl, by simpa using h, .cons x t, List.nodup_cons.mpr ⟨eq ▸ nd.1, nd.2⟩, fun k' hk' => by
        rcases List.mem_cons.mp hk' with e1 | e1
        · exact .inl e1
        · exact .inr (List.mem_cons_of_mem _ e1)⟩
    · obtain ⟨ks', ds', vs', h1, h2, h3, h4, h5, h6⟩ := put_zip q x ks ds vs (by simpa using h) t nd.2
      simp only [eq, if_false, decide_false, Bool.false_eq_true]
      refine ⟨k :: ks', d :: ds', w :: vs', by rw [h1]; rfl, by rw [h2]; rfl, by simp [h3], .cons y h4, List.nodup_cons.mpr ⟨fun hk => ?_, h5⟩, fun k' hk' => ?_⟩
      · rcases h6 k hk with e1 | e1
        · exact eq e1
        · exact nd.1 e1
      · rcases List.mem_cons.mp hk' with e1 | e1
        · exact .inr (e1 ▸ List.mem_cons_self)
        · rcases h6 k' e1 with e2 | e2
          · exact .inl e2
          · exact .inr (List.mem_cons_of_mem _ e2)
theorem del_zip (q : Key) : ∀ (ks : List Key) (ds : List D) (vs : List V), ks.length = ds.length → Rvs W r H ds vs → ks.Nodup →
    ∃ (ks' : List Key) (ds' : List D) (vs' : List V), delR q (ks.zip vs) = ks'.zip vs' ∧ ddel (keyD q) ((ks.map keyD).zip ds) = (ks'.map keyD).zip ds' ∧ ks'.length = ds'.length ∧ Rvs W r H ds' vs' ∧ ks'.Nodup ∧ (∀ k ∈ ks', k ∈ ks)
  | [], ds, vs, h, t, _ => ⟨[], [], [], rfl, by simp [ddel], rfl, .nil, by simp, by simp⟩
  | k :: ks, [], _, h, _, _ => by simp at h
  | k :: ks, d :: ds, _, h, .cons (v := w) (vs := vs) y t, nd => by
    rw [List.nodup_cons] at nd
    simp only [List.zip_cons_cons, List.map_cons, delR, ddel, key_deq]
    by_cases eq : k = q
    · simp only [eq, if_true, decide_true]
      exact ⟨ks, ds, vs, rfl, rfl, by simpa using h, t, nd.2, fun k' hk' => List.mem_cons_of_mem _ hk'⟩
    · obtain ⟨ks', ds', vs', h1, h2, h3, h4, h5, h6⟩ := del_zip q ks ds vs (by simpa using h) t nd.2
      simp only [eq, if_false, decide_false, Bool.false_eq_true]
      refine ⟨k :: ks', d :: ds', w :: vs', by rw [h1]; rfl, by rw [h2]; rfl, by simp [h3], .cons y h4, List.nodup_cons.mpr ⟨fun hk => nd.1 (h6 k hk), h5⟩, fun k' hk' => ?_⟩
      rcases List.mem_cons.mp hk' with e1 | e1
      · exact e1 ▸ List.mem_cons_self
      · exact List.mem_cons_of_mem _ (h6 k' e1)

/-! ### o[i] = v -/
theorem psU {a b : TSet} (h : PSet X a) (k : PSet X b) : PSet X (fun o i v H Q => a o i v H Q ∨ b o i v H Q) := by
  intro pins s σ H o i v ov iv u Q I ro ri rv q
  rcases q with q | q
  · exact h pins s σ H o i v ov iv u Q I ro ri rv q
  · exact k pins s σ H o i v ov iv u Q I ro ri rv q
def RSetD : TSet := fun o i v H Q => ∃ a H', o = .ref a ∧ DPut H a i v H' ∧ Q H'
theorem set_dic (hu : X.A.units + 1 < cLine) : PSet X RSetD := by
  intro pins s σ H o i v ov iv u Q I ro ri rv h
  obtain ⟨a, H', eo, g, q⟩ := h
  subst eo
  cases ro
  exact d_setItem hu I g ri rv fun s' I' => ⟨H', I', q⟩
abbrev RSet : TSet := fun o i v H Q => rSetL o i v H Q ∨ RSetD o i v H Q
theorem set_U (hu : X.A.units + 1 < cLine) : PSet X RSet := psU set_list (set_dic hu)
theorem dk_lt (m : Mt W r H hs) {n : Nat} {a : Addr} {kvs : List (D × D)} (ha : r[n]? = some a) (hx : hs[n]? = some (.dic false kvs)) (hl : kvs.length < SZ) (k : kOk false d = true) (x : Rv W r H d v) (y : Rv W r H e u) :
    ∃ o, DPut H a v u (upd H a o) ∧ OAt W r (upd H a o) a (.dic false (dput d e kvs)) := by
  obtain ⟨ks, ds, vs, h1, h2, h3, h4, h5⟩ := m.at_ n a _ ha hx
  obtain ⟨q, rfl, rfl⟩ := key_at k x
  have hlen : vs.length = ks.length := by rw [h5.length, h3]
  obtain ⟨ks', ds', vs', g1, g2, g3, g4, g5, g6⟩ := put_zip q y ks ds vs h3 h5 h4.1
  refine ⟨.dK (putK (ks.zip vs) q u), DPut.k h1 ?_, ?_⟩
  · have e1 : (ks.zip vs).length = kvs.length := by
      subst h2
      simp [List.length_zip, hlen, h3]
    rw [e1, sl_eq]
    exact hl
  · have e2 : putK (ks.zip vs) q u = ks'.zip vs' := by rw [putK_R (by rw [zip_fst hlen]; exact h4.1), g1]
    refine ⟨ks', ds', vs', by rw [← e2]; exact upd_same, by subst h2; exact g2, g3, ⟨g5, fun z hz => ?_⟩, g4.mono (ext_set m ha _)⟩
    rcases g6 _ hz with e3 | e3
    · subst e3
      simp only [kV] at x
      cases x with | str _ kk => exact kk
    · exact h4.2 z e3
/-! ### the same for tuples as keys -/
section
variable {κ : Type} [DecidableEq κ]
def putR' (q : κ) (w : V) : List (κ × V) → List (κ × V)
  | [] => [(q, w)]
  | (a, u) :: l => if a = q then (a, w) :: l else (a, u) :: putR' q w l
theorem putK_cons_ne' {a q : κ} {u w : V} {l : List (κ × V)} (h : ¬ a = q) : putK ((a, u) :: l) q w = (a, u) :: putK l q w := by
  unfold putK
  simp only [List.any_cons, decide_eq_false h, Bool.false_or]
  split
  · simp [h]
  · simp
theorem map_id_of' {q : κ} {w : V} : ∀ {l : List (κ × V)}, q ∉ l.map (·.1) → (l.map fun kv => if kv.1 = q then (kv.1, w) else kv) = l
  | [], _ => rfl
  | (a, u) :: l, h => by
    have h1 : ¬ a = q := fun e => h (by simp [e])
    have h2 : q ∉ l.map (·.1) := fun e => h (by simp at e ⊢; exact .inr e)
    simp only [List.map_cons, h1, if_false]
    rw [map_id_of' h2]
theorem putK_R' {q : κ} {w : V} : ∀ {l : List (κ × V)}, (l.map (·.1)).Nodup → putK l q w = putR' q w l
  | [], _ => by simp [putK, putR']
  | (a, u) :: l, h => by
    rw [List.map_cons, List.nodup_cons] at h
    by_cases e : a = q
    · subst e
      have e1 : putK ((a, u) :: l) a w = (a, w) :: l := by
        unfold putK
        simp only [List.any_cons, decide_true, Bool.true_or, if_true, List.map_cons]
        rw [map_id_of' h.1]
      rw [e1]
      simp [putR']
    · rw [putK_cons_ne' e, putK_R' h.2]
      simp [putR', e]
theorem zip_fst' {ks : List κ} : ∀ {vs : List V}, vs.length = ks.length → (ks.zip vs).map (·.1) = ks := by
  intro vs h
  rw [List.map_fst_zip]
  omega
theorem put_zip' {f : κ → D} (hf : ∀ a b, deq (f a) (f b) = decide (a = b)) (q : κ) (x : Rv W r H e v) : ∀ (ks : List κ) (ds : List D) (vs : List V), ks.length = ds.length → Rvs W r H ds vs → ks.Nodup →
    ∃ (ks' : List κ) (ds' : List D) (vs' : List V), putR' q v (ks.zip vs) = ks'.zip vs' ∧ dput (f q) e ((ks.map f).zip ds) = (ks'.map f).zip ds' ∧ ks'.length = ds'.length ∧ Rvs W r H ds' vs' ∧ ks'.Nodup ∧ (∀ k ∈ ks', k = q ∨ k ∈ ks)
  | [], ds, vs, h, t, _ => by
    cases t with
    | nil => exact ⟨[q], [e], [v], rfl, rfl, rfl, .cons x .nil, by simp, by simp⟩
    | cons _ _ => simp at h
  | k :: ks, [], _, h, _, _ => by simp at h
  | k :: ks, d :: ds, _, h, .cons (v := w) (vs := vs) y t, nd => by
    rw [List.nodup_cons] at nd
    simp only [List.zip_cons_cons, List.map_cons, putR', dput, hf]
    by_cases eq : k = q
    · simp only [eq, if_true, decide_true]
      exact ⟨q :: ks, e :: ds, v :: vs, rfl, rfl, by simpa using h, .cons x t, List.nodup_cons.mpr ⟨eq ▸ nd.1, nd.2⟩, fun k' hk' => by
        rcases List.mem_cons.mp hk' with e1 | e1
        · exact .inl e1
        · exact .inr (List.mem_cons_of_mem _ e1)⟩
    · obtain ⟨ks', ds', vs', h1, h2, h3, h4, h5, h6⟩ := put_zip' hf q x ks ds vs (by simpa using h) t nd.2
      simp only [eq, if_false, decide_false, Bool.false_eq_true]
      refine ⟨k :: ks', d :: ds', w :: vs', by rw [h1]; rfl, by rw [h2]; rfl, by simp [h3], .cons y h4, List.nodup_cons.mpr ⟨fun hk => ?_, h5⟩, fun k' hk' => ?_⟩
      · rcases h6 k hk with e1 | e1
        · exact eq e1
        · exact nd.1 e1
      · rcases List.mem_cons.mp hk' with e1 | e1
        · exact .inr (e1 ▸ List.mem_cons_self)
        · rcases h6 k' e1 with e2 | e2
          · exact .inl e2
          · exact .inr (List.mem_cons_of_mem _ e2)
end
theorem dt_lt (m : Mt W r H hs) {n : Nat} {a : Addr} {kvs : List (D × D)} (ha : r[n]? = some a) (hx : hs[n]? = some (.dic true kvs)) (hl : kvs.length < SZ) (k : kOk true d = true) (x : Rv W r H d v) (y : Rv W r H e u) :
    ∃ o, DPut H a v u (upd H a o) ∧ OAt W r (upd H a o) a (.dic true (dput d e kvs)) := by
  obtain ⟨ks, ds, vs, h1, h2, h3, h4, h5⟩ := m.at_ n a _ ha hx
  obtain ⟨q, b, rfl, rfl, hb⟩ := tkey_at k x
  have hlen : vs.length = ks.length := by rw [h5.length, h3]
  obtain ⟨ks', ds', vs', g1, g2, g3, g4, g5, g6⟩ := put_zip' (f := fun k : List Key => D.tup (k.map keyD)) tkey_deq q y ks ds vs h3 h5 h4
  refine ⟨.dT (putK (ks.zip vs) q u), DPut.t h1 hb ?_, ?_⟩
  · have e1 : (ks.zip vs).length = kvs.length := by
      subst h2
      simp [List.length_zip, hlen, h3]
    rw [e1, sl_eq]
    exact hl
  · have e2 : putK (ks.zip vs) q u = ks'.zip vs' := by rw [putK_R' (by rw [zip_fst' hlen]; exact h4), g1]
    exact ⟨ks', ds', vs', by rw [← e2]; exact upd_same, by subst h2; exact g2, g3, g5, g4.mono (ext_set m ha _)⟩
theorem q_set (m : Mt W r H hs) {d1 d2 d3 : D} {v1 v2 v3 : V} (x : Rv W r H d1 v1) (y : Rv W r H d2 v2) (z : Rv W r H d3 v3) {hs' : Hs} (h : setI d1 d2 d3 hs = some hs') {P : Hp → Prop}
    (p : ∀ H', Ext r H r H' → Mt W r H' hs' → P H') : RSet v1 v2 v3 H P := by
  cases d1 <;> first | (cases h; done) | skip
  case ref n =>
    cases x with | ref ha =>
    simp only [setI] at h
    split at h
    · rename_i _ _ xs i hx
      cases y
      obtain ⟨vs, h1, es⟩ := m.lst ha hx
      cases q : ixN xs.length i with
      | none => rw [q] at h; cases h
      | some j =>
        rw [q] at h
        cases h
        refine .inl ⟨_, vs, i, j, rfl, rfl, h1, by rw [es.length]; exact q, p _ (ext_set m ha _) (m.set ha (set_lst m ha (es.set z j)))⟩
    · rename_i t kvs hx
      split at h
      · rename_i hk
        cases h
        cases t with
        | true =>
          obtain ⟨o, g1, g2⟩ := dt_lt m ha hx hk.2 hk.1 y z
          exact .inr ⟨_, _, rfl, g1, p _ (ext_set m ha _) (m.set ha g2)⟩
        | false =>
          obtain ⟨o, g1, g2⟩ := dk_lt m ha hx hk.2 hk.1 y z
          exact .inr ⟨_, _, rfl, g1, p _ (ext_set m ha _) (m.set ha g2)⟩
      · cases h
    · cases h

/-! ### built-in methods -/
abbrev RM := V → List V → Hp → VK → Prop
abbrev RInsert : RM := fun x vs H Q => ∃ (l : Addr) (xs : List V) (i : Int) (y : V), x = .ref l ∧ vs = [.int i, y] ∧ H l = some (.lst xs) ∧ xs.length < sizeLine ∧ 0 ≤ i ∧ i < 2 ^ 63 ∧ Q .non (upd H l (.lst (xs.take i.toNat ++ [y] ++ xs.drop i.toNat)))
abbrev RSplit : RM := fun x xs H Q => ∃ a b, x = .str a ∧ xs = [.str b] ∧ (b.length == 0) = false ∧ a.length + 2 ≤ sizeLine ∧ rNewStrs (Txt.split a b) H Q
abbrev RJoin (K : PySem.W.Frag) : RM := fun x xs H Q => ∃ a p, ∃ ys : List Str, x = .str a ∧ xs = [.ref p] ∧ (SqL K H p (ys.map V.str) ∨ SqT K H p (ys.map V.str)) ∧ (ys.map (·.length)).sum + ys.length * a.length ≤ 16777216 ∧ Q (.str (Txt.join a ys)) H
def RDget : RM := fun x xs H Q => ∃ a y d o, x = .ref a ∧ xs = [y, d] ∧ DGet H a y o ∧ Q (o.getD d) H
def RDpop : RM := fun x xs H Q => ∃ a kvs k v, x = .ref a ∧ xs = [kV k] ∧ H a = some (.dK kvs) ∧ valV kvs k = some v ∧ Q v (upd H a (.dK (dropK kvs k)))
def RCount (K : PySem.W.Frag) : RM := fun x xs H Q => ∃ (a : Addr) (ys : List V) (y : V) (d : PyData) (ds : List PyData), x = V.ref a ∧ xs = [y] ∧ SqL K H a ys ∧ DpAll K H ys ds ∧ Dp K H y d ∧ PyData.canLayAll0 ds = true ∧ d.canLay0 = true ∧ min (PyData.depthAll ds) d.depth ≤ 150 ∧
  Q (.int (ds.countP fun z => PyData.eqv z d : Nat)) H
def RBm (K : PySem.W.Frag) : Bm → RM
  | .append => rAppend
  | .extend => rExtend
  | .insert => RInsert
  | .pop => rPop
  | .popAt => rPopAt
  | .clear => rClear
  | .count => RCount K
  | .index => rIndexD K
  | .split => RSplit
  | .join => RJoin K
  | .get => RDget
  | .dpop => RDpop
  | .indexFrom => fun _ _ _ _ => False
def Rk.ty : Rk → String
  | .s => "str"
  | .d => "dict"
  | .l => "list"
def Bm.ty (m : Bm) : String := m.rk.ty
def Bm.name : Bm → String
  | .append => "append"
  | .extend => "extend"
  | .insert => "insert"
  | .pop | .popAt | .dpop => "pop"
  | .clear => "clear"
  | .count => "count"
  | .index | .indexFrom => "index"
  | .split => "split"
  | .join => "join"
  | .get => "get"
def Bm.id : Bm → String
  | .append => "list.append"
  | .extend => "list.extend"
  | .insert => "list.insert"
  | .pop => "list.pop"
  | .popAt => "list.pop"
  | .clear => "list.clear"
  | .count => "list.count"
  | .index => "list.index"
  | .split => "str.split"
  | .join => "str.join"
  | .get => "dict.get"
  | .dpop => "dict.pop"
  | .indexFrom => "list.index"
theorem mt_dget (hu : X.A.units + 1 < cLine) : MtR X "dict.get" RDget := by
  intro pins s σ H x xs v us Q I rx rxs h
  obtain ⟨a, y, d, o, rfl, rfl, g, q⟩ := h
  cases rx
  obtain ⟨u1, u2, rfl, r1, r2⟩ := rxs.two
  exact d_get2 hu I g r1 r2 fun w' s' I' rw' => ⟨_, H, I', rw', q⟩
theorem mt_dpop : MtR X "dict.pop" RDpop := by
  intro pins s σ H x xs v us Q I rx rxs h
  obtain ⟨a, kvs, k, w, rfl, rfl, hh, hv, q⟩ := h
  cases rx
  obtain ⟨u1, rfl, r1⟩ := rxs.one
  exact d_pop I hh r1 hv (.inl rfl) fun w' s' I' rw' => ⟨_, _, I', rw', q⟩
theorem mt_countD (hu : X.A.units + 152 < cLine) : MtR X "list.count" (RCount X.K) := by
  intro pins s σ H x xs v us Q I rx rxs h
  obtain ⟨a, ys, y, d, ds, rfl, rfl, hs, ha, hy, c1, c2, dd, q⟩ := h
  cases rx
  obtain ⟨u1, rfl, ry⟩ := rxs.one
  obtain ⟨bs, r1⟩ := Dp.reads I d y u1 hy ry
  obtain ⟨its, rv, ⟨⟨cls, d0, data, sls⟩, n, ho, hc, hdn, hdt⟩, hlen⟩ := I.list hs
  simp only at hc hdt
  subst hc hdt
  obtain ⟨as, h4⟩ := Dp.readsAll I ds _ its ha rv
  have hmap : its.map (SeqAt.readOf s.heap) = ds := SeqAt.readsAll_map ds its as c1 h4
  refine call_meets PySem.F.slot_list_count ⟨_, ho, rfl⟩ PySem.F.entry_list_count (PySem.F.args_list_count_2 _ _)
    (SeqAt.list_countAt a its.toArray n d0 sls u1 (fun u => PyData.eqv (SeqAt.readOf s.heap u) d)) ⟨ho, SeqAt.items_eqAt (vs := its.toArray) (show ReadsAll s.heap its.toArray.toList ds as from h4) r1 c1 c2 (by omega), ?_⟩
  have e : its.toArray.toList.countP (fun u => (SeqAt.readOf s.heap u).eqv d) = ds.countP fun z => PyData.eqv z d := by
    rw [← hmap, List.countP_map]
    rfl
  rw [e]
  exact ⟨.int (ds.countP fun z => PyData.eqv z d : Nat), H, I.tok _, ⟨_, rfl⟩, q⟩
theorem mt_bm (hu : X.A.units + 152 < cLine) : ∀ m : Bm, MtR X m.id (RBm X.K m)
  | .append => mt_append
  | .extend => mt_extend
  | .insert => mt_insert
  | .pop => mt_pop
  | .popAt => mt_popAt
  | .clear => mt_clear
  | .count => mt_countD hu
  | .index => mt_indexD (by omega)
  | .split => mt_split
  | .join => mt_join
  | .get => mt_dget (by omega)
  | .dpop => mt_dpop
  | .indexFrom => fun _ _ _ _ _ _ _ _ _ _ _ _ h => h.elim
theorem bm_slot : ∀ m : Bm, PlainAttrs m.ty ∧ Slot m.ty (Str.ofString m.name) m.id ∧ typeOf (.builtin m.id) = pure (.type "method_descriptor")
  | .append => ⟨F.plainAttrs_list, F.slot_list_append, F.type_list_append⟩
  | .extend => ⟨F.plainAttrs_list, F.slot_list_extend, F.type_list_extend⟩
  | .insert => ⟨F.plainAttrs_list, F.slot_list_insert, F.type_list_insert⟩
  | .pop => ⟨F.plainAttrs_list, F.slot_list_pop, F.type_list_pop⟩
  | .popAt => ⟨F.plainAttrs_list, F.slot_list_pop, F.type_list_pop⟩
  | .clear => ⟨F.plainAttrs_list, F.slot_list_clear, F.type_list_clear⟩
  | .count => ⟨F.plainAttrs_list, F.slot_list_count, F.type_list_count⟩
  | .index => ⟨F.plainAttrs_list, F.slot_list_index, F.type_list_index⟩
  | .split => ⟨F.plainAttrs_str, F.slot_str_split, F.type_str_split⟩
  | .join => ⟨F.plainAttrs_str, F.slot_str_join, F.type_str_join⟩
  | .get => ⟨F.plainAttrs_dict, F.slot_dict_get, F.type_dict_get⟩
  | .dpop => ⟨F.plainAttrs_dict, F.slot_dict_pop, F.type_dict_pop⟩
  | .indexFrom => ⟨F.plainAttrs_list, F.slot_list_index, F.type_list_index⟩
theorem rsFs_len {f : Nat → Option D} : ∀ {xs ys : List D}, rsFs f xs = some ys → ys.length = xs.length
  | [], _, h => by cases h; rfl
  | x :: xs, ys, h => by
    simp only [rsFs] at h
    split at h
    · rename_i a b h1 h2
      cases h
      simp [rsFs_len h2]
    · cases h
theorem toPs_map : ∀ ys : List D, toPs ys = ys.map toP
  | [] => rfl
  | y :: ys => by rw [toPs, toPs_map ys]; rfl
theorem purs_mem : ∀ {ys : List D} {y : D}, purs ys = true → y ∈ ys → pur y = true
  | [], _, _, h => nomatch h
  | x :: xs, y, h, k => by
    simp only [purs, Bool.and_eq_true] at h
    rcases List.mem_cons.mp k with e | e
    · subst e; exact h.1
    · exact purs_mem h.2 e
/-- a list read as data -/
theorem rdN_lst (m : Mt W r H hs) {n : Nat} {a : Addr} {ys : List D} (ha : r[n]? = some a) (h : rdN hs 7 n = some (.lv ys)) : ∃ us, SqL W.K H a us ∧ Gds W.K H us ys := by
  unfold rdN at h
  split at h
  · rename_i xs hx
    obtain ⟨vs, h1, h2⟩ := m.lst ha hx
    cases q : rsFs (rdN hs 6) xs with
    | none => rw [q] at h; cases h
    | some ys =>
      rw [q] at h
      cases h
      exact ⟨vs, SqL.of h1, rs_gds (rdN_gd m 6) h2 q⟩
  · rename_i xs hx
    obtain ⟨ob, vs, h1, h2⟩ := m.frz ha hx
    cases q : rsFs (rdN hs 6) xs with
    | none => rw [q] at h; cases h
    | some ys =>
      rw [q] at h
      cases h
      exact ⟨vs, .inl (.inr ⟨ob, h1⟩), rs_gds (rdN_gd m 6) h2 q⟩
  · cases h
theorem rvs_strs : ∀ {l : List Str}, (l.all PyData.strOk) = true → Rvs W r H (l.map .str) (l.map V.str)
  | [], _ => .nil
  | x :: l, h => by
    rw [List.all_cons, Bool.and_eq_true] at h
    exact .cons (.str x h.1) (rvs_strs h.2)
theorem tyL {p : Addr} {us : List V} {K : PySem.W.Frag} (h : SqL K H p us) : tyV K "list" (.ref p) H := .inl ⟨rfl, us, h⟩
theorem q_bm_ty (m : Mt W r H hs) (x : Rv W r H d v) (f : Bm) (h : bmK f d hs = true) : tyV W.K f.ty v H := by
  cases d <;> first | (cases h; done) | skip
  case str =>
    cases x
    simp only [bmK, beq_iff_eq] at h
    show f.ty = "str"
    rw [Bm.ty, h]; rfl
  case ref n =>
    cases x with | ref ha =>
    simp only [bmK] at h
    split at h
    · rename_i xs hx
      obtain ⟨vs, h1, _⟩ := m.lst ha hx
      rw [beq_iff_eq] at h
      rw [Bm.ty, h]
      exact tyL (SqL.of h1)
    · rename_i xs hx
      obtain ⟨ob, vs, h1, _⟩ := m.frz ha hx
      rw [beq_iff_eq] at h
      rw [Bm.ty, h]
      exact tyL (.inl (.inr ⟨ob, h1⟩))
    · rename_i t kvs hx
      rw [beq_iff_eq] at h
      rw [Bm.ty, h]
      cases t with
      | false =>
        obtain ⟨ks, ds, vs, h1, _⟩ := m.at_ n _ _ ha hx
        exact .inr (.inr (.inl ⟨rfl, .inl ⟨_, h1⟩⟩))
      | true =>
        obtain ⟨ks, ds, vs, h1, _⟩ := m.at_ n _ _ ha hx
        exact .inr (.inr (.inl ⟨rfl, .inr ⟨_, h1⟩⟩))
    · cases h
theorem rvs0 (x : Rvs W r H [] vs) : vs = [] := by cases x; rfl
theorem rvs1 {a : D} (x : Rvs W r H [a] vs) : ∃ u, vs = [u] ∧ Rv W r H a u := by
  cases x with | cons h t => cases t; exact ⟨_, rfl, h⟩
theorem rvs2 {a b : D} (x : Rvs W r H [a, b] vs) : ∃ u w, vs = [u, w] ∧ Rv W r H a u ∧ Rv W r H b w := by
  cases x with | cons h t => cases t with | cons h2 t2 => cases t2; exact ⟨_, _, rfl, h, h2⟩
theorem data_one (m : Mt W r H hs) {n : Nat} {a : Addr} {ys : List D} {x : D} (ha : r[n]? = some a) (h : rdN hs 7 n = some (.lv ys)) (xd : Rv W r H d v) (hx : rsv hs d = some x) :
    ∃ us, SqL W.K H a us ∧ DpAll W.K H us (toPs ys) ∧ PyData.canLayAll0 (toPs ys) = true ∧ Dp W.K H v (toP x) ∧ (toP x).canLay0 = true ∧ ∀ y ∈ ys, deq y x = PyData.eqv (toP y) (toP x) := by
  obtain ⟨us, h1, g⟩ := rdN_lst m ha h
  have gx := rsv_gd m xd hx
  exact ⟨us, h1, g.dp, g.can, gx.dp, gx.can, fun y hy => deq_toP y x (purs_mem g.pu hy) gx.pu⟩
theorem q_bm (m : Mt W r H hs) (x : Rv W r H d v) (xs : Rvs W r H ds vs) : ∀ f : Bm, PD W Y σ r H (f.run d ds hs) Q → RBm W.K f v vs H Q
  | .append, p => by
    cases d <;> first | exact False.elim p | skip
    rcases ds with _ | ⟨a, _ | ⟨b, ds⟩⟩ <;> first | exact False.elim p | skip
    obtain ⟨u, rfl, ru⟩ := rvs1 xs
    cases x with | ref ha =>
    simp only [Bm.run] at p
    split at p
    · rename_i l hx
      split at p
      · rename_i hz
        obtain ⟨us, h1, es⟩ := m.lst ha hx
        exact ⟨_, us, u, rfl, rfl, h1, by rw [sl_eq, es.length]; exact hz, pd_set p m ha (set_lst m ha (es.append (.cons ru .nil))) .non⟩
      · exact False.elim p
    · exact False.elim p
  | .extend, p => by
    cases d <;> first | exact False.elim p | skip
    rcases ds with _ | ⟨a, _ | ⟨b, ds⟩⟩ <;> first | exact False.elim p | skip
    · cases a <;> first | exact False.elim p | skip
      obtain ⟨u, rfl, ru⟩ := rvs1 xs
      cases x with | ref ha =>
      cases ru with | ref hb =>
      simp only [Bm.run] at p
      split at p
      · rename_i l l2 hx hy
        split at p
        · rename_i hz
          obtain ⟨us, h1, es⟩ := m.lst ha hx
          obtain ⟨us2, h2, es2⟩ := m.lst hb hy
          exact ⟨_, _, us, us2, rfl, rfl, h1, h2, by rw [sl_eq, es.length, es2.length]; exact hz, pd_set p m ha (set_lst m ha (es.append es2)) .non⟩
        · exact False.elim p
      · exact False.elim p
    · cases a <;> exact False.elim p
  | .insert, p => by
    cases d <;> first | exact False.elim p | skip
    rcases ds with _ | ⟨a, _ | ⟨b, _ | ⟨c, ds⟩⟩⟩ <;> first | exact False.elim p | (cases a <;> exact False.elim p) | skip
    cases a <;> first | exact False.elim p | skip
    obtain ⟨u, w, rfl, ru, rw'⟩ := rvs2 xs
    cases x with | ref ha =>
    cases ru
    simp only [Bm.run] at p
    split at p
    · rename_i l hx
      split at p
      · rename_i hz
        obtain ⟨us, h1, es⟩ := m.lst ha hx
        have h63 : SZ < 2 ^ 63 := by decide
        refine ⟨_, us, _, w, rfl, rfl, h1, by rw [sl_eq, es.length]; exact hz.2.2, hz.1, ?_, ?_⟩
        · have h2 := hz.2.1
          have h3 := hz.2.2
          have h4 : ((SZ : Nat) : Int) < 2 ^ 63 := by decide
          omega
        · rw [List.append_assoc]
          exact pd_set p m ha (set_lst m ha ((es.take _).append (.cons rw' (es.drop _)))) .non
      · exact False.elim p
    · exact False.elim p
  | .pop, p => by
    cases d <;> first | exact False.elim p | skip
    rcases ds with _ | ⟨a, ds⟩ <;> first | exact False.elim p | skip
    have e0 := rvs0 xs
    subst e0
    cases x with | ref ha =>
    simp only [Bm.run] at p
    split at p
    · rename_i l hx
      split at p
      · rename_i y hz
        obtain ⟨us, h1, es⟩ := m.lst ha hx
        obtain ⟨w, hw, rw'⟩ := es.get hz
        exact ⟨_, us, w, rfl, rfl, h1, by rw [es.length]; exact hw, pd_set p m ha (set_lst m ha es.dropLast) (rw'.mono (ext_set m ha _))⟩
      · exact False.elim p
    · exact False.elim p
  | .popAt, p => by
    cases d <;> first | exact False.elim p | skip
    rcases ds with _ | ⟨a, _ | ⟨b, ds⟩⟩ <;> first | exact False.elim p | (cases a <;> exact False.elim p) | skip
    cases a <;> first | exact False.elim p | skip
    obtain ⟨u, rfl, ru⟩ := rvs1 xs
    cases x with | ref ha =>
    cases ru
    simp only [Bm.run] at p
    split at p
    · rename_i y l hx
      split at p
      · rename_i hz
        subst hz
        obtain ⟨us, h1, es⟩ := m.lst ha hx
        cases es with | cons ry es =>
        rename_i w us
        exact ⟨_, _, 0, 0, w, rfl, rfl, h1, by decide, by decide, by simp [seqIndex?], rfl, pd_set p m ha (set_lst m ha es) (ry.mono (ext_set m ha _))⟩
      · exact False.elim p
    · exact False.elim p
  | .clear, p => by
    cases d <;> first | exact False.elim p | skip
    rcases ds with _ | ⟨a, ds⟩ <;> first | exact False.elim p | skip
    have e0 := rvs0 xs
    subst e0
    cases x with | ref ha =>
    simp only [Bm.run] at p
    split at p
    · rename_i l hx
      obtain ⟨us, h1, es⟩ := m.lst ha hx
      exact ⟨_, us, rfl, rfl, h1, pd_set p m ha (set_lst m ha .nil) .non⟩
    · exact False.elim p
  | .count, p => by
    cases d <;> first | exact False.elim p | skip
    rcases ds with _ | ⟨a, _ | ⟨b, ds⟩⟩ <;> first | exact False.elim p | skip
    obtain ⟨u, rfl, ru⟩ := rvs1 xs
    cases x with | ref ha =>
    simp only [Bm.run] at p
    split at p
    · rename_i ys x' h1 h2
      split at p
      · rename_i hz
        obtain ⟨us, g1, g2, g3, g4, g5, g6⟩ := data_one m ha h1 ru h2
        refine ⟨_, us, u, _, _, rfl, rfl, g1, g2, g4, g3, g5, by rw [ddep_toP, ddeps_toP]; omega, ?_⟩
        have e : (toPs ys).countP (fun z => PyData.eqv z (toP x')) = ys.countP fun y => deq y x' := by
          rw [toPs_map, List.countP_map]
          exact List.countP_congr fun y hy => by rw [Function.comp, g6 y hy]
        rw [e]
        exact pd_ok p m (.int _)
      · exact False.elim p
    · exact False.elim p
  | .index, p => by
    cases d <;> first | exact False.elim p | skip
    rcases ds with _ | ⟨a, _ | ⟨b, ds⟩⟩ <;> first | exact False.elim p | skip
    obtain ⟨u, rfl, ru⟩ := rvs1 xs
    cases x with | ref ha =>
    simp only [Bm.run] at p
    split at p
    · rename_i ys x' h1 h2
      split at p
      · rename_i hz
        obtain ⟨us, g1, g2, g3, g4, g5, g6⟩ := data_one m ha h1 ru h2
        obtain ⟨j, hj, p⟩ := pd_opt p
        obtain ⟨k1, k2, k3⟩ := List.findIdx?_eq_some_iff_getElem.mp hj
        refine ⟨_, u, _, _, j, toP ys[j], rfl, rfl, .lst g1 g2, g4, ?_, ?_, ?_, ?_, ?_, pd_ok p m (.int _)⟩
        · unfold SeqAt.shaped
          rw [Bool.and_eq_true]
          exact ⟨by simpa [PyData.canLay0] using g3, decide_eq_true (by simp only [PyData.depth]; rw [ddeps_toP]; omega)⟩
        · unfold SeqAt.shaped
          rw [Bool.and_eq_true]
          exact ⟨g5, decide_eq_true (by rw [ddep_toP]; omega)⟩
        · rw [toPs_map, List.getElem?_map, List.getElem?_eq_getElem k1]; rfl
        · rw [← g6 _ (List.getElem_mem k1)]; exact k2
        · intro i z hi hz'
          rw [toPs_map, List.getElem?_map, List.getElem?_eq_getElem (by omega)] at hz'
          cases hz'
          rw [← g6 _ (List.getElem_mem _)]
          simpa using k3 i hi
      · exact False.elim p
    · exact False.elim p
  | .split, p => by
    cases d <;> first | exact False.elim p | skip
    rcases ds with _ | ⟨a, _ | ⟨b, ds⟩⟩ <;> first | exact False.elim p | (cases a <;> exact False.elim p) | skip
    cases a <;> first | exact False.elim p | skip
    obtain ⟨u, rfl, ru⟩ := rvs1 xs
    cases x
    cases ru
    simp only [Bm.run] at p
    split at p
    · rename_i hz
      exact ⟨_, _, rfl, rfl, by simpa using hz.1, by rw [sl_eq]; exact hz.2.1, pd_lst p m (rvs_strs hz.2.2)⟩
    · exact False.elim p
  | .join, p => by
    cases d <;> first | exact False.elim p | skip
    rcases ds with _ | ⟨a, _ | ⟨b, ds⟩⟩ <;> first | exact False.elim p | skip
    obtain ⟨u, rfl, ru⟩ := rvs1 xs
    cases x
    simp only [Bm.run] at p
    split at p
    · rename_i l hl
      split at p
      · rename_i hz
        obtain ⟨l1, e1, e2⟩ := Option.bind_eq_some_iff.mp hl
        obtain ⟨q, us, rfl, h1, es⟩ := items_at m ru e1
        have hu := strs_at es e2
        subst hu
        exact ⟨_, _, l, rfl, rfl, h1, hz.1, pd_ok p m (.str _ hz.2)⟩
      · exact False.elim p
    · exact False.elim p
  | .get, p => by
    cases d <;> first | exact False.elim p | skip
    rcases ds with _ | ⟨a, _ | ⟨b, _ | ⟨c, ds⟩⟩⟩ <;> first | exact False.elim p | skip
    obtain ⟨u, w, rfl, ru, rw'⟩ := rvs2 xs
    cases x with | ref ha =>
    simp only [Bm.run] at p
    split at p
    · rename_i t kvs hx
      split at p
      · rename_i hk
        have hd := dic_get m ha hx ru hk
        split at hd
        · rename_i e he
          obtain ⟨w2, g1, g2⟩ := hd
          refine ⟨_, _, _, _, rfl, rfl, g1, ?_⟩
          rw [he] at p
          exact pd_ok p m g2
        · rename_i he
          refine ⟨_, _, _, _, rfl, rfl, hd, ?_⟩
          rw [he] at p
          exact pd_ok p m rw'
      · exact False.elim p
    · exact False.elim p
  | .dpop, p => by
    cases d <;> first | exact False.elim p | skip
    rcases ds with _ | ⟨a, _ | ⟨b, ds⟩⟩ <;> first | exact False.elim p | skip
    obtain ⟨u, rfl, ru⟩ := rvs1 xs
    cases x with | ref ha =>
    simp only [Bm.run] at p
    split at p
    · rename_i kvs hx
      split at p
      · rename_i hk
        split at p
        · rename_i y hy
          obtain ⟨ks, ds, vs, h1, h2, h3, h4, h5⟩ := m.at_ _ _ _ ha hx
          obtain ⟨q, rfl, rfl⟩ := key_at hk ru
          have hlen : vs.length = ks.length := by rw [h5.length, h3]
          have hd := dlook_val q ks ds vs h3 h5
          rw [← h2, hy] at hd
          obtain ⟨w, hw, rw'⟩ := hd
          obtain ⟨ks', ds', vs', g1, g2, g3, g4, g5, g6⟩ := del_zip q ks ds vs h3 h5 h4.1
          have e2 : dropK (ks.zip vs) q = ks'.zip vs' := by rw [dropK_R (by rw [zip_fst hlen]; exact h4.1), g1]
          refine ⟨_, _, q, w, rfl, rfl, h1, hw, pd_set p m ha ⟨ks', ds', vs', by rw [← e2]; exact upd_same, by subst h2; exact g2, g3, ⟨g5, fun z hz => h4.2 z (g6 _ hz)⟩, g4.mono (ext_set m ha _)⟩ (rw'.mono (ext_set m ha _))⟩
        · exact False.elim p
      · exact False.elim p
    · exact False.elim p
  | .indexFrom, p => by
    cases d <;> exact False.elim p
end
end Q

/-! isinstance: mine against the layer's -/
namespace Q
open PySem PySem.Spec PyProof.Rows L2

/-! ### an exception that is kept: its class -/
section
variable {prog : Program} {w : World} {A : Around} {E : Value → Shared → Prop} {s : Shared} {K : PySem.W.Frag} {x D : Addr}
/-- x is a thing of the class at D -/
def IsAt (x D : Addr) (h : Heap) : Prop := ∃ (ox : Obj) (od : Option Obj), PySem.W.InstAt h x ox D od
theorem find_cls {od : Option Obj} (c : ExcC K D) : PySem.W.findObj K D od "__class__" = some (.bind (.builtin "getset_descriptor.__get__") (.builtin "object.__class__")) := by
  obtain ⟨cd, hc, _⟩ := PySem.W.any_some c.hd
  unfold PySem.W.findObj
  have e1 : PySem.W.clsIn K D = some cd := hc
  rw [e1]
  simp only [Option.bind_some, c.ha, c.hn, c.ht]
theorem exc_cls {Q : Option Value → Shared → Prop} (c : ExcC K D) (X : K.In s.heap) (I : IsAt x D s.heap) (h : Q (some (.ref D)) { s with toks := s.toks + 1 }) : wpAny (model prog w) A (getAttr? (.ref x) "__class__") Q E s := by
  obtain ⟨ox, od, I⟩ := I
  obtain ⟨hp, g, dr, t, os⟩ := s
  have Lt := I.type (M := model prog w)
  have La := PySem.W.looks_findIn (M := model prog w) X c.hg
  have Lb := PySem.W.looks_findIn (M := model prog w) X c.hk
  have Lc := PySem.W.looks_find (M := model prog w) X I (find_cls c)
  have Ls : PySem.W.Looks (model prog w) hp (isInstance (.ref x) (.type "BaseException")) true := Lt.andThen (PySem.W.looks_subIn X c.hs)
  have n0 : (false && onTheHeap (Value.builtin "BaseException.__getattribute__")) = false := rfl
  have n1 : (Value.builtin "BaseException.__getattribute__" == Value.builtin "object.__getattribute__") = false := by decide +kernel
  have n2 : (onTheHeap (Value.ref D) && Value.builtin "BaseException.__getattribute__" == Value.builtin "object.__getattribute__") = false := by rw [n1]; rfl
  unfold getAttr? getAttrBy? getAttrBy
  refine wpAny_bind (wpAny_mkText (wpAny_bind (wpAny_attempt (wpAny_holding (wpAny_bind (Lt.at (wpAny_bind (La.at ?_))))))))
  show wpAny _ _ (if (onTheHeap (Value.ref D) && Value.builtin "BaseException.__getattribute__" == Value.builtin "object.__getattribute__") = true then _ else _) _ _ _
  rw [n2, if_neg Bool.false_ne_true]
  unfold getAttrByItsOwn hookBefore
  refine wpAny_bind ?_
  rw [if_pos (show onTheHeap (Value.ref D) = true from rfl)]
  refine Lb.at (wpAny_bind (wpAny_attempt (wpAny_holding ?_)))
  unfold callGetattribute
  rw [n0, if_neg Bool.false_ne_true]
  unfold boundAndCalled
  rw [PySem.F.excAttr_ValueError.ga.bind (.ref x)]
  refine wpAny_bind (wpAny_pure ?_)
  show wpAny _ _ (PySem.call (.builtin "BaseException.__getattribute__") [.ref x, .str "__class__" t]) _ _ _
  refine wpAny_call (codeAny_call_builtin PySem.F.excAttr_ValueError.ga.plain PySem.F.entry_bexc_ga ?_)
  refine @PySem.W.check_slot (model prog w) _ _ ⟨hp, g, dr, t + 1, os⟩ "BaseException.__getattribute__" "BaseException" "__getattribute__" (.ref x) [.str "__class__" t] [] _ (by decide +kernel) (by decide +kernel) Ls (PySem.F.args_bexc_ga (.ref x) (.str "__class__" t)) ?_
  unfold Builtin.«object.__getattribute__»
  refine wpAny_bind (wpAny_of_eq (a := ((Value.ref x : Value), [Value.str "__class__" t])) (by first | rfl | (simp only [slotArgs]; rfl)) ?_)
  refine wpAny_bind (wpAny_pure (wpAny_bind (Lt.at (wpAny_bind (Lc.at ?_)))))
  show wpAny _ _ (holding [Value.builtin "object.__class__"] (PySem.call (.builtin "getset_descriptor.__get__") [.builtin "object.__class__", .ref x, .ref D]) >>= ret) _ _ _
  refine wpAny_bind (wpAny_holding (wpAny_call (PySem.W.class_get (s := ⟨hp, g, dr, t + 1, os⟩) (ox := ox) (od := od) X I c.hm ?_)))
  refine wpAny_pure ?_
  show wpAny _ _ (handedOut (.ref D)) _ _ _
  rw [PySem.W.handedOut_of (v := .ref D) rfl]
  first
    | exact wpAny_pure (wpAny_pure h)
    | exact wpAny_pure h
    | exact wpAny_pure (wpAny_bind (wpAny_pure (wpAny_pure h)))
theorem kit_exc (c : ExcC K D) : PySem.W.KitX K (.ref x) (.ref D) (IsAt x D) := by
  obtain ⟨cd, hc, _⟩ := PySem.W.any_some c.hd
  have ⟨o, ho, hcd⟩ : ∃ o : Obj, K.lookup D = some o ∧ ∃ q, o.data = .cls q := by
    have e1 : PySem.W.clsIn K D = some cd := hc
    unfold PySem.W.clsIn at e1
    split at e1
    · rename_i a b q d ho
      exact ⟨_, ho, _, rfl⟩
    · cases e1
  obtain ⟨oc, od, oda, osl⟩ := o
  obtain ⟨q, hq⟩ := hcd
  simp only at hq
  subst hq
  refine ⟨fun _ _ _ ⟨_, _, I⟩ => I.type, fun M h X _ => ?_, fun h tp dd its n sl X e => ?_, fun X I k => exc_cls c X I k⟩
  · intro A' Q' E' s' k p
    unfold isType loadHead
    exact wpAny_bind (wpAny_loadPart (k _ _ (X _ _ ho)) (wpAny_pure p))
  · refine Bool.eq_false_iff.mpr fun p => ?_
    have e2 := Value.ref.inj (beq_iff_eq.mp p)
    subst e2
    cases (X _ _ ho).symm.trans e
end

/-! ### types -/
def Ty.val (W : Wd) : Ty → Value
  | .tint => .type "int"
  | .tbool => .type "bool"
  | .tstr => .type "str"
  | .ttuple => .type "tuple"
  | .tlist => .type "list"
  | .tval => .type "ValueError"
  | .own c => .ref (W.C c)
def Ty.v (W : Wd) : Ty → V
  | .tint => .ty "int"
  | .tbool => .ty "bool"
  | .tstr => .ty "str"
  | .ttuple => .ty "tuple"
  | .tlist => .ty "list"
  | .tval => .ty "ValueError"
  | .own c => .ref (W.C c)
theorem Ty.cls (W : Wd) (t : Ty) : ClsV (t.v W) (t.val W) := by cases t <;> first | exact .ty _ | exact .own _
def isTyC (c : Cn) : Ty → Bool
  | .own e => c.under e
  | .tval => c.isExc
  | _ => false
/-- what the classes must say -/
def tyOk (W : Wd) : Ty → Prop
  | .own e => W.has e = true
  | _ => True
structure ClsOk (W : Wd) : Prop where
  own : ∀ c : Cn, W.has c = true → c.isExc = false → Cls W.K (W.C c) ∧ PySem.W.findIn W.K (.ref (W.C c)) "__class__" = some (some (.builtin "object.__class__")) ∧ PySem.W.mroIn W.K (W.C c) (.type "object") = some true
  spec : PySem.W.specialIn W.K (.builtin "object.__class__") "__get__" = some (some (.builtin "getset_descriptor.__get__"))
  tak : PySem.W.takesIn W.K (.builtin "object.__class__") = some true
  exc : ∀ c : Cn, W.has c = true → c.isExc = true → ExcC W.K (W.C c)
  kit : ∀ (c : Cn) (t : Ty), W.has c = true → tyOk W t → PySem.W.kitOne W.K (.ref (W.C c)) (t.val W) = some (isTyC c t)
  kitT : ∀ (c : Cn) (n : String), W.has c = true → n ∈ ["NoneType", "bool", "int", "str", "tuple", "list", "dict"] → PySem.W.kitOne W.K (.type n) (.ref (W.C c)) = some false
section
variable {X : Cx} {W : Wd} {Y : WX} {σ : L2.St} {r : List Addr} {H : Hp} {hs : Hs} {Q : VK} {d e : D} {v u : V} {ds : List D} {vs : List V}
def TyMy (K : PySem.W.Frag) (H : Hp) (v : V) (t : Value) : Prop := TyX K H v t ∨ ∃ a D dx, v = .ref a ∧ H a = some (exT a D dx) ∧ ExcC K D ∧ t = .ref D ∧ (dx = none ∨ ∃ d l, dx = some d ∧ H d = some (.xd l))
theorem kit_my {pins : List (Addr × Obj)} {s : Shared} {x : V} {u t : Value} (I : Inv X pins σ H s) (rx : L2.RelV x u) (ty : TyMy X.K H x t) : ∃ P : Heap → Prop, PySem.W.KitX X.K u t P ∧ P s.heap ∧ u ≠ .builtin "__main__.__loader__#opaque" := by
  rcases ty with ty | ⟨a, D, dx, rfl, h, c, rfl, hd⟩
  · exact kit_of I rx ty
  · cases rx
    refine ⟨_, kit_exc c, ?_, fun z => nomatch z⟩
    obtain ⟨⟨oe, vs, g1, g2, g3, g4⟩, _⟩ := (show ObjOk X.prog X.w H s.heap a (exT a D dx) from I.hok a _ h)
    obtain ⟨oc, od, oda, osl⟩ := oe
    simp only at g2 g3 g4
    subst g2 g3 g4
    rcases hd with rfl | ⟨d, l, rfl, hl⟩
    · exact ⟨_, none, g1, rfl, rfl, trivial⟩
    · obtain ⟨mA, ⟨o, _, _, ho, _⟩, _⟩ := (show ObjOk X.prog X.w H s.heap d (.xd l) from I.hok d _ hl)
      exact ⟨_, some o, g1, rfl, rfl, ho⟩
abbrev RF1 := List V → Hp → VK → Prop
def RIsi1 (K : PySem.W.Frag) : RF1 := fun xs H Q => ∃ (x c : V) (t u : Value) (b : Bool), xs = [x, c] ∧ ClsV c u ∧ TyMy K H x t ∧ PySem.W.kitOne K t u = some b ∧ Q (.bl b) H
def RIsiN (K : PySem.W.Frag) : RF1 := fun xs H Q => ∃ (x : V) (tp : Addr) (cs : List V) (t : Value) (us : List Value) (b : Bool), xs = [x, .ref tp] ∧ H tp = some (.tup cs) ∧ Paired ClsV cs us ∧ TyMy K H x t ∧ PySem.W.kitAny K t us = some b ∧ Q (.bl b) H
theorem call_isi1 : CallR X (.builtin "isinstance") (RIsi1 X.K) := by
  intro pins s σ H xs us Q I r h
  obtain ⟨x, c, t, u, b, rfl, k, ty, e, q⟩ := h
  obtain ⟨u1, u2, rfl, r1, r2⟩ := vals2 r
  have e2 := k.eq r2
  subst e2
  obtain ⟨P, Z, p, hx⟩ := kit_my I r1 ty
  exact PySem.W.kia_one Z I.kIn p e hx fun tk => ⟨.bl b, H, I.tok tk, rfl, q⟩
theorem call_isiN : CallR X (.builtin "isinstance") (RIsiN X.K) := by
  intro pins s σ H xs us Q I r h
  obtain ⟨x, tp, cs, t, ws, b, rfl, hT, k, ty, e, q⟩ := h
  obtain ⟨u1, u2, rfl, r1, r2⟩ := vals2 r
  cases r2
  obtain ⟨P, Z, p, hx⟩ := kit_my I r1 ty
  obtain ⟨_, its, rv, o, h1, h2, n, h3⟩ := (show ObjOk X.prog X.w H s.heap tp (.tup cs) from I.hok tp _ hT)
  have e3 := ClsV.all k rv
  subst e3
  obtain ⟨oc, od, dt, sl⟩ := o
  simp only at h2 h3
  subst h2 h3
  exact PySem.W.kia_tup Z I.kIn p h1 e hx fun tk => ⟨.bl b, H, I.tok tk, rfl, q⟩
abbrev RIsi (K : PySem.W.Frag) : RF1 := fun xs H Q => RIsi1 K xs H Q ∨ RIsiN K xs H Q
theorem call_isiU : CallR X (.builtin "isinstance") (RIsi X.K) := crU call_isi1 call_isiN
def tyN : List String := ["NoneType", "bool", "int", "str", "tuple", "list", "dict"]
def tyIs (n : String) : Ty → Bool
  | .tint => n == "int" || n == "bool"
  | .tbool => n == "bool"
  | .tstr => n == "str"
  | .ttuple => n == "tuple"
  | .tlist => n == "list"
  | _ => false
theorem kit_base (c : ClsOk W) {n : String} (hn : n ∈ tyN) (t : Ty) (ht : tyOk W t) : PySem.W.kitOne W.K (.type n) (t.val W) = some (tyIs n t) := by
  cases t with
  | own e => exact c.kitT e n ht hn
  | _ =>
    simp only [tyN, List.mem_cons, List.not_mem_nil, or_false] at hn
    rcases hn with rfl | rfl | rfl | rfl | rfl | rfl | rfl <;> exact kit_ty (by decide +kernel)
/-- a value's type, and what it is by mine -/
theorem ty_at (c : ClsOk W) (m : Mt W r H hs) (x : Rv W r H d v) (hd : ∀ ds, d ≠ .lv ds) : ∃ t, TyMy W.K H v t ∧ ∀ (y : Ty) (b : Bool), tyOk W y → isTy hs d y = some b → PySem.W.kitOne W.K t (y.val W) = some b := by
  have base : ∀ {n : String} {f : Ty → Bool}, n ∈ tyN → (∀ y, f y = tyIs n y) → ∀ (y : Ty) (b : Bool), tyOk W y → some (f y) = some b → PySem.W.kitOne W.K (.type n) (y.val W) = some b := by
    intro n f hn hf y b yo e
    cases e
    rw [hf y]
    exact kit_base c hn y yo
  cases x with
  | non => exact ⟨_, .inl (.base .non), base (f := fun _ => false) (by decide) (by intro y; cases y <;> rfl)⟩
  | bl z => exact ⟨_, .inl (.base (.bl z)), base (f := fun t => t == .tint || t == .tbool) (by decide) (by intro y; cases y <;> rfl)⟩
  | int z => exact ⟨_, .inl (.base (.int z)), base (f := fun t => t == .tint) (by decide) (by intro y; cases y <;> rfl)⟩
  | str z k => exact ⟨_, .inl (.base (.str z)), base (f := fun t => t == .tstr) (by decide) (by intro y; cases y <;> rfl)⟩
  | tup t es =>
    have hb := base (n := "tuple") (f := fun t => t == .ttuple) (by decide) (by intro y; cases y <;> rfl)
    rcases t with ⟨h, _⟩ | ⟨⟨o, its, n, h1, h2, _⟩, _⟩
    · exact ⟨_, .inl (.base (.tup h)), hb⟩
    · exact ⟨_, .inl (.kTuple h1 h2), hb⟩
  | @obj cc ds vs a dx pr xx h n l es =>
    obtain ⟨c1, c2, c3⟩ := c.own cc pr xx
    refine ⟨_, .inl (.base (.ins h c1 c2 c.spec c.tak c3)), fun y b yo e => ?_⟩
    rw [c.kit cc y pr yo, ← e]
    cases y <;> rfl
  | @exc0 cc a pr xx f h n =>
    refine ⟨_, .inr ⟨_, _, _, rfl, h, c.exc cc pr xx, rfl, .inl rfl⟩, fun y b yo e => ?_⟩
    rw [c.kit cc y pr yo, ← e]
    cases y <;> rfl
  | @exc1 cc ds vs a dx l pr xx h n hd' nd es k ll =>
    refine ⟨_, .inr ⟨_, _, _, rfl, h, c.exc cc pr xx, rfl, .inr ⟨_, _, rfl, hd'⟩⟩, fun y b yo e => ?_⟩
    rw [c.kit cc y pr yo, ← e]
    cases y <;> rfl
  | @ref n a h =>
    obtain ⟨o, ho, t⟩ := m.atR h
    have e0 : ∀ y, isTy hs (.ref n) y = some (match o with
        | .lst _ => y == .tlist
        | .frz _ => y == .tlist
        | .dic _ _ => false) := by
      intro y
      simp only [isTy, ho]
      cases o <;> rfl
    have hl := base (n := "list") (f := fun t => t == .tlist) (by decide) (by intro y; cases y <;> rfl)
    have hdd := base (n := "dict") (f := fun _ => false) (by decide) (by intro y; cases y <;> rfl)
    cases o with
    | lst xs =>
      obtain ⟨us, t, _⟩ := t
      exact ⟨_, .inl (.base (.lst t)), fun y b yo e => hl y b yo (by rw [← e, e0])⟩
    | frz xs =>
      obtain ⟨ob, us, t, _⟩ := t
      exact ⟨_, .inl (.base (.frz t)), fun y b yo e => hl y b yo (by rw [← e, e0])⟩
    | dic tt kvs =>
      cases tt with
      | false =>
        obtain ⟨_, _, _, t, _⟩ := t
        exact ⟨_, .inl (.base (.dK t)), fun y b yo e => hdd y b yo (by rw [← e, e0])⟩
      | true =>
        obtain ⟨_, _, _, t, _⟩ := t
        exact ⟨_, .inl (.base (.dT t)), fun y b yo e => hdd y b yo (by rw [← e, e0])⟩
theorem isTys_kit {t : Value} (k : ∀ (y : Ty) (b : Bool), tyOk W y → isTy hs d y = some b → PySem.W.kitOne W.K t (y.val W) = some b) : ∀ {ts : List Ty} {b : Bool}, (∀ y ∈ ts, tyOk W y) → isTys hs d ts = some b → PySem.W.kitAny W.K t (ts.map fun y => y.val W) = some b
  | [], b, _, h => by cases h; rfl
  | y :: ts, b, ho, h => by
    simp only [isTys] at h
    split at h
    · rename_i a c h1 h2
      cases h
      refine kitAny_cons (k y a (ho y List.mem_cons_self) h1) (fun e => ?_) (fun e => by rw [e]; rfl)
      rw [e, Bool.false_or]
      exact isTys_kit k (fun z hz => ho z (List.mem_cons_of_mem _ hz)) h2
    · cases h
theorem paired_cls (W : Wd) : ∀ ts : List Ty, Paired ClsV (ts.map fun t => t.v W) (ts.map fun t => t.val W)
  | [] => .nil
  | t :: ts => .cons (t.cls W) (paired_cls W ts)
end
end Q

/-! try: several clauses, with or without a name; the exception stays known -/
namespace Q
open PySem PySem.Spec PyProof.Rows L2
section
variable {X : Cx} {pins : List (Addr × Obj)} {σ : L2.St} {H : Hp} {s : Shared} {a C : Addr} {d : Option Addr}
/-- an exception's object becomes known -/
theorem track {oe : Obj} {vs : Array Value} (I : Inv X pins σ H s) (h0 : X.s_0.heap.get? a = none) (na : H a = none) (nl : a ≠ X.env.locals) (np : ∀ p ∈ X.pn ++ pins, p.1 ≠ a)
    (he : s.heap.get? a = some oe) (hc : oe.cls = .ref C) (hd : oe.dict = d) (hv : oe.data = .fields vs) : Inv X pins σ (upd H a (exT a C d)) s := by
  have un : Un X.fs X.ex X.H_0 (upd H a (exT a C d)) X.s_0.heap s.heap := by
    have q := I.base
    refine ⟨q.keep, q.slot, fun b o h1 h2 h3 => ?_, q.there, fun b xs h1 => ?_, fun b o u h1 => ?_, fun b ps h1 => ?_⟩
    · have e : b ≠ a := fun z => by rw [z, h0] at h1; cases h1
      rw [upd_ne e]
      exact q.free b o h1 h2 h3
    · have h2 := q.tups b xs h1
      rw [upd_ne (ne_of_none h2 na)]
      exact h2
    · have h2 := q.frzs b o u h1
      rw [upd_ne (ne_of_none h2 na)]
      exact h2
    · obtain ⟨more, h2⟩ := q.tbls b ps h1
      exact ⟨more, by rw [upd_ne (ne_of_none h2 na)]; exact h2⟩
  refine { I with base := un, free := ?_, freeC := fun x c h => ?_, pin := fun p hp => ?_, hok := fun b o h => ?_ }
  · rw [upd_ne (Ne.symm nl)]
    exact I.free
  · have e : c ≠ a := fun z => by
      obtain ⟨v, hv2⟩ := I.cell x c h
      obtain ⟨ob, g1, g2⟩ := hv2
      subst z
      rw [he] at g1
      cases g1
      rw [hv] at g2
      cases g2
    rw [upd_ne e]
    exact I.freeC x c h
  · obtain ⟨g1, g2, g3⟩ := I.pin p hp
    exact ⟨g1, by rw [upd_ne (np p hp)]; exact g2, g3⟩
  · by_cases e : b = a
    · subst e
      rw [upd_same] at h
      cases h
      exact ⟨⟨oe, vs, he, hc, hd, hv⟩, ⟨oe, he⟩, fun h1 h2 ⟨o1, v1, k1, k2⟩ k => ⟨o1, v1, k _ k1, k2⟩⟩
    · rw [upd_ne e] at h
      refine (I.hok b o h).stay (fun _ _ _ z => z) (fun c hc => ?_) (fun c xs hc => ?_)
      · rw [upd_ne (ne_of_none hc na)]; exact hc
      · rw [upd_ne (ne_of_none hc na)]; exact hc
/-- into an except suite and out of it -/
theorem into (I : Inv X pins σ H s) : Inv (X.suite a (X.pn ++ pins)) [] σ H s :=
  ⟨I.ok.suite _ _, I.os, I.bare, I.base, I.loc, I.cell, I.free, I.freeC, fun p hp => I.pin p (by simpa using hp), I.hok, I.len⟩
theorem outOf {ql : List (Addr × Obj)} (ok : X.Ok) (I : Inv (X.suite a (X.pn ++ pins)) ql σ H s) : Inv X pins σ H s :=
  ⟨ok, I.os, I.bare, I.base, I.loc, I.cell, I.free, I.freeC, fun p hp => I.pin p (List.mem_append_left _ hp), I.hok, I.len⟩
end

structure Clause where
  c : Value
  i : Option Nat
  t : TS
def goneI (i : Option Nat) (σ : L2.St) : L2.St := match i with
  | some i => σ.set i none
  | none => σ
def putI (i : Option Nat) (a : Addr) (σ : L2.St) : L2.St := match i with
  | some i => σ.set i (some (.ref a))
  | none => σ
def endsI (i : Option Nat) (D : Ends) : Ends := { nx := fun σ H => D.nx (goneI i σ) H, rt := D.rt, bk := fun σ H => D.bk (goneI i σ) H, ct := fun σ H => D.ct (goneI i σ) H }
/-- what an exception of the body must meet -/
def wCl (K : PySem.W.Frag) (Wo : WX) (D : Ends) : List Clause → WX
  | [] => Wo
  | q :: r => fun cls d σ H => ∃ b, PySem.W.exmOne K cls q.c = some b ∧ (b = true → ∃ C, cls = .ref C ∧ ∀ a, H a = none → q.t (endsI q.i D) (putI q.i a σ) (upd H a (exT a C d))) ∧ (b = false → wCl K Wo D r cls d σ H)
inductive ClOk (X : Cx) : List ExceptHandler → List Clause → Prop
  | nil : ClOk X [] []
  | plain {x : Str} {c : Value} {t : TS} {b : Stmt} {bs : List Stmt} {p1 p2 : Pos} {hds : List ExceptHandler} {l : List Clause} (nm : Names X x c) (su : ∀ (a : Addr) (pn : List (Addr × Obj)), PSs (X.suite a pn) (b :: bs) t) (r : ClOk X hds l) :
      ClOk X (.ExceptHandler (some (.Name x p1)) none (b :: bs) p2 :: hds) (⟨c, none, t⟩ :: l)
  | named {x n : Str} {i : Nat} {c : Value} {t : TS} {b : Stmt} {bs : List Stmt} {p1 p2 : Pos} {hds : List ExceptHandler} {l : List Clause} (nm : Names X x c) (hi : X.N[i]? = some n) (hl : X.env.kindOf n = some .local)
      (su : ∀ (a : Addr) (pn : List (Addr × Obj)), PSs (X.suite a pn) (b :: bs) t) (r : ClOk X hds l) : ClOk X (.ExceptHandler (some (.Name x p1)) (some n) (b :: bs) p2 :: hds) (⟨c, some i, t⟩ :: l)

section
variable {X : Cx} {body : List Stmt} {hd : ExceptHandler} {hds : List ExceptHandler} {l : List Clause} {pos : Pos} {tb : WX → TS} {Wo : WX}
theorem ps_tryU (st : X.stack = X.env :: X.outer) (fr : X.env.frame = some X.env.locals) (ex : X.ex = []) (nd : X.N.Nodup) (tk : Takes X Wo)
    (hb : ∀ (W : WX) (pn : List (Addr × Obj)) (xe : Value → Shared → Prop), Takes (X.tr pn xe) W → PassesOwn (model X.prog X.w) X.A X.env xe → PSs (X.tr pn xe) body (tb W)) (hh : ClOk X (hd :: hds) l) :
    PS X (.Try body (hd :: hds) [] [] pos) (fun D σ H => tb (wCl X.K Wo D l) D σ H) := by
  constructor
  intro pins s σ H D I h
  have ok := I.ok
  have frm : X.A.frames = some (X.env :: X.outer) := ok.frames.trans (by rw [st])
  apply wpAny_Try_except
  have run := (hb (wCl X.K Wo D l) (X.pn ++ pins) (fun y s1 => wpAny (model X.prog X.w) X.A (noteFrame y X.env) (fun _ s2 => wpAny (model X.prog X.w) X.A (setFlight y none) (fun _ s3 =>
    wpAny (model X.prog X.w) X.A (handleBy y X.env (hd :: hds)) (SP X pins D) X.xe s3) X.xe s2) X.xe s1) (fun u s' xx => ?_) PassesOwn.looking).run [] s σ H D (I.toTry _) h
  · refine wpAny_mono run (fun f s1 z => ?_) (fun y s1 z => z)
    cases f with
    | next => obtain ⟨σ2, H2, J, q⟩ := z; exact wpAny_execs_nil ⟨σ2, H2, J.ofTry ok, q⟩
    | brk => obtain ⟨σ2, H2, J, q⟩ := z; exact ⟨σ2, H2, J.ofTry ok, q⟩
    | cont => obtain ⟨σ2, H2, J, q⟩ := z; exact ⟨σ2, H2, J.ofTry ok, q⟩
    | ret u => obtain ⟨v, σ2, H2, J, r, q⟩ := z; exact ⟨v, σ2, H2, J.ofTry ok, r, q⟩
  · obtain ⟨a, B, sI, ps2, σ2, H2, cls, d, rfl, J0, nb, up, sky, na, os, ag, w⟩ := xx
    have J : Inv X pins σ2 H2 sI := J0.ofTry ok
    rw [st] at sky
    show wpAny (model X.prog X.w) X.A (noteFrame (.ref a) X.env) _ _ _
    refine Sky.land Zc.steady frm fr sky fun h3 f3 u3 => ?_
    have J3 : Inv X pins σ2 H2 { s' with heap := h3 } := J.landed nb f3.1 (up.trans u3) os ag
    obtain ⟨o3, v3, e3, z3, d3⟩ := f3.there
    have nfr : a ∉ frs (X.env :: X.outer) := fun hm => by
      obtain ⟨_, o', e', hn⟩ := f3.2.2.1.mem hm
      cases e3.symm.trans e'
      exact hn _ d3
    have nfr' : a ∉ frs X.stack := by rw [st]; exact nfr
    have nl : a ≠ X.env.locals := fun z => nfr (List.mem_filterMap.mpr ⟨X.env, List.mem_cons_self, fr.trans (congrArg some z.symm)⟩)
    have nf : a ∉ X.fs := fun hm => by
      obtain ⟨y, hy, q⟩ := List.mem_filterMap.mp hm
      exact nfr (List.mem_filterMap.mpr ⟨y, List.mem_cons_of_mem _ hy, q⟩)
    have h0 : X.s_0.heap.get? a = none := by
      cases q : X.s_0.heap.get? a with
      | none => rfl
      | some o =>
        obtain ⟨o', q2⟩ := J.base.there a o q (by rw [ex]; exact List.not_mem_nil)
        have q3 := nb a o' q2 nfr'
        rw [f3.2.1] at q3
        cases q3
    have np : ∀ p ∈ X.pn ++ pins, p.1 ≠ a := fun p hp z => by
      obtain ⟨g1, _⟩ := J.pin p hp
      rw [z] at g1
      have q3 := nb a _ g1 nfr'
      rw [f3.2.1] at q3
      cases q3
    have S3 := J3.suite e3 d3 na nl nf
    have lt : PySem.W.Looks (model X.prog X.w) h3 (typeOf (.ref a)) cls := fun A Q E s k q => wpAny_typeOf_ref (k _ _ e3) (by rw [z3.1]; exact q)
    have asks : ∀ {x : Str} {c : Value} {p : Pos} {Q : Value → Shared → Prop} {E : Value → Shared → Prop}, Names X x c → Q c { s' with heap := h3 } → wpAny (model X.prog X.w) (X.A.mark (some (.ref a))) (eval (.Name x p) X.env) Q E { s' with heap := h3 } := by
      intro x c p Q E nm q
      obtain ⟨hg, hg2, hm | ⟨hm, hv, hn⟩⟩ := nm
      · exact ld_glob (X := X.suite a ((a, o3) :: (X.pn ++ pins))) S3 hg hm q hg2
      · exact ld_blt (X := X.suite a ((a, o3) :: (X.pn ++ pins))) S3 hg hm hv q hn hg2
    have known : ∀ {h4 : Heap} {C : Addr}, HandSPX.FlyingZ B (X.env :: X.outer) a (Zc cls d) h4 → h3.UpToSlots h4 → cls = .ref C → Inv X pins σ2 (upd H2 a (exT a C d)) { s' with heap := h4 } := by
      intro h4 C f4 u4 hC
      have J4 : Inv X pins σ2 H2 { s' with heap := h4 } := J.landed nb f4.1 ((up.trans u3).trans u4) os ag
      obtain ⟨o4, v4, e4, z4, d4⟩ := f4.there
      exact track J4 h0 na nl np e4 (z4.1.trans hC) z4.2 d4
    have go : ∀ {hs' : List ExceptHandler} {l' : List Clause}, ClOk X hs' l' → wCl X.K Wo D l' cls d σ2 H2 → wpAny (model X.prog X.w) X.A (handleBy (.ref a) X.env hs') (SP X pins D) X.xe { s' with heap := h3 } := by
      intro hs' l' k
      induction k with
      | nil =>
        intro w
        apply wpAny_handleBy_nil
        obtain ⟨_, _, _, o5, v5, T, oT, ts5, he, _, hd5, h15, _⟩ := id f3
        unfold PySem.passOn
        refine wpAny_bind (wpAny_field he hd5 h15 ?_)
        rw [if_neg (by simp : ¬ ((Value.ref T == Value.none) = true))]
        have last : wpAny (model X.prog X.w) X.A (setFlight (.ref a) X.env.frame) (fun _ s4 => wpAny (model X.prog X.w) X.A (throw (.ref a) : Sem Flow) (SP X pins D) X.xe s4) X.xe { s' with heap := h3 } := by
          rw [fr]
          exact HandSPX.setFlight_upZ f3 fun h4 hh4 u4 => wpAny_throw (tk _ _ ⟨a, B, sI, pins, σ2, H2, cls, d, rfl, J, nb, (up.trans u3).trans u4, .inr (.inr (by rw [st]; exact hh4)), na, os, ag, w⟩)
        first
          | exact wpAny_bind (wpAny_pure (wpAny_bind last))
          | exact wpAny_bind last
      | @plain x c t b bs p1 p2 hds2 l2 nm su r ih =>
        intro w
        obtain ⟨y, hy, yes, no⟩ := w
        refine wpAny_handleBy_cons (codeAny_handlers_test (asks nm ((PySem.W.exm_one (M := model X.prog X.w) J3.kIn lt hy).here ?_))) (fun q => nomatch q)
        cases y with
        | false => exact ih (no rfl)
        | true =>
          obtain ⟨C, hC, q⟩ := yes rfl
          refine codeAny_handlers_suite (HandSPX.lands_againZ f3 fun h4 f4 u4 => ?_)
          refine wpAny_mono ((su a (X.pn ++ pins)).run [] _ _ _ _ (into (known f4 u4 hC)) (q a na)) (fun f s6 z => ?_) (fun _ _ z => z.elim)
          cases f with
          | next => obtain ⟨σ6, H6, S6, q6⟩ := z; exact ⟨_, _, outOf ok S6, q6⟩
          | brk => obtain ⟨σ6, H6, S6, q6⟩ := z; exact ⟨_, _, outOf ok S6, q6⟩
          | cont => obtain ⟨σ6, H6, S6, q6⟩ := z; exact ⟨_, _, outOf ok S6, q6⟩
          | ret u => obtain ⟨v6, σ6, H6, S6, r6, q6⟩ := z; exact ⟨_, _, _, outOf ok S6, r6, q6⟩
      | @named x n i c t b bs p1 p2 hds2 l2 nm hi hl su r ih =>
        intro w
        obtain ⟨y, hy, yes, no⟩ := w
        refine wpAny_handleBy_cons (codeAny_handlers_test (asks nm ((PySem.W.exm_one (M := model X.prog X.w) J3.kIn lt hy).here ?_))) (fun q => nomatch q)
        cases y with
        | false => exact ih (no rfl)
        | true =>
          obtain ⟨C, hC, q⟩ := yes rfl
          refine codeAny_handlers_suite_as (HandSPX.lands_againZ f3 fun h4 f4 u4 => ?_)
          refine store_ok (X := X.suite a (X.pn ++ pins)) (v := .ref a) (into (known f4 u4 hC)) nd hi (.inl hl) rfl (fun s5 S5 => ?_) (.inr hl)
          refine wpAny_mono ((su a (X.pn ++ pins)).run [] _ _ _ _ S5 (q a na)) (fun f s6 z => ?_) (fun _ _ z => z.elim)
          have gone : ∀ {σ6 : L2.St} {H6 : Hp} {Q : Shared → Prop}, Inv (X.suite a (X.pn ++ pins)) [] σ6 H6 s6 → (∀ s7, Inv X pins (σ6.set i none) H6 s7 → Q s7) →
              wpAny (model X.prog X.w) X.A (do bindName X.env n .none; unbindBehindTheSuite X.env n p2) (fun _ s7 => Q s7) X.xe s6 := fun S6 hq => gone_ok (outOf ok S6) nd hi hl hq
          cases f with
          | next => obtain ⟨σ6, H6, S6, q6⟩ := z; exact gone S6 fun s7 J7 => ⟨_, _, J7, q6⟩
          | brk => obtain ⟨σ6, H6, S6, q6⟩ := z; exact gone S6 fun s7 J7 => ⟨_, _, J7, q6⟩
          | cont => obtain ⟨σ6, H6, S6, q6⟩ := z; exact gone S6 fun s7 J7 => ⟨_, _, J7, q6⟩
          | ret u => obtain ⟨v6, σ6, H6, S6, r6, q6⟩ := z; exact gone S6 fun s7 J7 => ⟨_, _, _, J7, r6, q6⟩
    exact go hh w
end
end Q

/-! views of the given program's text; further rules -/
namespace Q
open PySem PySem.Spec PyProof.Rows L2

/-! ### views -/
def asName : Expr → Option Str
  | .Name x _ => some x
  | _ => none
theorem asName_of {e : Expr} {x : Str} (h : asName e = some x) : ∃ p, e = .Name x p := by
  cases e <;> cases h; exact ⟨_, rfl⟩
def asConst : Expr → Option Const
  | .Constant c _ _ => some c
  | _ => none
theorem asConst_of {e : Expr} {x : Const} (h : asConst e = some x) : ∃ j p, e = .Constant x j p := by
  cases e <;> cases h; exact ⟨_, _, rfl⟩
def asTup : Expr → Option (List Expr)
  | .Tuple es _ _ => some es
  | _ => none
theorem asTup_of {e : Expr} {x : List Expr} (h : asTup e = some x) : ∃ j p, e = .Tuple x j p := by
  cases e <;> cases h; exact ⟨_, _, rfl⟩
def asLst : Expr → Option (List Expr)
  | .List es _ => some es
  | _ => none
theorem asLst_of {e : Expr} {x : List Expr} (h : asLst e = some x) : ∃ p, e = .List x p := by
  cases e <;> cases h; exact ⟨_, rfl⟩
def asDict : Expr → Option (List (Option Expr) × List Expr)
  | .Dict ks vs _ => some (ks, vs)
  | _ => none
theorem asDict_of {e : Expr} {x : List (Option Expr) × List Expr} (h : asDict e = some x) : ∃ p, e = .Dict x.1 x.2 p := by
  cases e <;> cases h; exact ⟨_, rfl⟩
def asBin : Expr → Option (Operator × Expr × Expr)
  | .BinOp a o b _ => some (o, a, b)
  | _ => none
theorem asBin_of {e : Expr} {x : Operator × Expr × Expr} (h : asBin e = some x) : ∃ p, e = .BinOp x.2.1 x.1 x.2.2 p := by
  cases e <;> cases h; exact ⟨_, rfl⟩
def asNeg : Expr → Option Expr
  | .UnaryOp .USub a _ => some a
  | _ => none
theorem asNeg_of {e x : Expr} (h : asNeg e = some x) : ∃ p, e = .UnaryOp .USub x p := by
  cases e with
  | UnaryOp o a p => cases o <;> cases h; exact ⟨_, rfl⟩
  | _ => cases h
def asNot : Expr → Option Expr
  | .UnaryOp .Not a _ => some a
  | _ => none
theorem asNot_of {e x : Expr} (h : asNot e = some x) : ∃ p, e = .UnaryOp .Not x p := by
  cases e with
  | UnaryOp o a p => cases o <;> cases h; exact ⟨_, rfl⟩
  | _ => cases h
def asCmp1 : Expr → Option (CmpOp × Expr × Expr)
  | .Compare a [o] [b] _ => some (o, a, b)
  | _ => none
theorem asCmp1_of {e : Expr} {x : CmpOp × Expr × Expr} (h : asCmp1 e = some x) : ∃ p, e = .Compare x.2.1 [x.1] [x.2.2] p := by
  unfold asCmp1 at h
  split at h
  · cases h; exact ⟨_, rfl⟩
  · cases h
def asCmp2 : Expr → Option (CmpOp × CmpOp × Expr × Expr × Expr)
  | .Compare a [o, p] [b, c] _ => some (o, p, a, b, c)
  | _ => none
theorem asCmp2_of {e : Expr} {x : CmpOp × CmpOp × Expr × Expr × Expr} (h : asCmp2 e = some x) : ∃ p, e = .Compare x.2.2.1 [x.1, x.2.1] [x.2.2.2.1, x.2.2.2.2] p := by
  unfold asCmp2 at h
  split at h
  · cases h; exact ⟨_, rfl⟩
  · cases h
def asAnd : Expr → Option (List Expr)
  | .BoolOp .And es _ => some es
  | _ => none
theorem asAnd_of {e : Expr} {x : List Expr} (h : asAnd e = some x) : ∃ p, e = .BoolOp .And x p := by
  cases e with
  | BoolOp o a p => cases o <;> cases h; exact ⟨_, rfl⟩
  | _ => cases h
def asOr : Expr → Option (List Expr)
  | .BoolOp .Or es _ => some es
  | _ => none
theorem asOr_of {e : Expr} {x : List Expr} (h : asOr e = some x) : ∃ p, e = .BoolOp .Or x p := by
  cases e with
  | BoolOp o a p => cases o <;> cases h; exact ⟨_, rfl⟩
  | _ => cases h
def asIf : Expr → Option (Expr × Expr × Expr)
  | .IfExp c a b _ => some (c, a, b)
  | _ => none
theorem asIf_of {e : Expr} {x : Expr × Expr × Expr} (h : asIf e = some x) : ∃ p, e = .IfExp x.1 x.2.1 x.2.2 p := by
  cases e <;> cases h; exact ⟨_, rfl⟩
def asSub : Expr → Option (Expr × Expr)
  | .Subscript a i _ => some (a, i)
  | _ => none
theorem asSub_of {e : Expr} {x : Expr × Expr} (h : asSub e = some x) : ∃ p, e = .Subscript x.1 x.2 p := by
  cases e <;> cases h; exact ⟨_, rfl⟩
def asSlc : Expr → Option (Option Expr × Option Expr)
  | .Slice lo hi none _ => some (lo, hi)
  | _ => none
theorem asSlc_of {e : Expr} {x : Option Expr × Option Expr} (h : asSlc e = some x) : ∃ p, e = .Slice x.1 x.2 none p := by
  unfold asSlc at h
  split at h
  · cases h; exact ⟨_, rfl⟩
  · cases h
def asAttr : Expr → Option (Expr × Str)
  | .Attribute a f _ => some (a, f)
  | _ => none
theorem asAttr_of {e : Expr} {x : Expr × Str} (h : asAttr e = some x) : ∃ p, e = .Attribute x.1 x.2 p := by
  cases e <;> cases h; exact ⟨_, rfl⟩
/-- a call of a name -/
def asCall : Expr → Option (Str × List Expr)
  | .Call (.Name x _) es [] _ => some (x, es)
  | _ => none
theorem asCall_of {e : Expr} {x : Str × List Expr} (h : asCall e = some x) : ∃ p q, e = .Call (.Name x.1 p) x.2 [] q := by
  unfold asCall at h
  split at h
  · cases h; exact ⟨_, _, rfl⟩
  · cases h
/-- a call of a method; all on one line -/
def asMeth : Expr → Option (Expr × Str × List Expr)
  | .Call (.Attribute o m p) es [] q => if (p.endLine == q.line) = true then some (o, m, es) else none
  | _ => none
theorem asMeth_of {e : Expr} {x : Expr × Str × List Expr} (h : asMeth e = some x) : ∃ p q, e = .Call (.Attribute x.1 x.2.1 p) x.2.2 [] q ∧ (p.endLine == q.line) = true := by
  unfold asMeth at h
  split at h
  · split at h
    · rename_i hp
      cases h; exact ⟨_, _, rfl, hp⟩
    · cases h
  · cases h
def asLc : Expr → Option (Expr × Expr × Expr × List Expr × Scope)
  | .ListComp elt [⟨tg, iter, ifs, 0⟩] sc _ => some (elt, tg, iter, ifs, sc)
  | _ => none
theorem asLc_of {e : Expr} {x : Expr × Expr × Expr × List Expr × Scope} (h : asLc e = some x) : ∃ p, e = .ListComp x.1 [⟨x.2.1, x.2.2.1, x.2.2.2.1, 0⟩] x.2.2.2.2 p := by
  unfold asLc at h
  split at h
  · cases h; exact ⟨_, rfl⟩
  · cases h
def isLc : Expr → Bool
  | .ListComp .. | .SetComp .. | .DictComp .. => true
  | _ => false
def noStar : Expr → Bool
  | .Starred .. => false
  | _ => true
def noSlice : Expr → Bool
  | .Slice .. => false
  | _ => true
/-- truth is asked of the value -/
def valT : Expr → Bool
  | .UnaryOp .Not _ _ | .BoolOp .. | .IfExp .. | .Compare .. => false
  | _ => true
def plainB : Expr → Bool
  | .Call (.Name ..) .. => false
  | _ => true
def noSet : Expr → Bool
  | .Set .. => false
  | _ => true
section
variable {env : Env} {e : Expr} {es : List Expr} {pos : Pos}
theorem star_cons (h : noStar e = true) : starEach (e :: es) env = (false, eval e env) :: starEach es env := by
  cases e <;> first | (cases h; done) | rfl
theorem star_none : ∀ {es : List Expr}, es.all noStar = true → (backTo pos (starEach es env)).any (·.1) = false
  | [], _ => rfl
  | e :: es, h => by
    rw [List.all_cons, Bool.and_eq_true] at h
    rw [star_cons h.1]
    show (false || _) = false
    rw [Bool.false_or]
    exact star_none h.2
theorem star_few : ∀ {es : List Expr}, es.all noStar = true → (backTo pos (starEach es env)).all (fun x => !x.1) = true
  | [], _ => rfl
  | e :: es, h => by
    rw [List.all_cons, Bool.and_eq_true] at h
    rw [star_cons h.1]
    show (true && _) = true
    rw [Bool.true_and]
    exact star_few h.2
theorem valT_ok (h : valT e = true) (whole : Sem Value) : isTrue e env whole = (do let v ← whole; standAt e.pos; holding [v] (truthy v)) := by
  cases e with
  | UnaryOp o a p => cases o <;> first | (cases h; done) | rfl
  | _ => first | (cases h; done) | rfl
theorem plainB_ok {f : Str} (h : plainB e = true) : attributeBase e f env (eval e env) = eval e env := by
  cases e with
  | Call f es ks p => cases f <;> first | (cases h; done) | rfl
  | _ => rfl
theorem slice_ok (h : noSlice e = true) : PlainIx e := by
  intro o i
  cases e <;> first | (cases h; done) | rfl
theorem swaps_no {t : Option Expr} {n : Nat} (h : isLc e = false) : swapsWith e t n env = pure false := by
  cases e <;> first | (cases h; done) | rfl
theorem folded_ok (h : noSet e = true) (x : Value) : foldedSetIterable e env x = pure x := by
  cases e <;> first | (cases h; done) | rfl
theorem marks_ok {op : CmpOp} (h : noSet e = true) : behindInMarks op e = false := by
  cases e <;> first | (cases h; done) | rfl
end

/-! ### x is True, x is False -/
section
variable {X : Cx} {a : Expr} {ta : TE}
def tIsB (b neg : Bool) (ta : TE) : TE := fun σ H Q => ta σ H fun x H1 => Q (.bl (decide (x = .bl b) != neg)) H1
theorem bool_iff {b : Bool} {x : V} {v : Value} (r : L2.RelV x v) : (v == Value.bool b) = decide (x = .bl b) := by
  cases x with
  | non => cases r; cases b <;> rfl
  | bl c => cases r; cases c <;> cases b <;> decide
  | int i => obtain ⟨t, rfl⟩ := r; cases b <;> rfl
  | str i => obtain ⟨t, rfl⟩ := r; cases b <;> rfl
  | byt i => obtain ⟨t, rfl⟩ := r; cases b <;> rfl
  | flt i => obtain ⟨t, rfl⟩ := r; cases b <;> rfl
  | ref i => cases r; cases b <;> rfl
  | ty i => cases r; cases b <;> rfl

/-! ### fields, of things and of kept exceptions -/
def RFld (K : PySem.W.Frag) (f : Str) (x : V) (H : Hp) (Q : VK) : Prop :=
  (∃ a C dx fs v, x = .ref a ∧ H a = some (.ins C dx fs) ∧ Cls K C ∧ NoAttr K C f ∧ fs.lookup f = some v ∧ Q v H) ∨
  ∃ a C dd fs v, x = .ref a ∧ H a = some (exT a C (some dd)) ∧ ExcC K C ∧ NoAttr K C f ∧ H dd = some (.xd fs) ∧ fs.lookup f = some v ∧ Q v H
theorem pe_fldU {e : Expr} {te : TE} {f : Str} {pos : Pos} (he : PE X e te) (hb : plainB e = true) : PE X (.Attribute e f pos) (fun σ H Q => te σ H fun x H1 => RFld X.K f x H1 Q) := by
  refine ⟨fun pins s σ H Q I h => attr_of (plainB_ok hb) (thn (he.run pins s σ H _ I h) fun u s1 w => ?_)⟩
  obtain ⟨x, H1, J, r, w⟩ := w
  rcases w with ⟨a, C, dx, fs, v, rfl, g, c, n, l, q⟩ | ⟨a, C, dd, fs, v, rfl, g, c, n, gd, l, q⟩
  · cases r
    exact getattr_ok J g c n l fun u' s2 J2 ru => ⟨v, H1, J2, ru, q⟩
  · cases r
    obtain ⟨⟨oe, vs, g1, g2, g3, g4⟩, _⟩ := (show ObjOk X.prog X.w H1 s1.heap a (exT a C (some dd)) from J.hok a _ g)
    obtain ⟨mA, hns, hr⟩ := (show ObjOk X.prog X.w H1 s1.heap dd (.xd fs) from J.hok dd _ gd)
    obtain ⟨od, ho, hl⟩ := lookIn_ns hns
    obtain ⟨u, hu, ru⟩ := RelO.some_of (v := v) (o := mA f) (by rw [← l]; exact hr f)
    have at_ : PySem.W.InstAt s1.heap a oe C (some od) := ⟨g1, g2, by unfold PySem.W.notCls; rw [g4], by rw [g3]; exact ho⟩
    exact HandSPX.exc_get J.kIn at_ c.hg c.hk c.hs (PySem.W.findObj_own c.hd n rfl (by rw [hl, hu])) (handed_of ru) ⟨v, H1, J.tok _, ru, q⟩
end

/-! ### a walk of a list or a tuple -/
def iSq (K : PySem.W.Frag) (te : TE) : TI := fun σ H R => te σ H fun x H1 => ∃ a, x = .ref a ∧ ((∃ xs, SqL K H1 a xs ∧ R (Itl K a) H1) ∨ ∃ xs, SqT K H1 a xs ∧ R (Itt K a) H1)
theorem pi_sq {X : Cx} {tg e : Expr} {te : TE} (he : PE X e te) : PI X tg e (iSq X.K te) := by
  constructor
  intro pins s σ H R I h
  refine thn (he.run pins s σ H _ I h) fun u s1 w => ?_
  obtain ⟨x, H1, J, r, a, rfl, w⟩ := w
  cases r
  have fresh : ∀ b ∈ [s1.heap.objs.size], FpOk X pins H1 b := fun b hb => by
    rw [List.mem_singleton] at hb
    rw [hb]
    exact J.fpOk (Nat.le_refl _) (J.hok.fresh (Nat.le_refl _))
  have on : ∀ o : Obj, Inv X pins σ H1 { s1 with heap := s1.heap.push o } := fun o => J.kept (t' := s1.toks) fun b q z => Heap.get?_push_of_some _ z
  rcases w with ⟨xs, g, w⟩ | ⟨xs, g, w⟩
  · obtain ⟨its, rv, pl, hz⟩ := J.list g
    exact wpAny_pyIter_list pl.isList ⟨_, _, _, _, H1, rfl, on _, turn_list a _, ⟨_, Heap.get?_push_size _ rfl, rfl, rfl⟩, fresh, w⟩
  · obtain ⟨its, rv, pl, hz⟩ := J.tuple g
    exact wpAny_pyIter_tuple (show s1.heap.IsTuple a its.toArray from pl) ⟨_, _, _, _, H1, rfl, on _, turn_tuple a _, ⟨_, Heap.get?_push_size _ rfl, rfl, rfl⟩, fresh, w⟩
end Q

/-! plain parameters -/
namespace Q
open PySem PySem.Spec PyProof.Rows L2
/-- what a global name means -/
inductive Gn where | fn (f : String) | cl (c : Cn) | con (k : String) | mk (c : Cn)
  deriving DecidableEq
def Cn.name : Cn → String
  | .SayError => "SayError"
  | .NoText => "NoText"
  | .NoRows => "NoRows"
  | .NoLine => "NoLine"
  | .NoCall => "NoCall"
  | .NoName => "NoName"
  | .NoNumber => "NoNumber"
  | .TooMany => "TooMany"
  | .NoPoint => "NoPoint"
  | .NoLetter => "NoLetter"
  | .NoCut => "NoCut"
  | .Saying => "Saying"
  | .Never => "Never"
  | .Always => "Always"
  | .Letter => "Letter"
  | .Not => "Not"
  | .Fold => "Fold"
  | .More => "More"
  | .Less => "Less"
  | .Greater => "Greater"
  | .Lesser => "Lesser"
  | .Leads => "Leads"
  | .Desk => "Desk"
/-- a class is made by its name (no name of the text begins so) -/
def mkN (c : Cn) : Str := Str.ofString ("+" ++ c.name)
def plainArgs (as : List Arg) : Arguments := { posonlyargs := [], args := as, vararg := none, kwonlyargs := [], kw_defaults := [], kwarg := none, defaults := [] }
theorem zip_lookup_some {α β : Type} [BEq α] [LawfulBEq α] : ∀ {ns : List α} {us : List β} {n : α}, us.length = ns.length → n ∈ ns → ((ns.zip us).lookup n).isNone = false
  | [], _, _, _, h => nomatch h
  | x :: ns, [], _, h, _ => by simp at h
  | x :: ns, u :: us, n, h, hm => by
    simp only [List.zip_cons_cons, List.lookup_cons]
    cases e : n == x with
    | true => rfl
    | false =>
      simp only [Bool.false_eq_true, if_false]
      refine zip_lookup_some (by simpa using h) ?_
      rcases List.mem_cons.mp hm with z | z
      · rw [z] at e; simp at e
      · exact z
theorem zip_filter {α β : Type} [BEq α] [LawfulBEq α] (all : List (α × β)) : ∀ {ns : List α} {us : List β}, us.length = ns.length → ns.Nodup → (∀ n u, (n, u) ∈ ns.zip us → all.lookup n = some u) → (ns.filterMap fun n => (all.lookup n).map (n, ·)) = ns.zip us
  | [], [], _, _, _ => rfl
  | [], _ :: _, h, _, _ => by simp at h
  | _ :: _, [], h, _, _ => by simp at h
  | x :: ns, u :: us, h, nd, k => by
    rw [List.nodup_cons] at nd
    simp only [List.filterMap_cons, List.zip_cons_cons, k x u (by simp), Option.map_some]
    rw [zip_filter all (by simpa using h) nd.2 fun n v hm => k n v (by simp [hm])]
theorem zip_lookup {α β : Type} [BEq α] [LawfulBEq α] : ∀ {ns : List α} {us : List β} {n : α} {u : β}, ns.Nodup → (n, u) ∈ ns.zip us → (ns.zip us).lookup n = some u
  | [], _, _, _, _, h => by simp at h
  | _ :: _, [], _, _, _, h => by simp at h
  | x :: ns, v :: us, n, u, nd, h => by
    rw [List.nodup_cons] at nd
    simp only [List.zip_cons_cons, List.lookup_cons] at h ⊢
    rcases List.mem_cons.mp h with z | z
    · cases z; simp
    · have : (n == x) = false := by
        rw [beq_eq_false_iff_ne]
        exact fun e => nd.1 (e ▸ (List.of_mem_zip z).1)
      rw [this]
      exact zip_lookup nd.2 z
theorem bind_plain {fd : FuncData} {as : List Arg} {us : List Value} (hp : fd.params = plainArgs as) (hd : fd.defaults = .none) (hl : us.length = as.length) (nd : (as.map (·.arg)).Nodup) : bindArgs fd ⟨us, []⟩ = pure ((as.map (·.arg)).zip us) := by
  have hl2 : us.length = (as.map (·.arg)).length := by rw [List.length_map]; exact hl
  have e1 : seqItems? .none = pure Option.none := rfl
  have e2 : ((as.map (·.arg)).filter fun n => (((as.map (·.arg)).zip us).lookup n).isNone) = [] := by
    rw [List.filter_eq_nil_iff]
    intro n hn
    rw [zip_lookup_some hl2 hn]
    decide
  have e3 := zip_filter ((as.map (·.arg)).zip us) hl2 nd (fun n u hm => zip_lookup nd hm)
  unfold bindArgs
  simp only [hp, hd, plainArgs, e1, List.map_nil, List.nil_append, List.append_nil, List.forIn_nil, pure_bind, Option.getD_none, List.isEmpty_nil, List.drop_nil, List.length_nil, Nat.sub_zero, Nat.zero_sub, List.take_length, List.zip_nil_right, e2, e3]
  rw [if_neg (by simp [hl])]
  rfl

def plainOf (a : Arguments) : Option (List Arg) := match a with
  | ⟨[], as, none, [], [], none, []⟩ => some as
  | _ => none
theorem plainOf_of {a : Arguments} {as : List Arg} (h : plainOf a = some as) : a = plainArgs as := by
  unfold plainOf at h
  split at h
  · cases h; rfl
  · cases h
def nodupB : List Str → Bool
  | [] => true
  | x :: l => !l.contains x && nodupB l
theorem nodupB_ok : ∀ {l : List Str}, nodupB l = true → l.Nodup
  | [], _ => List.nodup_nil
  | x :: l, h => by
    simp only [nodupB, Bool.and_eq_true, Bool.not_eq_true'] at h
    exact List.nodup_cons.mpr ⟨by simpa using h.1, nodupB_ok h.2⟩
end Q

/-! things of own classes: making one, calling a method of one -/
namespace Q
open PySem PySem.Spec PyProof.Rows L2

/-- a class whose __init__ is object's -/
structure Mk0 (K : PySem.W.Frag) (C : Addr) : Prop where
  makes : PySem.W.makesIn K C = true
  init : PySem.W.findIn K (.ref C) "__init__" = some (some (.builtin "object.__init__"))
  top : PySem.W.mroIn K C (.type "object") = some true
  kp : PySem.W.keepIn K (.ref C) = true
section
variable {X : Cx} {CX : CXT} {k : Nat} {C f : Addr} {fd : FuncData} {ps : List Str} {sp : Sp} {E : L2.St → XK} {x m : Str} {p pos apos : Pos} {e o : Expr} {es : List Expr} {ta : TE} {t : TA}
theorem run_make0 {pins : List (Addr × Obj)} {σ : L2.St} {H : Hp} {s : Shared} {Q : VK} (M : Mk0 X.K C) (I : Inv X pins σ H s)
    (h : ∀ x dx, H x = none → H dx = none → dx ≠ x → Q (.ref x) (upd (upd H dx (.own x)) x (.ins C dx []))) : wpAny (model X.prog X.w) X.A (PySem.call (.ref C) []) (EP X pins σ Q) X.xe s := by
  have hq := h (s.heap.objs.size + 1) s.heap.objs.size (I.hok.fresh (Nat.le_succ _)) (I.hok.fresh (Nat.le_refl _)) (Nat.ne_of_lt (Nat.lt_succ_self _))
  have I2 := Inv.made (C := C) I
  have ho : ((s.heap.push PySem.W.emptyDict).push (PySem.W.instObj C s.heap.objs.size)).get? (s.heap.objs.size + 1) = some (PySem.W.instObj C s.heap.objs.size) := by
    have := Heap.get?_push_size (s.heap.push PySem.W.emptyDict) (o := PySem.W.instObj C s.heap.objs.size) rfl
    rwa [Heap.size_push] at this
  have t1 := NwA.type_at (M := model X.prog X.w) (C := C) ho rfl
  have t2 : PySem.W.Looks (model X.prog X.w) ((s.heap.push PySem.W.emptyDict).push (PySem.W.instObj C s.heap.objs.size)) (isInstance (.ref (s.heap.objs.size + 1)) (.type "object")) true := t1.andThen (PySem.W.looks_mroIn I2.kIn M.top)
  refine wpAny_call (make_map0 I.kIn M.makes M.init (fun self => PySem.W.Looks.of_pure (PySem.W.oi_bind _)) ?_)
  refine codeAny_call_builtin PySem.W.oi_plain PySem.W.entry_oi (@PySem.W.check_slot (model X.prog X.w) _ _ _ "object.__init__" "object" "__init__" (.ref (s.heap.objs.size + 1)) [] [] _ PySem.W.oi_kind PySem.W.oi_split t2 (PySem.W.oi_args (.ref (s.heap.objs.size + 1))) ?_)
  rw [PySem.W.oi_run]
  exact wpAny_pure (And.intro rfl ⟨V.ref (s.heap.objs.size + 1), _, I2, rfl, hq⟩)
theorem run_makeS {pins : List (Addr × Obj)} {σ : L2.St} {H : Hp} {s : Shared} {Q : VK} {us : List Value} {vs : List V} (M : Mk X.K C f) (F : FnOk X.prog X.w X.K X.mg X.base CX k f fd ps sp) (hr : Room (k + 1) X.A) (hb : Binds X.K fd ps [])
    (hx : PassesAt CX X σ (E σ)) (I : Inv X pins σ H s) (r : Vals vs us)
    (h : ∀ x dx, H x = none → H dx = none → dx ≠ x → sp (.ref x :: vs) (upd (upd H dx (.own x)) x (.ins C dx [])) (fun v H2 => v = .non ∧ Q (.ref x) H2) (E σ)) :
    wpAny (model X.prog X.w) X.A (PySem.call (.ref C) us) (EP X pins σ Q) X.xe s := by
  have hq := h (s.heap.objs.size + 1) s.heap.objs.size (I.hok.fresh (Nat.le_succ _)) (I.hok.fresh (Nat.le_refl _)) (Nat.ne_of_lt (Nat.lt_succ_self _))
  have I2 := Inv.made (C := C) I
  have r2 : Vals (V.ref (s.heap.objs.size + 1) :: vs) (Value.ref (s.heap.objs.size + 1) :: us) := .cons rfl r
  have hl : (Value.ref (s.heap.objs.size + 1) :: us).length = ps.length := by
    have e := r2.length
    rw [F.len _ _ _ _ hq] at e
    exact e.symm
  have b := hb ({ s with heap := (s.heap.push PySem.W.emptyDict).push (PySem.W.instObj C s.heap.objs.size) }) (Value.ref (s.heap.objs.size + 1) :: us) I2.kIn (by rw [List.append_nil]; exact hl)
  rw [List.append_nil] at b
  refine wpAny_call (make_map (f := f) I.kIn M.makes M.init (beq_iff_eq.mp M.fn) (codeAny_mono (F.run _ X.stack _ _ ⟨Value.ref (s.heap.objs.size + 1) :: us, []⟩ (Value.ref (s.heap.objs.size + 1) :: us) _ _ (E σ) (hr.make C us [])
    (I2.env0.make C us []) b r2 hq) fun r s' hq' => ?_))
  cases r with
  | error e => exact hx pins _ _ e s' I2 hq'
  | ok fl =>
    cases fl with
    | ret u =>
      obtain ⟨v, H', I3, rv, ev, q3⟩ := I2.after hq'
      subst ev
      exact ⟨rv, ⟨V.ref (s.heap.objs.size + 1), H', I3, rfl, q3⟩⟩
    | next => exact False.elim hq'
    | brk => exact False.elim hq'
    | cont => exact False.elim hq'
/-- C(e, ..): the values, then a thing is made of them -/
theorem pe_mk (hg : Gl X x) (hm : X.mg x = some (.ref C)) (hk : PySem.W.keepIn X.K (.ref C) = true) (ha : PA X (e :: es) t) (hdb : (x == ("__debug__" : Str)) = false)
    {tm : L2.St → List V → Hp → VK → Prop} (hmk : ∀ pins s σ H us vs Q, Inv X pins σ H s → Vals vs us → tm σ vs H Q → wpAny (model X.prog X.w) X.A (PySem.call (.ref C) us) (EP X pins σ Q) X.xe s)
    (he : starEach (e :: es) X.env = (false, eval e X.env) :: starEach es X.env) (hpl : (backTo pos (starEach es X.env)).any (·.1) = false) :
    PE X (.Call (.Name x p) (e :: es) [] pos) (fun σ H Q => t σ H fun vs H1 => tm σ vs H1 Q) := by
  refine ⟨fun pins s σ H Q I h => ?_⟩
  refine wpAny_Call_Name_kw (ld_glob I hg hm ?_ hdb)
  refine PySem.W.callWith_K (h₀ := X.base) I.ok.mod.kin hk (thn (ha.run pos pins s σ H _ I h) fun us s1 ⟨vs, H1, I1, r, q⟩ => ⟨I1.kIn, ?_⟩) he hpl
  exact hmk pins s1 σ H1 us vs Q I1 r q
theorem pe_mk0 (hg : Gl X x) (hm : X.mg x = some (.ref C)) (hk : PySem.W.keepIn X.K (.ref C) = true) (hdb : (x == ("__debug__" : Str)) = false)
    {tm : L2.St → List V → Hp → VK → Prop} (hmk : ∀ pins s σ H us vs Q, Inv X pins σ H s → Vals vs us → tm σ vs H Q → wpAny (model X.prog X.w) X.A (PySem.call (.ref C) us) (EP X pins σ Q) X.xe s) :
    PE X (.Call (.Name x p) [] [] pos) (fun σ H Q => tm σ [] H Q) := by
  refine ⟨fun pins s σ H Q I h => ?_⟩
  refine wpAny_Call_Name_kw (ld_glob I hg hm ?_ hdb)
  exact PySem.W.callWith_K0 I.kIn hk (hmk pins s σ H [] [] Q I .nil h)
/-- the tree of a method's call, on one line -/
theorem meth_tree {args : List Expr} {env : Env} (hb : attributeBase o m env (eval o env) = eval o env) (hline : (apos.endLine == pos.line) = true)
    (hfew : ((backTo pos (starEach args env)).all (fun x => !x.1) && (backToKw pos (keywordEach [] env)).all (fun x => x.1.isSome) && decide (args.length + ([] : List Keyword).length + (if ([] : List Keyword).isEmpty then 0 else 1) < 30)) = true) :
    eval (.Call (.Attribute o m apos) args [] pos) env = (do
      let ov ← eval o env
      standAt apos.atName
      let (f, first) ← holding [ov] (getMethod ov m (do return (← importBound o env).getD true))
      callWith pos f first (backTo pos (starEach args env)) (backToKw pos (keywordEach [] env))) := by
  refine mcall_of hb fun ov => ?_
  have hform : methodCallForm (args.length + ([] : List Keyword).length) (backTo pos (starEach args env)) (backToKw pos (keywordEach [] env)) = true := hfew
  have hpos : methodCallPos true o env apos pos = pure pos := by unfold methodCallPos; simp [hline]
  unfold methodCall
  rw [hform]
  unfold calleeOf
  simp only [if_true, hpos, pure_bind]
/-- o.m(e, ..), the method of whatever class the thing has -/
def MthAt (X : Cx) (CX : CXT) (k : Nat) (m : Str) (t : TA) (E : L2.St → XK) (σ : L2.St) (Q : VK) (x : V) (H1 : Hp) : Prop :=
  ∃ (a dx C f : Addr) (fs : List (Str × V)) (fd : FuncData) (ps : List Str) (sp : Sp), x = .ref a ∧ H1 a = some (.ins C dx fs) ∧ fs.lookup m = none ∧ Cls X.K C ∧ Meth X.K C m f ∧ FnOk X.prog X.w X.K X.mg X.base CX k f fd ps sp ∧ Binds X.K fd ps [] ∧
    t σ H1 fun vs H2 => sp (x :: vs) H2 Q (E σ)
theorem pe_mth {pl : Sem Bool} (he : PE X o ta) (hr : Room k X.A) (hx : ∀ σ, PassesAt CX X σ (E σ)) (ha : PA X (e :: es) t)
    (hst : starEach (e :: es) X.env = (false, eval e X.env) :: starEach es X.env) (hpl : (backTo pos (starEach es X.env)).any (·.1) = false)
    (ht : eval (.Call (.Attribute o m apos) (e :: es) [] pos) X.env = (do
      let ov ← eval o X.env
      standAt apos.atName
      let (f, first) ← holding [ov] (getMethod ov m pl)
      callWith pos f first (backTo pos (starEach (e :: es) X.env)) (backToKw pos (keywordEach [] X.env)))) :
    PE X (.Call (.Attribute o m apos) (e :: es) [] pos) (fun σ H Q => ta σ H (MthAt X CX k m t E σ Q)) := by
  refine ⟨fun pins s σ H Q I h => ?_⟩
  refine PySem.W.methodCall_KW (pl := pl) (thn (he.run pins s σ H _ I h) fun u s1 ⟨x, H1, I1, rx, a, dx, C, f, fs, fd, ps, sp, ex, ea, l, c, hm, F, hb, q⟩ => ?_) ht
  subst ex
  obtain rfl : u = Value.ref a := rx
  refine getmeth_ok I1 ea c hm l ?_
  refine PySem.W.callWith_K (first := [.ref a]) (h₀ := X.base) I.ok.mod.kin hm.kp (thn (ha.run pos pins s1 σ H1 _ I1 q) fun us s2 ⟨vs, H2, I2, r, q2⟩ => ⟨I2.kIn, ?_⟩) hst hpl
  exact run_fnS (us := .ref a :: us) (vs := .ref a :: vs) F hr hb (hx σ) I2 (.cons rfl r) q2
theorem pe_mth0 {pl : Sem Bool} (he : PE X o ta) (hr : Room k X.A) (hx : ∀ σ, PassesAt CX X σ (E σ))
    (ht : eval (.Call (.Attribute o m apos) [] [] pos) X.env = (do
      let ov ← eval o X.env
      standAt apos.atName
      let (f, first) ← holding [ov] (getMethod ov m pl)
      callWith pos f first (backTo pos (starEach [] X.env)) (backToKw pos (keywordEach [] X.env)))) :
    PE X (.Call (.Attribute o m apos) [] [] pos) (fun σ H Q => ta σ H (MthAt X CX k m tNil E σ Q)) := by
  refine ⟨fun pins s σ H Q I h => ?_⟩
  refine PySem.W.methodCall_KW (pl := pl) (thn (he.run pins s σ H _ I h) fun u s1 ⟨x, H1, I1, rx, a, dx, C, f, fs, fd, ps, sp, ex, ea, l, c, hm, F, hb, q⟩ => ?_) ht
  subst ex
  obtain rfl : u = Value.ref a := rx
  refine getmeth_ok I1 ea c hm l ?_
  exact PySem.W.callWith_K0 (first := [.ref a]) I1.kIn hm.kp (run_fnS (us := [.ref a]) (vs := [.ref a]) F hr hb (hx σ) I1 (.cons rfl .nil) q)
end
end Q

/-! __init__ of own classes and own exceptions -/
namespace Q
open PySem PySem.Spec PyProof.Rows L2

def nameOk (x : Str) : Bool := !(x == ("__debug__" : Str)) && !(x == ("__classdict__" : Str))
def atN (N : List Str) (i : Nat) (x : Str) : Bool := match N[i]? with
  | some y => y == x
  | none => false
theorem atN_ok {N : List Str} {i : Nat} {x : Str} (h : atN N i x = true) : N[i]? = some x := by
  unfold atN at h
  split at h
  · rename_i y e; rw [e, beq_iff_eq.mp h]
  · cases h
def locN (sc : Scope) (x : Str) : Bool := match sc.names.lookup x with
  | some .local => nameOk x
  | _ => false
theorem locN_ok {sc : Scope} {x : Str} (h : locN sc x = true) : Vis sc x ∧ (x == ("__debug__" : Str)) = false ∧ (x == ("__classdict__" : Str)) = false := by
  unfold locN at h
  split at h
  · rename_i e
    simp only [nameOk, Bool.and_eq_true, Bool.not_eq_true'] at h
    exact ⟨.inl e, h⟩
  · cases h
/-- self.f = p -/
def asSet : Stmt → Option (Str × Str × Str)
  | .Assign [.Attribute (.Name s _) f _] (.Name p _) _ => some (s, f, p)
  | _ => none
theorem asSet_of {S : Stmt} {q : Str × Str × Str} (h : asSet S = some q) : ∃ p1 p2 p3 pos, S = .Assign [.Attribute (.Name q.1 p1) q.2.1 p2] (.Name q.2.2 p3) pos := by
  unfold asSet at h
  split at h
  · cases h; exact ⟨_, _, _, _, rfl⟩
  · cases h
def initB (N : List Str) (sc : Scope) : Nat → List String → List Stmt → Bool
  | _, [], l => l.isEmpty
  | i, f :: fs, l => match l with
    | S :: r => (match asSet S with
      | some q => ((atN N 0 q.1 && locN sc q.1) && (q.2.1 == fN f && (atN N i q.2.2 && locN sc q.2.2))) && initB N sc (i + 1) fs r
      | none => false)
    | [] => false
/-- the values put in, one field behind another -/
def putAllF : List String → List V → List (Str × V) → List (Str × V)
  | f :: fs, v :: vs, l => putAllF fs vs (putF (fN f) v l)
  | _, _, l => l
theorem putF_len (f : Str) (v : V) : ∀ l : List (Str × V), (putF f v l).length ≤ l.length + 1
  | [] => by simp [putF]
  | (g, x) :: r => by
    unfold putF
    split
    · simp
    · simp; exact putF_len f v r
theorem init_ps {X : Cx} : ∀ {fs : List String} {i : Nat} {body : List Stmt}, initB X.N X.env.scope i fs body = true → ∃ t, PSs X body t ∧
    ∀ (D : Ends) (σ : L2.St) (H : Hp) (a C dx : Addr) (us : List V) (l : List (Str × V)), us.length = fs.length → σ[0]? = some (some (.ref a)) → (∀ j v, us[j]? = some v → σ[i + j]? = some (some v)) → H a = some (.ins C dx l) → Cls X.K C →
      (∀ f ∈ fs, NoAttr X.K C (fN f)) → l.length + fs.length < 1000 → D.nx σ (upd H a (.ins C dx (putAllF fs us l))) → t D σ H
  | [], i, body, h => by
    cases body with
    | cons _ _ => simp [initB] at h
    | nil =>
      refine ⟨_, pss_nil, fun D σ H a C dx us l hl h0 hj hH hc hn hz q => ?_⟩
      have e : us = [] := List.eq_nil_of_length_eq_zero hl
      subst e
      have eu : upd H a (.ins C dx (putAllF [] [] l)) = H := by
        funext b
        by_cases hb : b = a
        · rw [hb, upd_same, hH]; rfl
        · rw [upd_ne hb]
      rw [eu] at q
      exact q
  | f :: fs, i, body, h => by
    cases body with
    | nil => simp [initB] at h
    | cons S r =>
      simp only [initB] at h
      split at h
      · rename_i q hq
        obtain ⟨p1, p2, p3, pos, rfl⟩ := asSet_of hq
        obtain ⟨s, g, p⟩ := q
        simp only [Bool.and_eq_true, beq_iff_eq] at h
        obtain ⟨⟨⟨h1, h2⟩, h3, h4, h5⟩, h6⟩ := h
        subst h3
        obtain ⟨t, ht, hu⟩ := init_ps h6
        obtain ⟨v1, v2, v3⟩ := locN_ok h2
        obtain ⟨w1, w2, w3⟩ := locN_ok h5
        refine ⟨_, pss_cons (ps_fld (pe_var (atN_ok h1) v1 v2 v3) (pe_var (atN_ok h4) w1 w2 w3) (by rfl)) ht, fun D σ H a C dx us l hl h0 hj hH hc hn hz q => ?_⟩
        cases us with
        | nil => simp at hl
        | cons v us =>
          refine ⟨v, by simpa using hj 0 v rfl, .ref a, h0, a, C, dx, l, rfl, hH, hc, hn f List.mem_cons_self, by simp at hz; omega, ?_⟩
          refine hu D σ (upd H a (.ins C dx (putF (fN f) v l))) a C dx us (putF (fN f) v l) (by simpa using hl) h0 (fun j x hx => ?_) upd_same hc (fun g hg => hn g (List.mem_cons_of_mem _ hg)) ?_ ?_
          · have := hj (j + 1) x (by simpa using hx)
            rw [show i + 1 + j = i + (j + 1) by omega]
            exact this
          · have := putF_len (fN f) v l
            simp at hz; omega
          · rw [upd_upd]
            exact q
      · cases h
/-- what __init__ gives -/
def spI (K : PySem.W.Frag) (flds : List String) : Sp := fun vs H Q E => ∃ (a C dx : Addr) (us : List V), vs = .ref a :: us ∧ us.length = flds.length ∧ H a = some (.ins C dx []) ∧ Cls K C ∧ (∀ f ∈ flds, NoAttr K C (fN f)) ∧ Q .non (upd H a (.ins C dx (putAllF flds us [])))
/-- a def __init__(self, ..) that keeps its parameters -/
def initFn (flds : List String) (N : List Str) (st : Stmt) : Bool := match plainOf (defArgs st) with
  | some as => (decide (as.length = flds.length + 1) && (N == as.map (·.arg) && (nodupB N && decide (flds.length < 100)))) &&
    ((decide ((defScope st).kind = .function) && (!(defScope st).isCoroutine && !(defScope st).isGenerator)) &&
    ((as.all (fun a => (defScope st).names.lookup a.arg == some .local || (defScope st).names.lookup a.arg == some .cell) && (defScope st).names.all (fun y => decide (y.2 ≠ .free))) && initB N (defScope st) 1 flds (defBody st)))
  | none => false
theorem init_fn {P : Program} {w : World} {K : PySem.W.Frag} {mg : Str → Option Value} {base : Heap} {flds : List String} {N : List Str} {st : Stmt} {nm qual : Str} {a : Addr} {fd : FuncData} (F : Fun K nm qual st a fd) (h : initFn flds N st = true) (k : Nat) :
    FnOk P w K mg base (L2.CX P w) (k + 1) a fd N (spI K flds) ∧ Binds K fd N [] := by
  unfold initFn at h
  split at h
  · rename_i as has
    simp only [Bool.and_eq_true, decide_eq_true_eq, beq_iff_eq, Bool.not_eq_true', List.all_eq_true, Bool.or_eq_true] at h
    obtain ⟨⟨h1, h2, h3, h4⟩, ⟨h5, h6, h7⟩, ⟨h8, h9⟩, h10⟩ := h
    have nd := nodupB_ok h3
    have ea := plainOf_of has
    have hN : N.length = flds.length + 1 := by rw [h2, List.length_map]; exact h1
    have S : FnScope N N (defScope st) := ⟨h5, h6, h7, nd, by simp, fun x hx => by
      rw [h2] at hx
      obtain ⟨y, hy, rfl⟩ := List.mem_map.mp hx
      exact h8 y hy, h9⟩
    refine ⟨F.okX S (fun vs H Q E z => ?_) fun cdv A outer s H vs Q E hr z => ?_, F.binds fun kV doc pm an cdv ct us hl => ?_⟩
    · obtain ⟨a, C, dx, us, rfl, hl, _⟩ := z
      rw [List.length_cons, hl, hN]
    · obtain ⟨b, C, dx, us, rfl, hl, hH, hc, hn, q⟩ := z
      obtain ⟨t, ht, hu⟩ := init_ps (X := cxOf (L2.CX P w) P w K mg base N qual (defScope st) a cdv A outer s H E) h10
      refine ⟨t, ht, hu _ (L2.start N (.ref b :: us)) H b C dx us [] hl ?_ (fun j v hv => ?_) hH hc hn (by simp; omega) q⟩
      · simp [L2.start]
      · have hj := (List.getElem?_eq_some_iff.mp hv).1
        unfold L2.start
        rw [List.getElem?_append_left (by simp; omega), List.getElem?_map, show 1 + j = j + 1 by omega, List.getElem?_cons_succ, hv]
        rfl
    · have e2 : N = as.map (·.arg) := h2
      rw [e2]
      exact bind_plain ea rfl (by rw [hl, hN, h1]) (by rw [← h2]; exact nd)
  · cases h
end Q

/-! __init__ of own exceptions -/
namespace Q
open PySem PySem.Spec PyProof.Rows L2

/-- the class of an own exception, by a look -/
def oexB (K : PySem.W.Frag) (C : Addr) : Bool := match K.lookup C with
  | some ⟨.type "type", _, .cls ⟨_, _, .ref C' :: bm, _, _, true, _, _, _, _, false⟩, sl⟩ => (match sl.toList with
    | [_, _, _, _, some (.builtin n), _] => C' == C && (n == "ValueError.__new__" && PySem.HandSPX.refsVE bm)
    | _ => false)
  | _ => false
theorem oexB_ok {K : PySem.W.Frag} {C : Addr} (h : oexB K C = true) : ∃ nm q N bs bm sn sub ab col dd k0 k1 k2 k3 k5, K.lookup C = some (excClassObj nm q C N bs bm true sn sub ab col dd k0 k1 k2 k3 k5 "ValueError.__new__") ∧ PySem.HandSPX.refsVE bm = true := by
  unfold oexB at h
  split at h
  · rename_i dd nm bs C' bm ns qn sn sub ab col sl ho
    split at h
    · rename_i k0 k1 k2 k3 n k5 hs
      simp only [Bool.and_eq_true, beq_iff_eq] at h
      obtain ⟨rfl, rfl, h3⟩ := h
      have hsl : sl = #[k0, k1, k2, k3, some (.builtin "ValueError.__new__"), k5] := by
        obtain ⟨l⟩ := sl
        simp only at hs
        rw [hs]
      subst hsl
      exact ⟨_, _, _, _, _, _, _, _, _, _, _, _, _, _, _, ho, h3⟩
    · cases h
  · cases h
/-- the base whose __init__ is called -/
structure Sup (K : PySem.W.Frag) (CS : Addr) : Prop where
  sp : PySem.W.specialIn K (.ref CS) "__getattribute__" = some (some (.builtin "type.__getattribute__"))
  rd : PySem.W.readsIn K CS (.type "type") = true
  at_ : PySem.W.findCls K (.ref CS) (.type "type") "__init__" = some (.val (.builtin "ValueError.__init__"))
section
variable {X : Cx} {x : Str} {e : Expr} {es : List Expr} {ta : TA} {p1 p2 pos : Pos} {CS : Addr}
theorem pe_supinit {pl : Sem Bool} (hg : Gl X x) (hm : X.mg x = some (.ref CS)) (hdb : (x == ("__debug__" : Str)) = false) (S : Sup X.K CS) (ha : PA X (e :: es) ta)
    (hc : eval (.Call (.Attribute (.Name x p1) "__init__" p2) (e :: es) [] pos) X.env = (do
      let ov ← eval (.Name x p1) X.env
      standAt p2.atName
      let (f, first) ← holding [ov] (getMethod ov "__init__" pl)
      callWith pos f first (backTo pos (starEach (e :: es) X.env)) (backToKw pos (keywordEach [] X.env))))
    (he : starEach (e :: es) X.env = (false, eval e X.env) :: starEach es X.env) (hpl : (backTo pos (starEach es X.env)).any (·.1) = false) :
    PE X (.Call (.Attribute (.Name x p1) "__init__" p2) (e :: es) [] pos) (tVeI X.K ta) := by
  refine ⟨fun pins s σ H Q I h => ?_⟩
  refine PySem.W.methodCall_KW (ld_glob I hg hm ?_ hdb) hc
  refine PySem.W.method_cls I.kIn S.sp (PySem.W.cls_value I.kIn S.rd S.at_ (by decide +kernel) ?_)
  show wpAny _ _ (callWith pos (Value.builtin "ValueError.__init__") [] (backTo pos (starEach (e :: es) X.env)) []) _ _ _
  refine PyProof.Rows.callWith_method1 (thn (ha.run pos pins _ σ H _ (I.tok _) h) fun us s1 ⟨vs, H1, I1, r1, a, C, ws, ev, hl, T, ea, q⟩ => ?_) he hpl
  subst ev
  cases r1 with
  | @cons _ u0 _ ur ra rw' =>
    obtain rfl : u0 = Value.ref a := ra
    have hlen : ur.length ≤ sizeLine := by
      rw [← Paired.length rw', sizeLine_eq]
      omega
    exact oinit_ok T I1 ea hlen fun s' J => ⟨.non, H1, J, rfl, q⟩
end
/-- B.__init__(self, "..") -/
def asSup : Stmt → Option (Str × Str × Str)
  | .Expr (.Call (.Attribute (.Name b _) g p2) [.Name s _, .Constant (.str m) _ _] [] pos) _ => if (g == ("__init__" : Str) && p2.endLine == pos.line) = true then some (b, s, m) else none
  | _ => none
theorem asSup_of {S : Stmt} {q : Str × Str × Str} (h : asSup S = some q) : ∃ p1 p2 p3 k p4 pos pos2, S = .Expr (.Call (.Attribute (.Name q.1 p1) "__init__" p2) [.Name q.2.1 p3, .Constant (.str q.2.2) k p4] [] pos) pos2 ∧ (p2.endLine == pos.line) = true := by
  unfold asSup at h
  split at h
  · split at h
    · rename_i hp
      rw [Bool.and_eq_true, beq_iff_eq] at hp
      cases h
      obtain ⟨h1, h2⟩ := hp
      subst h1
      exact ⟨_, _, _, _, _, _, _, rfl, h2⟩
    · cases h
  · cases h
def initXB (G : List (Str × Gn)) (N : List Str) (sc : Scope) (flds : List String) (l : List Stmt) : Bool := match l with
  | S :: r => (match asSup S with
    | some q => ((match sc.names.lookup q.1 with
      | some .globalImplicit => nameOk q.1
      | _ => false) && G.lookup q.1 == some (.cl .SayError)) && ((atN N 0 q.2.1 && locN sc q.2.1) && initB N sc 1 flds r)
    | none => false)
  | [] => false
/-- the fields put behind one another in an exception's dict -/
theorem initx_ps {X : Cx} : ∀ {fs : List String} {i : Nat} {body : List Stmt}, initB X.N X.env.scope i fs body = true → ∃ t, PSs X body t ∧
    ∀ (D : Ends) (σ : L2.St) (H : Hp) (a C dx : Addr) (us : List V) (l : List (Str × V)), us.length = fs.length → σ[0]? = some (some (.ref a)) → (∀ j v, us[j]? = some v → σ[i + j]? = some (some v)) → H a = some (exo a C (some dx)) → H dx = some (exd dx l) → dx ≠ a → OexC X.K C →
      (∀ f ∈ fs, PySem.W.findIn X.K (.ref C) (fN f) = some none) → l.length + fs.length ≤ 900 → D.nx σ (upd H dx (exd dx (((fs.map fN).zip us).reverse ++ l))) → t D σ H
  | [], i, body, h => by
    cases body with
    | cons _ _ => simp [initB] at h
    | nil =>
      refine ⟨_, pss_nil, fun D σ H a C dx us l hl h0 hj hH hd nd hc hn hz q => ?_⟩
      have eu : upd H dx (exd dx (((([] : List String).map fN).zip us).reverse ++ l)) = H := by
        funext b
        by_cases hb : b = dx
        · rw [hb, upd_same, hd]; rfl
        · rw [upd_ne hb]
      rw [eu] at q
      exact q
  | f :: fs, i, body, h => by
    cases body with
    | nil => simp [initB] at h
    | cons S r =>
      simp only [initB] at h
      split at h
      · rename_i q hq
        obtain ⟨p1, p2, p3, pos, rfl⟩ := asSet_of hq
        obtain ⟨s, g, p⟩ := q
        simp only [Bool.and_eq_true, beq_iff_eq] at h
        obtain ⟨⟨⟨h1, h2⟩, h3, h4, h5⟩, h6⟩ := h
        subst h3
        obtain ⟨t, ht, hu⟩ := initx_ps h6
        obtain ⟨v1, v2, v3⟩ := locN_ok h2
        obtain ⟨w1, w2, w3⟩ := locN_ok h5
        refine ⟨_, pss_cons (ps_ost (pe_var (atN_ok h1) v1 v2 v3) (pe_var (atN_ok h4) w1 w2 w3) (by rfl)) ht, fun D σ H a C dx us l hl h0 hj hH hd nd hc hn hz q => ?_⟩
        cases us with
        | nil => simp at hl
        | cons v us =>
          refine ⟨v, by simpa using hj 0 v rfl, .ref a, h0, a, C, rfl, hc, hn f List.mem_cons_self, .inr ⟨dx, l, hH, hd, by simp at hz; omega, ?_⟩⟩
          refine hu D σ (upd H dx (exd dx ((fN f, v) :: l))) a C dx us ((fN f, v) :: l) (by simpa using hl) h0 (fun j x hx => ?_) (by rw [upd_ne (Ne.symm nd)]; exact hH) upd_same nd hc (fun g hg => hn g (List.mem_cons_of_mem _ hg)) (by simp at hz ⊢; omega) ?_
          · have := hj (j + 1) x (by simpa using hx)
            rw [show i + 1 + j = i + (j + 1) by omega]
            exact this
          · rw [upd_upd]
            have e : ((fs.map fN).zip us).reverse ++ (fN f, v) :: l = (((f :: fs).map fN).zip (v :: us)).reverse ++ l := by simp
            rw [e]
            exact q
      · cases h
/-- .. the first one lays the dict -/
theorem initx_ps1 {X : Cx} {f : String} {fs : List String} {i : Nat} {body : List Stmt} (h : initB X.N X.env.scope i (f :: fs) body = true) : ∃ t, PSs X body t ∧
    ∀ (D : Ends) (σ : L2.St) (H : Hp) (a C : Addr) (us : List V), us.length = (f :: fs).length → σ[0]? = some (some (.ref a)) → (∀ j v, us[j]? = some v → σ[i + j]? = some (some v)) → H a = some (exo a C none) → OexC X.K C →
      (∀ g ∈ f :: fs, PySem.W.findIn X.K (.ref C) (fN g) = some none) → (f :: fs).length ≤ 900 → (∀ dx, H dx = none → dx ≠ a → D.nx σ (upd (upd H a (exo a C (some dx))) dx (exd dx (((f :: fs).map fN).zip us).reverse))) → t D σ H := by
  cases body with
  | nil => simp [initB] at h
  | cons S r =>
    simp only [initB] at h
    split at h
    · rename_i q hq
      obtain ⟨p1, p2, p3, pos, rfl⟩ := asSet_of hq
      obtain ⟨s, g, p⟩ := q
      simp only [Bool.and_eq_true, beq_iff_eq] at h
      obtain ⟨⟨⟨h1, h2⟩, h3, h4, h5⟩, h6⟩ := h
      subst h3
      obtain ⟨t, ht, hu⟩ := initx_ps h6
      obtain ⟨v1, v2, v3⟩ := locN_ok h2
      obtain ⟨w1, w2, w3⟩ := locN_ok h5
      refine ⟨_, pss_cons (ps_ost (pe_var (atN_ok h1) v1 v2 v3) (pe_var (atN_ok h4) w1 w2 w3) (by rfl)) ht, fun D σ H a C us hl h0 hj hH hc hn hz q => ?_⟩
      cases us with
      | nil => simp at hl
      | cons v us =>
        refine ⟨v, by simpa using hj 0 v rfl, .ref a, h0, a, C, rfl, hc, hn f List.mem_cons_self, .inl ⟨hH, fun dx n1 n2 => ?_⟩⟩
        refine hu D σ _ a C dx us [(fN f, v)] (by simpa using hl) h0 (fun j x hx => ?_) upd_same ?_ n2 hc (fun g hg => hn g (List.mem_cons_of_mem _ hg)) (by simp at hz ⊢; omega) ?_
        · have := hj (j + 1) x (by simpa using hx)
          rw [show i + 1 + j = i + (j + 1) by omega]
          exact this
        · rw [upd_ne n2, upd_same]
        · have q2 := q dx n1 n2
          have e : ((fs.map fN).zip us).reverse ++ [(fN f, v)] = (((f :: fs).map fN).zip (v :: us)).reverse := by simp
          rw [e]
          have eu : upd (upd (upd H dx (exd dx [(fN f, v)])) a (exo a C (some dx))) dx (exd dx (((f :: fs).map fN).zip (v :: us)).reverse) = upd (upd H a (exo a C (some dx))) dx (exd dx (((f :: fs).map fN).zip (v :: us)).reverse) := by
            funext b
            by_cases hb : b = dx
            · rw [hb, upd_same, upd_same]
            · rw [upd_ne hb, upd_ne hb]
              by_cases hb2 : b = a
              · rw [hb2, upd_same, upd_same]
              · rw [upd_ne hb2, upd_ne hb2, upd_ne hb]
          rw [eu]
          exact q2
    · cases h
def spX (K : PySem.W.Frag) (flds : List String) : Sp := fun vs H Q E => ∃ (a C : Addr) (us : List V), vs = .ref a :: us ∧ us.length = flds.length ∧ H a = some (exo a C none) ∧ OexC K C ∧ (∀ g ∈ flds, PySem.W.findIn K (.ref C) (fN g) = some none) ∧
  ∀ dx, H dx = none → dx ≠ a → Q .non (upd (upd H a (exo a C (some dx))) dx (exd dx ((flds.map fN).zip us).reverse))
def initXFn (G : List (Str × Gn)) (flds : List String) (N : List Str) (st : Stmt) : Bool := match plainOf (defArgs st) with
  | some as => (decide (as.length = flds.length + 1) && (N == as.map (·.arg) && (nodupB N && (decide (flds.length < 100) && !flds.isEmpty)))) &&
    ((decide ((defScope st).kind = .function) && (!(defScope st).isCoroutine && !(defScope st).isGenerator)) &&
    ((as.all (fun a => (defScope st).names.lookup a.arg == some .local || (defScope st).names.lookup a.arg == some .cell) && (defScope st).names.all (fun y => decide (y.2 ≠ .free))) && initXB G N (defScope st) flds (defBody st)))
  | none => false
theorem initx_fn {G : List (Str × Gn)} {P : Program} {w : World} {K : PySem.W.Frag} {mg : Str → Option Value} {base : Heap} {flds : List String} {N : List Str} {st : Stmt} {nm qual : Str} {a : Addr} {fd : FuncData} (F : Fun K nm qual st a fd) (h : initXFn G flds N st = true) (k : Nat)
    {CS : Addr} (hS : ∀ x, G.lookup x = some (.cl .SayError) → mg x = some (.ref CS) ∧ Sup K CS) :
    FnOk P w K mg base (L2.CX P w) (k + 1) a fd N (spX K flds) ∧ Binds K fd N [] := by
  unfold initXFn at h
  split at h
  · rename_i as has
    simp only [Bool.and_eq_true, decide_eq_true_eq, beq_iff_eq, Bool.not_eq_true', List.all_eq_true, Bool.or_eq_true] at h
    obtain ⟨⟨h1, h2, h3, h4, h4'⟩, ⟨h5, h6, h7⟩, ⟨h8, h9⟩, h10⟩ := h
    have nd := nodupB_ok h3
    have ea := plainOf_of has
    have hN : N.length = flds.length + 1 := by rw [h2, List.length_map]; exact h1
    have S : FnScope N N (defScope st) := ⟨h5, h6, h7, nd, by simp, fun x hx => by
      rw [h2] at hx
      obtain ⟨y, hy, rfl⟩ := List.mem_map.mp hx
      exact h8 y hy, h9⟩
    refine ⟨F.okX S (fun vs H Q E z => ?_) fun cdv A outer s H vs Q E hr z => ?_, F.binds fun kV doc pm an cdv ct us hl => ?_⟩
    · obtain ⟨a, C, us, rfl, hl, _⟩ := z
      rw [List.length_cons, hl, hN]
    · obtain ⟨b, C, us, rfl, hl, hH, hc, hn, q⟩ := z
      generalize defBody st = body at h10 ⊢
      cases body with
      | nil => simp [initXB] at h10
      | cons S1 r =>
        simp only [initXB] at h10
        split at h10
        · rename_i q1 hq1
          obtain ⟨p1, p2, p3, kk, p4, pos, pos2, rfl, hln⟩ := asSup_of hq1
          obtain ⟨bn, sn, msg⟩ := q1
          simp only [Bool.and_eq_true, beq_iff_eq] at h10
          obtain ⟨⟨g1, g2⟩, ⟨g3, g4⟩, g5⟩ := h10
          cases flds with
          | nil => cases h4'
          | cons f fs =>
            let X : Cx := cxOf (L2.CX P w) P w K mg base N qual (defScope st) a cdv A outer s H E
            obtain ⟨t, ht, hu⟩ := initx_ps1 (X := X) g5
            obtain ⟨s1, s2⟩ := hS bn g2
            obtain ⟨v1, v2, v3⟩ := locN_ok g4
            have hg : Gl X bn ∧ (bn == ("__debug__" : Str)) = false := by
              split at g1
              · rename_i e
                simp only [nameOk, Bool.and_eq_true, Bool.not_eq_true'] at g1
                exact ⟨by unfold Gl Env.kindOf; exact e, g1.1⟩
              · cases g1
            have hfew : ((backTo pos (starEach [Expr.Name sn p3, Expr.Constant (.str msg) kk p4] X.env)).all (fun x => !x.1) && (backToKw pos (keywordEach [] X.env)).all (fun x => x.1.isSome) && decide ([Expr.Name sn p3, Expr.Constant (.str msg) kk p4].length + ([] : List Keyword).length + (if ([] : List Keyword).isEmpty then 0 else 1) < 30)) = true := by rfl
            have pe := pe_supinit (X := X) (p1 := p1) (p2 := p2) (pos := pos) hg.1 s1 hg.2 s2 (pa_cons (pe_var (pos := p3) (atN_ok g3) v1 v2 v3) (pa_cons (pe_str (x := msg)) pa_nil)) (meth_tree (by rfl) hln hfew) (by rfl) (by rfl)
            refine ⟨_, pss_cons (ps_expr pe) ht, ?_⟩
            have h0 : (L2.start N (.ref b :: us))[0]? = some (some (.ref b)) := by simp [L2.start]
            refine ⟨.ref b, h0, b, C, [.str msg], rfl, by simp, hc, hH, ?_⟩
            refine hu _ (L2.start N (.ref b :: us)) H b C us hl h0 (fun j v hv => ?_) hH hc hn (by omega) q
            have hj := (List.getElem?_eq_some_iff.mp hv).1
            unfold L2.start
            rw [List.getElem?_append_left (by simp; omega), List.getElem?_map, show 1 + j = j + 1 by omega, List.getElem?_cons_succ, hv]
            rfl
        · cases h10
    · have e2 : N = as.map (·.arg) := h2
      rw [e2]
      exact bind_plain ea rfl (by rw [hl, hN, h1]) (by rw [← h2]; exact nd)
  · cases h
end Q

/-! the given text is mine: the check; the contexts in which a text stands -/
namespace Q
open PySem PySem.Spec PyProof.Rows L2

/-- a law's world -/
structure Wl where
  C : Cn → Addr
  has : Cn → Bool
  T : Tab
/-- where a text stands -/
structure Ck where
  G : List (Str × Gn)
  sc : Scope
  N : List Str
  fn : Str → Bool
  hot : Bool
def glB (c : Ck) (x : Str) : Bool := match c.sc.names.lookup x with
  | some .globalImplicit => nameOk x
  | _ => false
def visB (c : Ck) (x : Str) : Bool := match c.sc.names.lookup x with
  | some .local => nameOk x
  | some .cell => nameOk x
  | some .free => nameOk x
  | _ => false
def locB (c : Ck) (x : Str) : Bool := match c.sc.names.lookup x with
  | some .local => true
  | some .cell => c.fn x
  | _ => false
def atB (c : Ck) (i : Nat) (x : Str) : Bool := match c.N[i]? with
  | some y => y == x
  | none => false
def cstB : D → Const → Bool
  | .non, .none => true
  | .bl b, .bool c => b == c
  | .int i, .int j => i == j
  | .str x, .str y => x == y && PyData.strOk x
  | _, _ => false
def fldKnown (f : String) : Bool := ["at", "word", "line", "name", "part", "one", "other", "kept"].contains f
def tyB1 (c : Ck) (t : Ty) (e : Expr) : Bool := match asName e with
  | some x => glB c x && (match t with
    | .tint => x == ("int" : Str)
    | .tbool => x == ("bool" : Str)
    | .tstr => x == ("str" : Str)
    | .ttuple => x == ("tuple" : Str)
    | .tlist => x == ("list" : Str)
    | .tval => x == ("ValueError" : Str)
    | .own d => c.G.lookup x == some (.cl d))
  | none => false
def tyBs (c : Ck) : List Ty → List Expr → Bool
  | [], [] => true
  | t :: ts, e :: es => noStar e && (tyB1 c t e && tyBs c ts es)
  | _, _ => false
def tyB (c : Ck) (ts : List Ty) (e : Expr) : Bool := match ts with
  | [t] => tyB1 c t e
  | ts => match asTup e with
    | some l => tyBs c ts l && decide (l.length ≤ 100)
    | none => false
def namesB (c : Ck) : List Nat → List Expr → Bool
  | [], [] => true
  | i :: is, e :: es => (match asName e with
    | some x => atB c i x && locB c x
    | none => false) && namesB c is es
  | _, _ => false
def tgB (c : Ck) (t : Tg) (e : Expr) : Bool := match t with
  | .one i => (match asName e with
    | some x => atB c i x && locB c x
    | none => false)
  | .many is => match asTup e with
    | some l => namesB c is l
    | none => false
def tgIn (own : List Nat) : Tg → Bool
  | .one i => own.contains i
  | .many is => is.all own.contains
def ownL (c : Ck) (own : List Nat) : List (Str × Nat) := own.map fun i => ((c.N[i]?).getD ("" : Str), i)
def blkB (c : Ck) (sc : Scope) (own : List Nat) : Bool :=
  decide (sc.kind = .function) && (sc.names.all (fun y => sc.names.lookup y.1 == some y.2) && (own.all (fun i => decide (i < c.N.length)) &&
    (sc.names.all (fun y => if y.2 = .free then (match c.sc.names.lookup y.1 with
      | some .cell => true
      | some .free => true
      | _ => false) else if y.2 = .local ∨ y.2 = .cell then ((ownL c own).map (·.1)).contains y.1 || !c.N.contains y.1 else true))))
def Ck.blk (c : Ck) (sc : Scope) : Ck := { c with sc := relS sc c.sc, fn := fun x => sc.names.lookup x == some .cell }
def few (l : List Expr) : Bool := decide (l.length ≤ 20)
def Exs.len : Exs → Nat
  | .nil => 0
  | .cons _ r => r.len + 1
def Exs.isNil : Exs → Bool
  | .nil => true
  | _ => false
def Bi.ok : Bi → Bool
  | .sortedset | .sorted | .lenset => false
  | _ => true
mutual
def chkE (c : Ck) : Ex → Expr → Bool
  | .v i, E => match asName E with
    | some x => atB c i x && visB c x
    | none => false
  | .k d, E => match asConst E with
    | some q => cstB d q
    | none => false
  | .g y, E => match asName E with
    | some x => glB c x && c.G.lookup x == some (.con y)
    | none => false
  | .tup es, E => match asTup E with
    | some l => chkEs c es l && decide (l.length ≤ 1000)
    | none => false
  | .lst es, E => match asLst E with
    | some l => chkEs c es l && decide (l.length ≤ 1000)
    | none => false
  | .dic t es, E => match asDict E with
    | some q => (t || !t) && (es.isNil && (q.1.isEmpty && q.2.isEmpty))
    | none => false
  | .bin o a b, E => match asBin E with
    | some q => decide (q.1 = o.op) && (chkE c a q.2.1 && chkE c b q.2.2)
    | none => false
  | .neg a, E => match asNeg E with
    | some x => chkE c a x
    | none => false
  | .cmp o a b, E => match asCmp1 E with
    | some q => decide (q.1 = o.op) && (noSet q.2.2 && (chkE c a q.2.1 && chkE c b q.2.2))
    | none => false
  | .chn o p a b d, E => match asCmp2 E with
    | some q => decide (q.1 = o.op) && (decide (q.2.1 = p.op) && (noSet q.2.2.2.2 && (chkE c a q.2.2.1 && (chkE c b q.2.2.2.1 && chkE c d q.2.2.2.2))))
    | none => false
  | .isn a n, E => match asCmp1 E with
    | some q => decide (q.1 = if n then .IsNot else .Is) && (decide (asConst q.2.2 = some .none) && chkE c a q.2.1)
    | none => false
  | .ist a b n, E => match asCmp1 E with
    | some q => decide (q.1 = if n then .IsNot else .Is) && (decide (asConst q.2.2 = some (.bool b)) && chkE c a q.2.1)
    | none => false
  | .not a, E => match asNot E with
    | some x => chkE c a x
    | none => false
  | .and es, E => match asAnd E with
    | some l => chkEs c es l && !l.isEmpty
    | none => false
  | .or es, E => match asOr E with
    | some l => chkEs c es l && !l.isEmpty
    | none => false
  | .orv a b, E => match asOr E with
    | some [x, y] => chkE c a x && chkE c b y
    | _ => false
  | .ite q a b, E => match asIf E with
    | some r => chkE c q r.1 && (chkE c a r.2.1 && chkE c b r.2.2)
    | none => false
  | .sub a i, E => match asSub E with
    | some q => noSlice q.2 && (chkE c a q.1 && chkE c i q.2)
    | none => false
  | .slc a lo hi, E => match asSub E with
    | some q => (match asSlc q.2 with
      | some r => chkE c a q.1 && (chkO c lo r.1 && chkO c hi r.2)
      | none => false)
    | none => false
  | .fld a f, E => match asAttr E with
    | some q => q.2 == fN f && (fldKnown f && (plainB q.1 && chkE c a q.1))
    | none => false
  | .call f es, E => match asCall E with
    | some q => (!c.hot && (glB c q.1 && c.G.lookup q.1 == some (.fn f))) && chkEs c es q.2
    | none => false
  | .mk d es, E => match asCall E with
    | some q => ((!c.hot && (glB c q.1 && c.G.lookup q.1 == some (.cl d))) && (c.G.lookup (mkN d) == some (.mk d) && !d.isExc)) && (chkEs c es q.2 && decide (q.2.length = d.flds.length))
    | none => false
  | .mth a m es, E => match asMeth E with
    | some q => ((!c.hot && q.2.1 == fN m) && (plainB q.1 && !fldKnown m)) && (chkE c a q.1 && (chkEs c es q.2.2 && few q.2.2))
    | none => false
  | .b f es, E => match asCall E with
    | some q => (!c.hot && (f.ok && (glB c q.1 && q.1 == Str.ofString f.val.1))) && (chkEs c es q.2 && !q.2.isEmpty)
    | none => false
  | .bm m a es, E => match asMeth E with
    | some q => (q.2.1 == Str.ofString m.name && plainB q.1) && (chkE c a q.1 && (chkEs c es q.2.2 && few q.2.2))
    | none => false
  | .isi a ts, E => match asCall E with
    | some (x, [e, t]) => (glB c x && x == ("isinstance" : Str)) && ((noStar e && noStar t) && (chkE c a e && tyB c ts t))
    | _ => false
  | .gget _ _, _ => false
  | .gin _ _ _, _ => false
  | .comp e tg it q own, E => match asLc E with
    | some r => (!c.hot && (noSet r.2.2.1 && (blkB c r.2.2.2.2 own && tgIn own tg))) && (chkI c it r.2.1 r.2.2.1 && (tgB (c.blk r.2.2.2.2) tg r.2.1 && (chkC (c.blk r.2.2.2.2) q r.2.2.2.1 && chkE (c.blk r.2.2.2.2) e r.1)))
    | none => false
  | .jst _, _ => false
def chkEs (c : Ck) : Exs → List Expr → Bool
  | .nil, l => l.isEmpty
  | .cons e es, l => match l with
    | x :: r => noStar x && (chkE c e x && chkEs c es r)
    | [] => false
def chkO (c : Ck) : Eo → Option Expr → Bool
  | .none, o => o.isNone
  | .some e, o => match o with
    | some x => chkE c e x
    | none => false
def chkC (c : Ck) : Eo → List Expr → Bool
  | .none, l => l.isEmpty
  | .some e, l => match l with
    | [x] => chkE c e x
    | _ => false
def chkI (c : Ck) : It → Expr → Expr → Bool
  | .sq e, _, E => chkE c e E
  | .r1 a, _, E => match asCall E with
    | some (x, [p]) => (glB c x && x == ("range" : Str)) && (noStar p && chkE c a p)
    | _ => false
  | .r2 a b, _, E => match asCall E with
    | some (x, [p, q]) => (glB c x && x == ("range" : Str)) && ((noStar p && noStar q) && (chkE c a p && chkE c b q))
    | _ => false
  | .r3 a b d, _, E => match asCall E with
    | some (x, [p, q, t]) => (glB c x && x == ("range" : Str)) && ((noStar p && (noStar q && noStar t)) && (chkE c a p && (chkE c b q && chkE c d t)))
    | _ => false
  | .enum e, T, E => match asTup T, asCall E with
    | some _, some (x, [p]) => (glB c x && x == ("enumerate" : Str)) && (noStar p && chkE c e p)
    | _, _ => false
  | .zip a b, T, E => match asTup T, asCall E with
    | some _, some (x, [p, q]) => (glB c x && x == ("zip" : Str)) && ((noStar p && noStar q) && (chkE c a p && chkE c b q))
    | _, _ => false
  | .items _, _, _ => false
end

/-! ### statements -/
def isLcEx : Ex → Bool
  | .comp _ _ _ _ _ => true
  | _ => false
def asAsg : Stmt → Option (Expr × Expr)
  | .Assign [t] v _ => some (t, v)
  | _ => none
theorem asAsg_of {e : Stmt} {x : Expr × Expr} (h : asAsg e = some x) : ∃ p, e = .Assign [x.1] x.2 p := by
  unfold asAsg at h
  split at h
  · cases h; exact ⟨_, rfl⟩
  · cases h
def asExpr : Stmt → Option Expr
  | .Expr v _ => some v
  | _ => none
theorem asExpr_of {e : Stmt} {x : Expr} (h : asExpr e = some x) : ∃ p, e = .Expr x p := by
  cases e <;> cases h; exact ⟨_, rfl⟩
def asRet : Stmt → Option (Option Expr)
  | .Return v _ => some v
  | _ => none
theorem asRet_of {e : Stmt} {x : Option Expr} (h : asRet e = some x) : ∃ p, e = .Return x p := by
  cases e <;> cases h; exact ⟨_, rfl⟩
def asIfS : Stmt → Option (Expr × List Stmt × List Stmt)
  | .If c a b _ => some (c, a, b)
  | _ => none
theorem asIfS_of {e : Stmt} {x : Expr × List Stmt × List Stmt} (h : asIfS e = some x) : ∃ p, e = .If x.1 x.2.1 x.2.2 p := by
  cases e <;> cases h; exact ⟨_, rfl⟩
def asWhl : Stmt → Option (Expr × List Stmt)
  | .While c a [] _ => some (c, a)
  | _ => none
theorem asWhl_of {e : Stmt} {x : Expr × List Stmt} (h : asWhl e = some x) : ∃ p, e = .While x.1 x.2 [] p := by
  unfold asWhl at h
  split at h
  · cases h; exact ⟨_, rfl⟩
  · cases h
def asFor : Stmt → Option (Expr × Expr × List Stmt)
  | .For t i a [] _ => some (t, i, a)
  | _ => none
theorem asFor_of {e : Stmt} {x : Expr × Expr × List Stmt} (h : asFor e = some x) : ∃ p, e = .For x.1 x.2.1 x.2.2 [] p := by
  unfold asFor at h
  split at h
  · cases h; exact ⟨_, rfl⟩
  · cases h
def asRaise : Stmt → Option Expr
  | .Raise (some e) none _ => some e
  | _ => none
theorem asRaise_of {e : Stmt} {x : Expr} (h : asRaise e = some x) : ∃ p, e = .Raise (some x) none p := by
  unfold asRaise at h
  split at h
  · cases h; exact ⟨_, rfl⟩
  · cases h
def asTry : Stmt → Option (List Stmt × List ExceptHandler)
  | .Try b hs [] [] _ => some (b, hs)
  | _ => none
theorem asTry_of {e : Stmt} {x : List Stmt × List ExceptHandler} (h : asTry e = some x) : ∃ p, e = .Try x.1 x.2 [] [] p := by
  unfold asTry at h
  split at h
  · cases h; exact ⟨_, rfl⟩
  · cases h
def isPass : Stmt → Bool
  | .Pass _ => true
  | _ => false
def isBrk : Stmt → Bool
  | .Break _ => true
  | _ => false
def isCnt : Stmt → Bool
  | .Continue _ => true
  | _ => false
def notTup : Expr → Bool
  | .Tuple .. => false
  | _ => true
/-- two names, on one line, and two values that are not folded -/
def parB (c : Ck) (i j : Nat) (T V : Expr) : Option (Expr × Expr) := match T, V with
  | .Tuple [.Name x px, .Name y py] _ _, .Tuple [a, b] _ _ =>
    if (atB c i x && (atB c j y && decide (i ≠ j))) && ((c.sc.names.lookup x == some .local && (c.sc.names.lookup y == some .local && px.line == py.line)) && ((noStar a && noStar b) && (decide (c.sc.kind = .function) && (!([a, b].all (foldedForSure 8)) && (!([a, b].all (constantsAlone 8)) && !(x == y)))))) = true then some (a, b) else none
  | _, _ => none
mutual
def chkS (c : Ck) : Sm → Stmt → Bool
  | .pass, S => isPass S
  | .set i e, S => match asAsg S with
    | some q => (match asName q.1 with
      | some x => (atB c i x && locB c x) && (chkE c e q.2 && (!isLc q.2 || isLcEx e))
      | none => false)
    | none => false
  | .setT is e, S => match asAsg S with
    | some q => (match asTup q.1 with
      | some l => (!c.hot && namesB c is l) && (chkE c e q.2 && notTup q.2)
      | none => false)
    | none => false
  | .par i j a b, S => match asAsg S with
    | some q => (match parB c i j q.1 q.2 with
      | some r => !c.hot && (chkE c a r.1 && chkE c b r.2)
      | none => false)
    | none => false
  | .setI o i e, S => match asAsg S with
    | some q => (match asSub q.1 with
      | some r => noSlice r.2 && (chkE c o r.1 && (chkE c i r.2 && chkE c e q.2))
      | none => false)
    | none => false
  | .ex e, S => match asExpr S with
    | some x => !isLc x && chkE c e x
    | none => false
  | .ret e, S => match asRet S with
    | some (some x) => chkE c e x
    | _ => false
  | .retN, S => match asRet S with
    | some none => true
    | _ => false
  | .ite q a b, S => match asIfS S with
    | some r => chkE c q r.1 && (chkB c a r.2.1 && chkB c b r.2.2)
    | none => false
  | .whl q a, S => match asWhl S with
    | some r => !c.hot && (chkE c q r.1 && chkB c a r.2)
    | none => false
  | .for tg it a, S => match asFor S with
    | some r => (!c.hot && noSet r.2.1) && (chkI c it r.1 r.2.1 && (tgB c tg r.1 && chkB c a r.2.2))
    | none => false
  | .brk, S => isBrk S
  | .cnt, S => isCnt S
  | .raise d es, S => match asRaise S with
    | some e => (match asCall e with
      | some q => ((!c.hot && (d.plainExc || (d.isExc && (c.G.lookup (mkN d) == some (.mk d) && !d.flds.isEmpty)))) && (glB c q.1 && c.G.lookup q.1 == some (.cl d))) && (chkEs c es q.2 && (!q.2.isEmpty && decide (q.2.length ≤ 1000)))
      | none => false)
    | none => false
  | .try a hs, S => match asTry S with
    | some q => (!c.hot && !q.2.isEmpty) && (chkB c a q.1 && chkH c hs q.2)
    | none => false
def chkB (c : Ck) : Bl → List Stmt → Bool
  | .nil, l => l.isEmpty
  | .cons x r, l => match l with
    | y :: t => chkS c x y && chkB c r t
    | [] => false
def chkH (c : Ck) : Hds → List ExceptHandler → Bool
  | .nil, l => l.isEmpty
  | .cons d i b r, l => match l with
    | .ExceptHandler (some (.Name x _)) nm (y :: t) _ :: l2 => ((glB c x && c.G.lookup x == some (.cl d)) && (d.isExc && (match i, nm with
        | none, none => true
        | some i, some n => atB c i n && c.sc.names.lookup n == some .local
        | _, _ => false))) && (chkB { c with hot := true } b (y :: t) && chkH c r l2)
    | _ => false
end

/-! ### contexts -/
/-- what a call of a def gives -/
def spF (W : Wd) (T : Tab) (f : String) (k : Nat) : Sp := fun vs H Q E => ∃ r hs ds, Mt W r H hs ∧ Rvs W r H ds vs ∧ Post (Rv W) W (fun c d _ H => E c d H) [] r H (call T k f ds hs) Q
def FnS (X : Cx) (L : Wl) (k : Nat) (f : String) (x : Str) : Prop := ∃ (a : Addr) (fd : FuncData) (ps : List Str), X.mg x = some (.ref a) ∧ PySem.W.keepIn X.K (.ref a) = true ∧
  FnOk X.prog X.w X.K X.mg X.base (L2.CX X.prog X.w) (k + 2) a fd ps (spF ⟨X.K, L.C, L.has⟩ L.T f k) ∧ Binds X.K fd ps []
/-- a method of a class -/
def MtS (X : Cx) (L : Wl) (k : Nat) (c : Cn) (m f : String) : Prop := (L.has c = true ∧ c.isExc = false) ∧ ∃ (a : Addr) (fd : FuncData) (ps : List Str), Meth X.K (L.C c) (fN m) a ∧
  FnOk X.prog X.w X.K X.mg X.base (L2.CX X.prog X.w) (k + 2) a fd ps (spF ⟨X.K, L.C, L.has⟩ L.T f k) ∧ Binds X.K fd ps []
/-- a class whose things are made -/
def IniOk (K : PySem.W.Frag) (C : Addr) (d : Cn) : Prop := (d.flds = [] ∧ Mk0 K C) ∨ ∃ (a : Addr) (fd : FuncData) (nm qual : Str) (st : Stmt) (N : List Str), Mk K C a ∧ Fun K nm qual st a fd ∧ initFn d.flds N st = true
/-- an own exception with fields -/
def IniX (G : List (Str × Gn)) (K : PySem.W.Frag) (mg : Str → Option Value) (C CS : Addr) (d : Cn) : Prop := ∃ (a : Addr) (fd : FuncData) (nm qual : Str) (st : Stmt) (N : List Str), OexC K C ∧ PySem.W.findIn K (.ref C) "__init__" = some (some (.ref a)) ∧
  PySem.W.typeIn K (.ref a) = some (.type "function") ∧ Fun K nm qual st a fd ∧ initXFn G d.flds N st = true ∧ ∀ x, G.lookup x = some (.cl .SayError) → mg x = some (.ref CS) ∧ Sup K CS
def IniS (L : Wl) (G : List (Str × Gn)) (K : PySem.W.Frag) (mg : Str → Option Value) (d : Cn) : Prop := L.has d = true ∧ (d.isExc = false → IniOk K (L.C d) d) ∧ (d.isExc = true → IniX G K mg (L.C d) (L.C .SayError) d)
def bltN : List Str := ["len", "abs", "min", "max", "int", "str", "tuple", "list", "sum", "any", "all", "range", "enumerate", "zip", "isinstance", "bool", "ValueError", "sorted", "set"]
/-- an exception class that is made of one text -/
def PlainX (K : PySem.W.Frag) (C : Addr) : Prop := ∃ (bmB : List Value) (B newId initId : String), ExcBaseFacts B newId initId bmB ∧ PySem.W.excIn K C bmB newId = true ∧
  ∀ (M : Model) (h : Heap), K.In h → PySem.W.Looks M h (isSubtype (.ref C) (.type "BaseException")) true ∧ PySem.W.Looks M h (typeOf (.ref C)) (.type "type")
structure XOk (L : Wl) (k : Nat) (c : Ck) (X : Cx) : Prop where
  sc : X.env.scope = c.sc
  N : X.N = c.N
  nd : X.N.Nodup
  fn : ∀ x, c.fn x = true → X.fn x = true
  calm : c.hot = false → X.calm = true ∧ Room (k + 2) X.A
  un : X.A.units + 160 < cLine
  cls : ClsOk ⟨X.K, L.C, L.has⟩
  noat : ∀ (d : Cn) (f : String), L.has d = true → fldKnown f = true → NoAttr X.K (L.C d) (fN f)
  blt : ∀ x, x ∈ bltN → X.mg x = none
  fns : ∀ x f, c.G.lookup x = some (.fn f) → FnS X L k f x
  cns : ∀ x d, c.G.lookup x = some (.cl d) → L.has d = true ∧ X.mg x = some (.ref (L.C d)) ∧ PySem.W.keepIn X.K (.ref (L.C d)) = true
  exm : ∀ d e : Cn, L.has d = true → L.has e = true → d.isExc = true → e.isExc = true → PySem.W.exmOne X.K (.ref (L.C d)) (.ref (L.C e)) = some (d.under e)
  pex : ∀ d : Cn, L.has d = true → d.plainExc = true → PlainX X.K (L.C d)
  con : ∀ x y, c.G.lookup x = some (.con y) → ∃ d v u, L.T.con y = some d ∧ X.mg x = some u ∧ L2.RelV v u ∧ ∀ r H, Rv ⟨X.K, L.C, L.has⟩ r H d v
  mts : ∀ d m f, L.T.meth d m = some f → MtS X L k d m f
  ini : ∀ x d, c.G.lookup x = some (.mk d) → IniS L c.G X.K X.mg d
section
variable {L : Wl} {k : Nat} {c : Ck} {X : Cx} {x : Str} {i : Nat}
theorem glB_ok (h : XOk L k c X) (g : glB c x = true) : Gl X x ∧ (x == ("__debug__" : Str)) = false := by
  unfold glB at g
  split at g
  · rename_i e
    simp only [nameOk, Bool.and_eq_true, Bool.not_eq_true'] at g
    exact ⟨by unfold Gl Env.kindOf; rw [h.sc]; exact e, g.1⟩
  · cases g
theorem visB_ok (h : XOk L k c X) (g : visB c x = true) : Vis X.env.scope x ∧ (x == ("__debug__" : Str)) = false ∧ (x == ("__classdict__" : Str)) = false := by
  unfold visB at g
  unfold Vis
  rw [h.sc]
  split at g
  · rename_i e
    simp only [nameOk, Bool.and_eq_true, Bool.not_eq_true'] at g
    exact ⟨.inl e, g⟩
  · rename_i e
    simp only [nameOk, Bool.and_eq_true, Bool.not_eq_true'] at g
    exact ⟨.inr (.inl e), g⟩
  · rename_i e
    simp only [nameOk, Bool.and_eq_true, Bool.not_eq_true'] at g
    exact ⟨.inr (.inr e), g⟩
  · cases g
theorem locB_ok (h : XOk L k c X) (g : locB c x = true) : L2.Loc X.env.scope x ∧ (X.fn x = true ∨ X.env.scope.names.lookup x = some .local) := by
  unfold locB at g
  unfold L2.Loc
  rw [h.sc]
  split at g
  · rename_i e
    exact ⟨.inl e, .inr e⟩
  · rename_i e
    exact ⟨.inr e, .inl (h.fn x g)⟩
  · cases g
theorem atB_ok (h : XOk L k c X) (g : atB c i x = true) : X.N[i]? = some x := by
  unfold atB at g
  rw [h.N]
  split at g
  · rename_i y e
    rw [e, beq_iff_eq.mp g]
  · cases g
theorem blk_ok {s : Shared} {H : Hp} {C : Addr} {cl : List (Str × Addr)} {fp : List Addr} {sc : Scope} (h : XOk L k c X) : XOk L k (c.blk sc) (X.blk s H sc (compEnvC sc cl C X.env) fp) where
  sc := by
    show relS sc X.env.scope = relS sc c.sc
    rw [h.sc]
  N := h.N
  nd := h.nd
  fn := fun x g => g
  calm := h.calm
  un := h.un
  cls := h.cls
  noat := h.noat
  blt := h.blt
  fns := h.fns
  cns := h.cns
  exm := h.exm
  pex := h.pex
  con := h.con
  mts := h.mts
  ini := h.ini
theorem blkB_ok {sc : Scope} {own : List Nat} (h : XOk L k c X) (g : blkB c sc own = true) : BlkOk X.N X.env.scope sc (ownL c own) := by
  unfold blkB at g
  simp only [Bool.and_eq_true, decide_eq_true_eq, List.all_eq_true] at g
  obtain ⟨g1, g2, g3, g4⟩ := g
  rw [h.N, h.sc]
  refine ⟨g1, fun y hy => by simpa using g2 y hy, fun p hp => ?_, fun y hy e => ?_, fun y hy e => ?_⟩
  · unfold ownL at hp
    obtain ⟨i, hi, rfl⟩ := List.mem_map.mp hp
    have := g3 i hi
    simp only
    rw [List.getElem?_eq_getElem this]
    rfl
  · have g5 := g4 y hy
    rw [if_pos e] at g5
    split at g5
    · rename_i z; exact .inl z
    · rename_i z; exact .inr z
    · cases g5
  · have g5 := g4 y hy
    rw [if_neg (by rcases e with e | e <;> rw [e] <;> decide), if_pos e] at g5
    rw [Bool.or_eq_true] at g5
    rcases g5 with g5 | g5
    · exact .inl (List.contains_iff_mem.mp g5)
    · exact .inr (by simpa using g5)
end
end Q

/-! expressions: what mine computes is what the given text computes -/
namespace Q
open PySem PySem.Spec PyProof.Rows L2

section
variable {X : Cx} {W : Wd} {Y : WX} {σ : L2.St} {r r' : List Addr} {H H' : Hp} {hs : Hs} {s : Ev}

/-! ### a list that is known but has no place yet -/
structure ExtK (r : List Addr) (H : Hp) (r' : List Addr) (H' : Hp) : Prop where
  pre : ∃ e, r' = r ++ e
  keep : ∀ a o, H a = some o → a ∉ r → (∀ xs, o ≠ .lst xs) → H' a = some o ∧ a ∉ r'
theorem Ext.k (x : Ext r H r' H') : ExtK r H r' H' := ⟨x.pre, fun a o h n _ => x.keep a o h n⟩
mutual
theorem Rv.monoK {d : D} {v : V} (h : Rv W r H d v) (x : ExtK r H r' H') : Rv W r' H' d v := by
  cases h with
  | non => exact .non
  | bl b => exact .bl b
  | int i => exact .int i
  | str y k => exact .str y k
  | tup h e =>
    refine .tup ?_ (Rvs.monoK e x)
    rcases h with ⟨h, n⟩ | h
    · exact .inl (x.keep _ _ h n (fun _ z => nomatch z))
    · exact .inr h
  | obj pr xx h n l e => exact .obj pr xx (x.keep _ _ h n (fun _ z => nomatch z)).1 (x.keep _ _ h n (fun _ z => nomatch z)).2 l (Rvs.monoK e x)
  | exc0 pr xx f h n => exact .exc0 pr xx f (x.keep _ _ h n (fun _ z => nomatch z)).1 (x.keep _ _ h n (fun _ z => nomatch z)).2
  | exc1 pr xx h n hd nd e k ll => exact .exc1 pr xx (x.keep _ _ h n (fun _ z => nomatch z)).1 (x.keep _ _ h n (fun _ z => nomatch z)).2 (x.keep _ _ hd nd (fun _ z => nomatch z)).1 (x.keep _ _ hd nd (fun _ z => nomatch z)).2 (Rvs.monoK e x) k ll
  | ref h =>
    obtain ⟨⟨e, rfl⟩, _⟩ := x
    exact .ref (by rw [List.getElem?_append_left (by have := List.getElem?_eq_some_iff.mp h; exact this.1)]; exact h)
theorem Rvs.monoK {d : List D} {v : List V} (h : Rvs W r H d v) (x : ExtK r H r' H') : Rvs W r' H' d v := by
  cases h with
  | nil => exact .nil
  | cons h t => exact .cons (Rv.monoK h x) (Rvs.monoK t x)
end
theorem adopt_ext {a : Addr} {vs : List V} (h : H a = some (.lst vs)) : ExtK r H (r ++ [a]) H := ⟨⟨[a], rfl⟩, fun b o e n k => ⟨e, fun z => by
  rcases List.mem_append.mp z with z | z
  · exact n z
  · rw [List.mem_singleton.mp z, h] at e
    cases e
    exact k _ rfl⟩⟩
theorem OAt.monoK {a : Addr} {o : O} (h : OAt W r H a o) (x : ExtK r H r' H') (e : H' a = H a) : OAt W r' H' a o := by
  cases o with
  | lst ds => obtain ⟨vs, q, k⟩ := h; exact ⟨vs, e.trans q, k.monoK x⟩
  | frz ds => obtain ⟨ob, vs, q, k⟩ := h; exact ⟨ob, vs, e.trans q, k.monoK x⟩
  | dic t kvs =>
    cases t with
    | false => obtain ⟨ks, ds, vs, q, k1, k2, k4, k3⟩ := h; exact ⟨ks, ds, vs, e.trans q, k1, k2, k4, k3.monoK x⟩
    | true => obtain ⟨ks, ds, vs, q, k1, k2, k4, k3⟩ := h; exact ⟨ks, ds, vs, e.trans q, k1, k2, k4, k3.monoK x⟩
theorem Mt.adopt (m : Mt W r H hs) {a : Addr} {ds : List D} {vs : List V} (h : H a = some (.lst vs)) (n : a ∉ r) (e : Rvs W r H ds vs) : Mt W (r ++ [a]) H (hs ++ [.lst ds]) := by
  have x := adopt_ext (r := r) h
  refine ⟨by simp [m.len], ?_, fun i b o h1 h2 => ?_⟩
  · rw [List.nodup_append]
    refine ⟨m.nd, by simp, fun b hb c hc e => ?_⟩
    rw [List.mem_singleton] at hc
    rw [e, hc] at hb
    exact n hb
  · by_cases hi : i < r.length
    · rw [List.getElem?_append_left hi] at h1
      rw [List.getElem?_append_left (by rw [← m.len]; exact hi)] at h2
      exact (m.at_ i b o h1 h2).monoK x rfl
    · rw [List.getElem?_append_right (by omega)] at h1
      rw [List.getElem?_append_right (by rw [← m.len]; omega)] at h2
      rw [m.len] at h1
      cases q : i - hs.length with
      | zero =>
        rw [q] at h1 h2
        simp at h1 h2
        subst h1 h2
        exact ⟨vs, h, e.monoK x⟩
      | succ j =>
        rw [q] at h1
        simp at h1

/-! ### slots forgotten -/
theorem wipe_set_in {i : Nat} {v : Option V} : ∀ {own : List Nat} {σ : L2.St}, i ∈ own → L2.wipe (σ.set i v) own = L2.wipe σ own
  | [], _, h => nomatch h
  | j :: own, σ, h => by
    unfold L2.wipe
    by_cases e : i ∈ own
    · rw [wipe_set_in e]
    · have e2 : i = j := by
        rcases List.mem_cons.mp h with z | z
        · exact z
        · exact absurd z e
      subst e2
      rw [wipe_set_out e, List.set_set]
where
  wipe_set_out : ∀ {own : List Nat} {σ : L2.St}, i ∉ own → L2.wipe (σ.set i v) own = (L2.wipe σ own).set i v
    | [], _, _ => rfl
    | j :: own, σ, h => by
      unfold L2.wipe
      rw [wipe_set_out (fun z => h (List.mem_cons_of_mem _ z))]
      exact (List.set_comm _ _ (fun z => h (z ▸ List.mem_cons_self)))
theorem wipe_none {i : Nat} : ∀ {own : List Nat} {σ : L2.St}, i ∈ own → (L2.wipe σ own).set i none = L2.wipe σ own
  | [], _, h => nomatch h
  | j :: own, σ, h => by
    unfold L2.wipe
    by_cases e : i = j
    · subst e; rw [List.set_set]
    · rw [List.set_comm _ _ (Ne.symm e), wipe_none (by
        rcases List.mem_cons.mp h with z | z
        · exact absurd z e
        · exact z)]
theorem wipe_twice : ∀ (own xs : List Nat) (σ : L2.St), (∀ i ∈ xs, i ∈ own) → L2.wipe (L2.wipe σ own) xs = L2.wipe σ own
  | own, [], _, _ => rfl
  | own, x :: xs, σ, h => by
    show (L2.wipe (L2.wipe σ own) xs).set x none = _
    rw [wipe_twice own xs σ (fun i hi => h i (List.mem_cons_of_mem _ hi)), wipe_none (h x List.mem_cons_self)]
theorem EnvR.wipe (e : EnvR W r H s σ) : ∀ own : List Nat, EnvR W r H (Q.wipe s own) (L2.wipe σ own)
  | [] => e
  | i :: own => (EnvR.wipe e own).gone i

/-! ### targets -/
def tgHas (i : Nat) : Tg → Prop
  | .one j => i = j
  | .many is => i ∈ is
def tgG (K : PySem.W.Frag) : Tg → TG
  | .one i => gName i
  | .many is => gTup K is.length (gNames is)
where
  gNames : List Nat → TGs
    | [] => gNil
    | i :: is => gCons (gName i) (gNames is)
theorem namesB_ok {L : Wl} {k : Nat} {c : Ck} (h : XOk L k c X) : ∀ {is : List Nat} {es : List Expr}, namesB c is es = true →
    PGs X es (tgG.gNames is) ∧ (assignEach es X.env).length = is.length ∧ (assignEach es X.env).findIdx? (·.1) = none
  | [], [], _ => ⟨pgs_nil, rfl, rfl⟩
  | [], _ :: _, g => by cases g
  | _ :: _, [], g => by cases g
  | i :: is, e :: es, g => by
    simp only [namesB, Bool.and_eq_true] at g
    obtain ⟨g1, g2⟩ := g
    split at g1
    · rename_i x hx
      obtain ⟨p, rfl⟩ := asName_of hx
      rw [Bool.and_eq_true] at g1
      obtain ⟨l1, l2⟩ := locB_ok h g1.2
      obtain ⟨r1, r2, r3⟩ := namesB_ok h g2
      refine ⟨pgs_cons (pg_name h.nd (atB_ok h g1.1) l1 l2) r1, ?_, ?_⟩
      · show (assignEach es X.env).length + 1 = _
        rw [r2]; rfl
      · show List.findIdx? _ ((false, _) :: assignEach es X.env) = none
        rw [List.findIdx?_cons]
        simp [r3]
    · cases g1
theorem tgB_ok {L : Wl} {k : Nat} {c : Ck} {tg : Tg} {e : Expr} (h : XOk L k c X) (hc : X.calm = true) (g : tgB c tg e = true) : PG X e (tgG X.K tg) := by
  cases tg with
  | one i =>
    simp only [tgB] at g
    split at g
    · rename_i x hx
      obtain ⟨p, rfl⟩ := asName_of hx
      rw [Bool.and_eq_true] at g
      obtain ⟨l1, l2⟩ := locB_ok h g.2
      exact pg_name h.nd (atB_ok h g.1) l1 l2
    · cases g
  | many is =>
    simp only [tgB] at g
    split at g
    · rename_i l hl
      obtain ⟨j, p, rfl⟩ := asTup_of hl
      obtain ⟨r1, r2, r3⟩ := namesB_ok h g
      exact pg_tup hc r1 r2 r3
    · cases g
/-- the values put, my slots and the layer's; P: what stays of the slots -/
theorem gNames_ok {P : L2.St → Prop} : ∀ {is : List Nat} {ds : List D} {vs : List V} {s : Ev} {σ : L2.St} {Q : L2.St → Hp → Prop}, is.length = ds.length → Rvs W r H ds vs → EnvR W r H s σ → P σ → (∀ σ i v, i ∈ is → P σ → P (σ.set i v)) →
    (∀ σ', EnvR W r H ((is.zip ds).foldl (fun s p => s.set p.1 (some p.2)) s) σ' → P σ' → Q σ' H) → tgG.gNames is vs σ H Q
  | [], [], _, _, _, _, _, .nil, e, p, _, q => ⟨rfl, q _ e p⟩
  | [], _ :: _, _, _, _, _, h, _, _, _, _, _ => by simp at h
  | _ :: _, [], _, _, _, _, h, _, _, _, _, _ => by simp at h
  | i :: is, d :: ds, _, s, σ, Q, h, .cons (v := v) (vs := vs) x t, e, p, pk, q =>
    ⟨v, vs, rfl, gNames_ok (by simpa using h) t (e.set x i) (pk _ _ _ List.mem_cons_self p) (fun σ j w hj => pk σ j w (List.mem_cons_of_mem _ hj)) q⟩
theorem asg_ok {P : L2.St → Prop} {tg : Tg} {d : D} {v : V} {s2 : Ev} {Q : L2.St → Hp → Prop} (h : asg tg d s = some s2) (x : Rv W r H d v) (e : EnvR W r H s σ) (p : P σ) (pk : ∀ σ i v, tgHas i tg → P σ → P (σ.set i v)) (q : ∀ σ', EnvR W r H s2 σ' → P σ' → Q σ' H) : tgG W.K tg v σ H Q := by
  cases tg with
  | one i =>
    cases h
    exact q _ (e.set x i) (pk _ _ _ rfl p)
  | many is =>
    cases d <;> first | (cases h; done) | skip
    rename_i ds
    simp only [asg] at h
    split at h
    · rename_i hl
      cases h
      cases x with | tup t es =>
      exact ⟨_, _, rfl, t.sq, by rw [es.length, hl], gNames_ok hl es e p (fun σ i v hi => pk σ i v hi) q⟩
    · cases h
end
end Q

/-! what a for walks -/
namespace Q
open PySem PySem.Spec PyProof.Rows L2

def WkR (W : Wd) (r0 : List Addr) (H0 : Hp) (w : Walk) (J : L2.It) : Prop := ∀ r H hs, Ext r0 H0 r H → Mt W r H hs → w.ok hs →
  (∀ i, i < w.items.length → J.go i H) ∧ (∀ i, w.items.length ≤ i → J.stop i H) ∧
  ∀ i x H', J.yld i H x H' → ∀ d, w.items[i]? = some d → ∃ r', Ext r H r' H' ∧ Mt W r' H' hs ∧ Rv W r' H' d x
section
variable {X : Cx} {W : Wd} {Y : WX} {σ : L2.St} {r r' : List Addr} {H H' : Hp} {hs : Hs} {s : Ev} {n : Nat} {a : Addr}
theorem wk_seq {xs : List D} {vs : List V} {K : PySem.W.Frag} (hk : K = W.K) (h : ∀ r1 H1 hs1, Ext r H r1 H1 → Mt W r1 H1 hs1 → ∀ ok : (hs1[n]? = some (.lst xs) ∨ hs1[n]? = some (.frz xs)), ∃ us, SqL K H1 a us ∧ Rvs W r1 H1 xs us) {ok : Hs → Prop} (hok : ∀ h, ok h → h[n]? = some (.lst xs) ∨ h[n]? = some (.frz xs)) : WkR W r H ⟨xs, ok⟩ (Itl K a) := by
  intro r1 H1 hs1 x m k
  obtain ⟨us, g1, g2⟩ := h r1 H1 hs1 x m (hok _ k)
  refine ⟨fun i hi => ?_, fun i hi => ⟨us, g1, by rw [g2.length]; exact hi⟩, fun i y H2 q d hd => ?_⟩
  · obtain ⟨v, hv, _⟩ := g2.get (List.getElem?_eq_getElem hi)
    exact ⟨us, v, g1, hv⟩
  · obtain ⟨rfl, q2⟩ := q
    obtain ⟨v, hv, rv⟩ := g2.get hd
    have e := q2 us g1
    rw [hv] at e
    cases e
    exact ⟨r1, Ext.refl _ _, m, rv⟩
theorem list_now (m : Mt W r H hs) {xs : List D} (ha : r[n]? = some a) (h : hs[n]? = some (.lst xs) ∨ hs[n]? = some (.frz xs)) : ∃ us, SqL W.K H a us ∧ Rvs W r H xs us := by
  rcases h with h | h
  · obtain ⟨us, g1, g2⟩ := m.lst ha h
    exact ⟨us, SqL.of g1, g2⟩
  · obtain ⟨ob, us, g1, g2⟩ := m.frz ha h
    exact ⟨us, .inl (.inr ⟨ob, g1⟩), g2⟩
/-- a list's place, walked -/
theorem walk_ref {w : Walk} (h : walkSq hs (.ref n) = some w) : ∃ xs, w.items = xs ∧ (hs[n]? = some (.lst xs) ∨ hs[n]? = some (.frz xs)) ∧ ∀ h, w.ok h → h[n]? = some (.lst xs) ∨ h[n]? = some (.frz xs) := by
  simp only [walkSq] at h
  split at h
  · rename_i xs hx
    cases h
    exact ⟨xs, rfl, .inl hx, fun h k => .inl k⟩
  · rename_i xs hx
    cases h
    exact ⟨xs, rfl, .inr hx, fun h k => .inr k⟩
  · cases h
theorem wk_list {w : Walk} (ha : r[n]? = some a) (h : walkSq hs (.ref n) = some w) : WkR W r H w (Itl W.K a) := by
  obtain ⟨xs, e, _, k⟩ := walk_ref h
  obtain ⟨items, ok⟩ := w
  cases e
  exact wk_seq (vs := []) rfl (fun r1 H1 hs1 x m q => list_now m (x.at ha) q) k
theorem wk_tup {xs : List D} {vs : List V} (t : TupAt W r H a vs) (e : Rvs W r H xs vs) : WkR W r H ⟨xs, fun _ => True⟩ (Itt W.K a) := by
  intro r1 H1 hs1 x m _
  have t1 := t.mono x
  have e1 := e.mono x
  refine ⟨fun i hi => ?_, fun i hi => ⟨vs, t1.sq, by rw [e1.length]; exact hi⟩, fun i y H2 q d hd => ?_⟩
  · obtain ⟨v, hv, _⟩ := e1.get (List.getElem?_eq_getElem hi)
    exact ⟨vs, v, t1.sq, hv⟩
  · obtain ⟨rfl, q2⟩ := q
    obtain ⟨v, hv, rv⟩ := e1.get hd
    have e := q2 vs t1.sq
    rw [hv] at e
    cases e
    exact ⟨r1, Ext.refl _ _, m, rv⟩
theorem rangeL_len : ∀ (lo : Int) (n : Nat), (rangeL lo n).length = n
  | _, 0 => rfl
  | lo, n + 1 => by simp only [rangeL, List.length_cons, rangeL_len (lo + 1) n]
theorem rangeL_at : ∀ (lo : Int) (n i : Nat), i < n → (rangeL lo n)[i]? = some (.int (lo + i))
  | _, 0, _, h => by omega
  | lo, n + 1, 0, _ => by simp [rangeL]
  | lo, n + 1, i + 1, h => by
    simp only [rangeL, List.getElem?_cons_succ]
    rw [rangeL_at (lo + 1) n i (by omega)]
    congr 2
    omega
theorem rangeC_len : ∀ (lo c : Int) (n : Nat), (rangeC lo c n).length = n
  | _, _, 0 => rfl
  | lo, c, n + 1 => by simp only [rangeC, List.length_cons, rangeC_len (lo + c) c n]
theorem rangeC_at : ∀ (lo c : Int) (n i : Nat), i < n → (rangeC lo c n)[i]? = some (.int (lo + (i : Nat) * c))
  | _, _, 0, _, h => by omega
  | lo, c, n + 1, 0, _ => by simp [rangeC]
  | lo, c, n + 1, i + 1, h => by
    simp only [rangeC, List.getElem?_cons_succ]
    rw [rangeC_at (lo + c) c n i (by omega)]
    congr 2
    have : ((i + 1 : Nat) : Int) * c = (i : Nat) * c + c := by
      rw [show ((i + 1 : Nat) : Int) = (i : Int) + 1 by omega, Int.add_mul, Int.one_mul]
    rw [this]
    omega
theorem wk_rng (lo : Int) (n : Nat) : WkR W r H ⟨rangeL lo n, fun _ => True⟩ (Itr lo n) := by
  intro r1 H1 hs1 x m _
  simp only [rangeL_len]
  refine ⟨fun i hi => hi, fun i hi => hi, fun i y H2 q d hd => ?_⟩
  obtain ⟨rfl, rfl⟩ := q
  by_cases hi : i < n
  · rw [rangeL_at _ _ _ hi] at hd
    cases hd
    exact ⟨r1, Ext.refl _ _, m, .int _⟩
  · rw [List.getElem?_eq_none (by rw [rangeL_len]; omega)] at hd
    cases hd
theorem wk_rngC (lo c : Int) (n : Nat) : WkR W r H ⟨rangeC lo c n, fun _ => True⟩ (Itc lo c n) := by
  intro r1 H1 hs1 x m _
  simp only [rangeC_len]
  refine ⟨fun i hi => hi, fun i hi => hi, fun i y H2 q d hd => ?_⟩
  obtain ⟨rfl, rfl⟩ := q
  by_cases hi : i < n
  · rw [rangeC_at _ _ _ _ hi] at hd
    cases hd
    exact ⟨r1, Ext.refl _ _, m, .int _⟩
  · rw [List.getElem?_eq_none (by rw [rangeC_len]; omega)] at hd
    cases hd
theorem enumL_len : ∀ (n : Nat) (xs : List D), (enumL n xs).length = xs.length
  | _, [] => rfl
  | n, x :: xs => by simp only [enumL, List.length_cons, enumL_len (n + 1) xs]
theorem enumL_at : ∀ (n : Nat) (xs : List D) (i : Nat) (d : D), (enumL n xs)[i]? = some d → ∃ e, xs[i]? = some e ∧ d = .tup [.int ((n + i : Nat) : Int), e]
  | _, [], i, d, h => by simp [enumL] at h
  | n, x :: xs, 0, d, h => by
    simp only [enumL, List.getElem?_cons_zero, Option.some.injEq] at h
    exact ⟨x, rfl, by rw [← h]; simp⟩
  | n, x :: xs, i + 1, d, h => by
    simp only [enumL, List.getElem?_cons_succ] at h
    obtain ⟨e, h1, h2⟩ := enumL_at (n + 1) xs i d h
    exact ⟨e, by simpa using h1, by rw [h2]; congr 3; omega⟩
theorem zipL_len : ∀ (xs ys : List D), (zipL xs ys).length = min xs.length ys.length
  | [], _ => by simp [zipL]
  | _ :: _, [] => by simp [zipL]
  | x :: xs, y :: ys => by simp only [zipL, List.length_cons, zipL_len xs ys]; omega
theorem zipL_at : ∀ (xs ys : List D) (i : Nat) (d : D), (zipL xs ys)[i]? = some d → ∃ x y, xs[i]? = some x ∧ ys[i]? = some y ∧ d = .tup [x, y]
  | [], _, i, d, h => by simp [zipL] at h
  | _ :: _, [], i, d, h => by simp [zipL] at h
  | x :: xs, y :: ys, 0, d, h => by
    simp only [zipL, List.getElem?_cons_zero, Option.some.injEq] at h
    exact ⟨x, y, rfl, rfl, h.symm⟩
  | x :: xs, y :: ys, i + 1, d, h => by
    simp only [zipL, List.getElem?_cons_succ] at h
    obtain ⟨e, f, h1, h2, h3⟩ := zipL_at xs ys i d h
    exact ⟨e, f, by simpa using h1, by simpa using h2, h3⟩
/-- a pair just made -/
theorem pair_new (m : Mt W r H hs) {T : Addr} (hT : H T = none) {d e : D} {v u : V} (x : Rv W r H d v) (y : Rv W r H e u) : ∃ r', Ext r H r' (upd H T (.tup [v, u])) ∧ Mt W r' (upd H T (.tup [v, u])) hs ∧ Rv W r' (upd H T (.tup [v, u])) (.tup [d, e]) (.ref T) :=
  ⟨r, ext_new hT _, m.new hT _, .tup (.inl ⟨upd_same, m.notNew hT⟩) (.cons (x.mono (ext_new hT _)) (.cons (y.mono (ext_new hT _)) .nil))⟩
theorem wk_enum {w : Walk} (ha : r[n]? = some a) (h : walkSq hs (.ref n) = some w) : WkR W r H ⟨enumL 0 w.items, w.ok⟩ (Ite W.K a) := by
  obtain ⟨xs, e, _, k⟩ := walk_ref h
  obtain ⟨items, ok⟩ := w
  cases e
  intro r1 H1 hs1 x m q
  obtain ⟨us, g1, g2⟩ := list_now m (x.at ha) (k _ q)
  simp only [enumL_len]
  refine ⟨fun i hi => ?_, fun i hi => ⟨us, g1, by rw [g2.length]; exact hi⟩, fun i y H2 q d hd => ?_⟩
  · obtain ⟨v, hv, _⟩ := g2.get (List.getElem?_eq_getElem hi)
    exact ⟨us, v, g1, hv⟩
  · obtain ⟨T, z, rfl, hT, rfl, q2⟩ := q
    obtain ⟨e, h1, rfl⟩ := enumL_at _ _ _ _ hd
    obtain ⟨v, hv, rv⟩ := g2.get h1
    have e2 := q2 us g1
    rw [hv] at e2
    cases e2
    rw [Nat.zero_add]
    exact pair_new m hT (.int _) rv
theorem wk_zip {w u : Walk} {n2 : Nat} {a2 : Addr} (ha : r[n]? = some a) (h : walkSq hs (.ref n) = some w) (ha2 : r[n2]? = some a2) (h2 : walkSq hs (.ref n2) = some u) : WkR W r H ⟨zipL w.items u.items, fun h => w.ok h ∧ u.ok h⟩ (Itz W.K a a2) := by
  obtain ⟨xs, e, _, k⟩ := walk_ref h
  obtain ⟨ys, e2, _, k2⟩ := walk_ref h2
  obtain ⟨items, ok⟩ := w
  obtain ⟨items2, ok2⟩ := u
  cases e
  cases e2
  intro r1 H1 hs1 x m q
  obtain ⟨us, g1, g2⟩ := list_now m (x.at ha) (k _ q.1)
  obtain ⟨us2, f1, f2⟩ := list_now m (x.at ha2) (k2 _ q.2)
  simp only [zipL_len]
  refine ⟨fun i hi => ?_, fun i (hi : min items.length items2.length ≤ i) => ⟨us, us2, g1, f1, by
    have e1 : us.length = items.length := g2.length
    have e2 : us2.length = items2.length := f2.length
    omega⟩, fun i y H2 q d hd => ?_⟩
  · have hi : i < min items.length items2.length := hi
    obtain ⟨v, hv, _⟩ := g2.get (List.getElem?_eq_getElem (show i < items.length by omega))
    obtain ⟨v2, hv2, _⟩ := f2.get (List.getElem?_eq_getElem (show i < items2.length by omega))
    exact ⟨us, us2, v, v2, g1, f1, hv, hv2⟩
  · obtain ⟨T, z, z2, rfl, hT, rfl, q2, q3⟩ := q
    obtain ⟨e, e', h1, h1', rfl⟩ := zipL_at _ _ _ _ hd
    obtain ⟨v, hv, rv⟩ := g2.get h1
    obtain ⟨v2, hv2, rv2⟩ := f2.get h1'
    have e2 := q2 us g1
    rw [hv] at e2
    cases e2
    have e3 := q3 us2 f1
    rw [hv2] at e3
    cases e3
    exact pair_new m hT rv rv2
theorem wk_zipT {xs ys : List D} {vs us : List V} {a2 : Addr} (t : TupAt W r H a vs) (e : Rvs W r H xs vs) (t2 : TupAt W r H a2 us) (e2 : Rvs W r H ys us) : WkR W r H ⟨zipL xs ys, fun _ => True⟩ (RZ.ItzT W.K a a2) := by
  intro r1 H1 hs1 x m _
  have t1 := t.mono x
  have e1 := e.mono x
  have t3 := t2.mono x
  have e3 := e2.mono x
  simp only [zipL_len]
  refine ⟨fun i hi => ?_, fun i hi => ⟨vs, us, t1.sq, t3.sq, by rw [e1.length, e3.length]; omega⟩, fun i y H2 q d hd => ?_⟩
  · obtain ⟨v, hv, _⟩ := e1.get (List.getElem?_eq_getElem (show i < xs.length by omega))
    obtain ⟨v2, hv2, _⟩ := e3.get (List.getElem?_eq_getElem (show i < ys.length by omega))
    exact ⟨vs, us, v, v2, t1.sq, t3.sq, hv, hv2⟩
  · obtain ⟨T, z, z2, rfl, hT, rfl, q2, q3⟩ := q
    obtain ⟨e, e', h1, h1', rfl⟩ := zipL_at _ _ _ _ hd
    obtain ⟨v, hv, rv⟩ := e1.get h1
    obtain ⟨v2, hv2, rv2⟩ := e3.get h1'
    have z1 := q2 vs t1.sq
    rw [hv] at z1
    cases z1
    have z3 := q3 us t3.sq
    rw [hv2] at z3
    cases z3
    exact pair_new m hT rv rv2
end
end Q

/-! enumerate over a tuple -/
namespace Q
open PySem PySem.Spec PyProof.Rows L2
open Sem (wp)
open AutoSeq1 (wpAny_loadPart')

theorem meets_enum_tup (l : Addr) (items : Array Value) (n : Nat) (dct : Option Addr) (sl : Array (Option Value)) :
    Meets (Builtin.«enumerate.__new__» ⟨[.type "enumerate", .ref l], []⟩) (fun _ R s => s.heap.get? l = some { cls := .type "tuple", dict := dct, data := .seq items n, slots := sl } ∧
      R (.ok (.ret (.ref (s.heap.push { cls := .type "tuple_iterator", data := .fields #[.ref l, .int 0 0] }).objs.size)))
        { s with heap := (s.heap.push { cls := .type "tuple_iterator", data := .fields #[.ref l, .int 0 0] }).push { cls := .type "enumerate", data := .fields #[.none, .bool false, .ref s.heap.objs.size, rawInt 0, .none, .none] } }) :=
  .of_wp fun prog w A R s h => by
    obtain ⟨hp, g, d, tk, os⟩ := s; obtain ⟨hl, h⟩ := h
    have hsub := sub_enumerate
    have hL : Heap.IsTuple (Shared.heap ⟨hp, g, d, tk, os⟩) l items := ⟨_, hl, rfl, n, rfl⟩
    wp_walk using wpAny_loadPart' hl
    refine wpAny_stack_any fun st => wpAny_pure ?_
    split
    · rename_i c _ _ _ _ _
      cases (c == Value.type "enumerate")
      · wp_walk using wpAny_loadPart' hl, wpAny_pyIter_tuple hL
        exact ⟨_, rfl, h⟩
      · wp_walk using wpAny_loadPart' hl, wpAny_pyIter_tuple hL
        exact ⟨_, rfl, h⟩
    · wp_walk using wpAny_loadPart' hl, wpAny_pyIter_tuple hL
      exact ⟨_, rfl, h⟩

theorem call_enum_tup {prog : Program} {w : World} {A : Around} {E : Value → Shared → Prop} {s : Shared} {l : Addr} {items : Array Value} {Q : Value → Shared → Prop} (hL : s.heap.IsTuple l items)
    (h : ∀ h', IsEnum h' (s.heap.objs.size + 1) s.heap.objs.size 0 .none → h'.IsTupleIter s.heap.objs.size l 0 → h'.objs.size = s.heap.objs.size + 2 →
      (∀ b o, s.heap.get? b = some o → h'.get? b = some o) → Q (.ref (s.heap.objs.size + 1)) { s with heap := h' }) :
    wpAny (model prog w) A (PySem.call (.type "enumerate") [.ref l]) Q E s := by
  obtain ⟨⟨c, dct, dt, sl⟩, hl, hc, n, hd⟩ := hL
  replace hc : c = .type "tuple" := hc
  replace hd : dt = .seq items n := hd
  subst hc hd
  refine callType_new F.called_enumerate (by decide) (F.typeCall_enumerate_1 _) (F.newCall_enumerate_1 _) (fun obj => F.args_object_init_2 obj _) F.entry_enumerate_new
    (meets_enum_tup l items n dct sl) ⟨hl, ?_⟩
  have hz : (s.heap.push { cls := .type "tuple_iterator", data := .fields #[.ref l, .int 0 0] }).objs.size = s.heap.objs.size + 1 := Heap.size_push ..
  show _ ∧ _
  rw [hz]
  have he : IsEnum ((s.heap.push { cls := .type "tuple_iterator", data := .fields #[.ref l, .int 0 0] }).push
      { cls := .type "enumerate", data := .fields #[.none, .bool false, .ref s.heap.objs.size, rawInt 0, .none, .none] }) (s.heap.objs.size + 1) s.heap.objs.size 0 .none := by
    have := Heap.get?_push_size (s.heap.push { cls := .type "tuple_iterator", data := .fields #[.ref l, .int 0 0] })
      (o := { cls := .type "enumerate", data := .fields #[.none, .bool false, .ref s.heap.objs.size, rawInt 0, .none, .none] }) rfl
    rw [hz] at this; exact this
  refine ⟨⟨_, he, rfl⟩, h _ he ⟨_, Heap.get?_push_of_some _ (Heap.get?_push_size _ rfl), rfl, rfl⟩ (by rw [Heap.size_push, hz]) fun b o x => Heap.get?_push_of_some _ (Heap.get?_push_of_some _ x)⟩

theorem enum_end_tup {prog : Program} {w : World} {A : Around} {E : Value → Shared → Prop} {s : Shared} {e it l : Addr} {i : Nat} {items : Array Value} {old : Value} {Q : Option Value → Shared → Prop} (hh : A.handled = none)
    (he : IsEnum s.heap e it i old) (hit : s.heap.IsTupleIter it l i) (hl : s.heap.IsTuple l items) (hx : items[i]? = none)
    (hQ : ∀ h', Heap.ExtBut it s.heap h' → Q none { s with heap := h' }) : wpAny (model prog w) A (pyNext (.ref e)) Q E s := by
  have hT : s.TypeIs (.ref e) "enumerate" := ⟨_, he, rfl⟩
  unfold pyNext
  refine wpAny_bind (wpAny_attempt (wpAny_callSpecial?_slot (name := Str.ofString "__next__") hT F.slot_enumerate_next
    (wpAny_call_entry F.slot_enumerate_next hT F.entry_enumerate_next ?_ (F.args_enumerate_next_1 _))))
  show wpAny _ _ (field (.ref e) 2 >>= _) _ _ _
  refine wpAny_bind (wpAny_field he rfl (x := .ref it) rfl ?_)
  refine wpAny_bind (wpAny_nextOf_tuple_end hh hit hl hx fun h' x he' hx' => ?_)
  obtain ⟨o, ho, hc⟩ := hx'
  refine wpAny_bind (wpAny_isInstance (T := "StopIteration") (b := true) ⟨o, ho, hc⟩ isSubtype_stop ?_)
  exact wpAny_pure (hQ _ he')

/-- the tuple at a, each item in a new pair -/
def IteT (K : PySem.W.Frag) (a : Addr) : L2.It :=
  ⟨fun i H => ∃ (xs : List V) (x : V), SqT K H a xs ∧ xs[i]? = some x, fun i H v H' => ∃ T x, v = .ref T ∧ H T = none ∧ H' = upd H T (.tup [.int (i : Nat), x]) ∧ ∀ xs, SqT K H a xs → xs[i]? = some x, fun i H => ∃ xs : List V, SqT K H a xs ∧ xs.length ≤ i⟩
theorem turn_enumT {P : Program} {w : World} {K : PySem.W.Frag} {elts : List Expr} {kk : Nat} {tpos : Pos} (a e it : Addr) :
    Turn P w K (.Tuple elts kk tpos) (IteT K a) [e, it] e (fun i h => (∃ old, IsEnum h e it ((i : Nat) : Int) old) ∧ h.IsTupleIter it a i ∧ e ≠ it ∧ a ≠ it ∧ e ≠ a) where
  mem := by simp
  obj := fun i h st b hb => by
    obtain ⟨⟨old, he⟩, ⟨o, ho, hc, hd⟩, _⟩ := st
    have e' : b = e ∨ b = it := by simpa using hb
    rcases e' with z | z
    · rw [z]; exact ⟨_, he, fun v q => nomatch q⟩
    · rw [z]; exact ⟨o, ho, fun v q => by rw [hd] at q; cases q⟩
  keep := fun i h h' st k => let ⟨⟨old, he⟩, hi, hne⟩ := st; ⟨⟨old, k e (by simp) _ he⟩, hi.at fun o q => k it (by simp) o q, hne⟩
  item := by
    intro X hP hw hK hc i pins s σ H E I hf st hg
    subst hP hw hK
    obtain ⟨⟨old, he⟩, hit, hne, hai, hea⟩ := st
    obtain ⟨xs, x, hq, hx⟩ := hg
    obtain ⟨its, rv, p, hz⟩ := I.tuple hq
    obtain ⟨u, hu, ru⟩ := rv.get hx
    have hel : e < s.heap.objs.size := Heap.lt_size he
    have hil : it < s.heap.objs.size := by obtain ⟨_, q, _⟩ := hit; exact Heap.lt_size q
    have hsz0 : i < its.toArray.size := by
      have : i < its.length := by
        rcases Nat.lt_or_ge i its.length with h | h
        · exact h
        · rw [List.getElem?_eq_none h] at hu; cases hu
      simpa using this
    refine wpAny_pyNext_enum_itemD (D := Draws.tuple (A := X.A.in1) (show X.A.in1.handled = none from I.ok.hd hc) it a hai its.toArray) he ⟨hit, show s.heap.IsTuple a its.toArray from p⟩ hsz0 hne (by simp [hne, hea]) fun x' h' tk hx' ho hst' hT hsz hk => ?_
    have hxu : x' = u := by
      have h1 : its[i]? = some x' := by simpa using hx'
      rw [hu] at h1; cases h1; rfl
    subst hxu
    refine ⟨_, rfl, wpAny_letOwnedTupleGo_enum (s := { s with heap := h', toks := tk + 1 }) ho fun h'' he' sb => ?_⟩
    have hT2 : h''.get? s.heap.objs.size = some { cls := .type "tuple", data := .seq #[.int i tk, x'] } := (sb.2 _ (Nat.ne_of_gt hel)).trans hT
    have new : ObjOk X.prog X.w (upd H s.heap.objs.size (.tup [.int (i : Nat), x])) h'' s.heap.objs.size (.tup [.int (i : Nat), x]) :=
      ⟨by show 2 ≤ sizeLine; decide, [.int i tk, x'], .cons ⟨_, rfl⟩ (.cons ru .nil), ⟨_, hT2, rfl, _, rfl⟩⟩
    have I1 : Inv X pins σ (upd H s.heap.objs.size (.tup [.int (i : Nat), x])) { s with heap := h'', toks := tk + 1 } :=
      I.turnedNew (ch := [e, it]) (fun b ob hb q => (sb.2 b (fun z => hb (by simp [z]))).trans (hk b ob (fun z => hb (by simp [z])) (fun z => hb (by simp [z])) q)) hf (Nat.le_refl _) new
    refine ⟨.ref s.heap.objs.size, _, I1, rfl, ⟨_, x, rfl, I.hok.fresh (Nat.le_refl _), rfl, fun ys hy => by rw [I.tuple_inj hy hq]; exact hx⟩, ⟨⟨x', ?_⟩, hst'.1.at fun o q => (sb.2 it (Ne.symm hne)).trans q, hne, hai, hea⟩, fun b hb => ?_⟩
    · have e1 : ((i + 1 : Nat) : Int) = (i : Int) + 1 := by omega
      rw [e1]; exact he'
    · have hb' : b < s.heap.objs.size := by
        have e' : b = e ∨ b = it := by simpa using hb
        rcases e' with z | z
        · rw [z]; exact hel
        · rw [z]; exact hil
      rw [upd_ne (Nat.ne_of_lt hb')]
      exact (hf b hb).1
  done := by
    intro X hP hw hK hc i pins s σ H E I hf st hg
    subst hP hw hK
    obtain ⟨⟨old, he⟩, hit, hne, hai, hea⟩ := st
    obtain ⟨xs, hq, hx⟩ := hg
    obtain ⟨its, rv, p, hz⟩ := I.tuple hq
    obtain ⟨f0, f1, f2, f3, f4, f5⟩ := hf it (by simp)
    have hl := rv.length
    have hle : its.length ≤ i := by omega
    have hit2 : s.heap.IsTupleIter it a i := hit
    exact enum_end_tup (I.ok.hd hc) he hit2 (show s.heap.IsTuple a its.toArray from p) (by simp; omega) fun h' eb => ⟨rfl, I.turned (t' := s.toks) (fun b o hb q => eb b o hb q) f0 f1 f3 f4 f5⟩
  self := fun A i s Q E st h => let ⟨⟨_, he⟩, _⟩ := st; wpAny_pyIter_enum he h
/-- enumerate over a list or a tuple -/
def iEnumU (K : PySem.W.Frag) (ta : TA) : TI := fun σ H R => ta σ H fun vs H1 => (∃ a xs, vs = [.ref a] ∧ SqL K H1 a xs ∧ R (Ite K a) H1) ∨ (∃ a xs, vs = [.ref a] ∧ SqT K H1 a xs ∧ R (IteT K a) H1)
theorem pi_enumU {X : Cx} {e : Expr} {ta : TA} {p pos tpos : Pos} {elts : List Expr} {kk : Nat} (hg : Gl X "enumerate") (hm : X.mg "enumerate" = none) (ha : PA X [e] ta) (hs : starEach [e] X.env = [(false, eval e X.env)] := by rfl) :
    PI X (.Tuple elts kk tpos) (.Call (.Name "enumerate" p) [e] [] pos) (iEnumU X.K ta) := by
  refine ⟨fun pins s σ H R I h => ?_⟩
  refine Call_ (ld_blt I hg hm boot_enumerate (PyProof.Rows.callWith_type1 (thn (ha.run pos pins s σ H _ I h) fun us s1 ⟨vs, H1, I1, r1, q1⟩ => ?_) hs rfl))
  have fp : ∀ {h' : Heap}, (∀ b o, s1.heap.get? b = some o → h'.get? b = some o) → ∀ (I2 : Inv X pins σ H1 { s1 with heap := h' }), ∀ b ∈ [s1.heap.objs.size + 1, s1.heap.objs.size], FpOk X pins H1 b := fun hk I2 b hb => by
    have e' : b = s1.heap.objs.size + 1 ∨ b = s1.heap.objs.size := by simpa using hb
    have hle : s1.heap.objs.size ≤ b := by
      rcases e' with z | z
      · rw [z]; exact Nat.le_add_right _ _
      · rw [z]; exact Nat.le_refl _
    exact I1.fpOk hle (I1.hok.fresh hle)
  rcases q1 with ⟨a, xs, ex, hq, q⟩ | ⟨a, xs, ex, hq, q⟩
  · subst ex
    cases r1 with
    | cons r rr =>
      cases rr
      cases r
      obtain ⟨its, rv, p', hz⟩ := I1.list hq
      refine call_enumerate_list p'.isList fun h' he hit hsz hk => wpAny_pyIter_enum he ?_
      have I2 : Inv X pins σ H1 { s1 with heap := h' } := I1.kept (t' := s1.toks) hk
      exact ⟨s1.heap.objs.size + 1, [s1.heap.objs.size + 1, s1.heap.objs.size], _, _, H1, rfl, I2, turn_enum a (s1.heap.objs.size + 1) s1.heap.objs.size, ⟨⟨.none, he⟩, hit, Nat.succ_ne_self _⟩, fp hk I2, q⟩
  · subst ex
    cases r1 with
    | cons r rr =>
      cases rr
      cases r
      obtain ⟨its, rv, p', hz⟩ := I1.tuple hq
      have hT : s1.heap.IsTuple a its.toArray := p'
      have hal : a < s1.heap.objs.size := by obtain ⟨_, y, _⟩ := hT; exact Heap.lt_size y
      refine call_enum_tup hT fun h' he hit hsz hk => wpAny_pyIter_enum he ?_
      have I2 : Inv X pins σ H1 { s1 with heap := h' } := I1.kept (t' := s1.toks) hk
      exact ⟨s1.heap.objs.size + 1, [s1.heap.objs.size + 1, s1.heap.objs.size], _, _, H1, rfl, I2, turn_enumT a (s1.heap.objs.size + 1) s1.heap.objs.size, ⟨⟨.none, he⟩, hit, Nat.succ_ne_self _, Nat.ne_of_lt hal, (Nat.ne_of_lt (Nat.lt_succ_of_lt hal)).symm⟩, fp hk I2, q⟩
theorem wk_enumT {W : Wd} {r : List Addr} {H : Hp} {a : Addr} {xs : List D} {vs : List V} (t : TupAt W r H a vs) (e : Rvs W r H xs vs) : WkR W r H ⟨enumL 0 xs, fun _ => True⟩ (IteT W.K a) := by
  intro r1 H1 hs1 x m _
  have t1 := t.mono x
  have e1 := e.mono x
  simp only [enumL_len]
  refine ⟨fun i hi => ?_, fun i hi => ⟨vs, t1.sq, by rw [e1.length]; exact hi⟩, fun i y H2 q d hd => ?_⟩
  · obtain ⟨v, hv, _⟩ := e1.get (List.getElem?_eq_getElem hi)
    exact ⟨vs, v, t1.sq, hv⟩
  · obtain ⟨T, z, rfl, hT, rfl, q2⟩ := q
    obtain ⟨e, h1, rfl⟩ := enumL_at _ _ _ _ hd
    obtain ⟨v, hv, rv⟩ := e1.get h1
    have e2 := q2 vs t1.sq
    rw [hv] at e2
    cases e2
    rw [Nat.zero_add]
    exact pair_new m hT (.int _) rv
end Q

/-! expressions: what mine computes is what the given text computes -/
namespace Q
open PySem PySem.Spec PyProof.Rows L2

abbrev wdo (X : Cx) (L : Wl) : Wd := ⟨X.K, L.C, L.has⟩
noncomputable abbrev clOf (L : Wl) (k : Nat) : Cl := ⟨L.T, Q.call L.T k⟩
def SE (L : Wl) (k : Nat) (e : Ex) : Prop := ∀ (c : Ck) (X : Cx) (Y : WX) (E : Expr), XOk L k c X → Takes X Y → chkE c e E = true →
  PE X E (rdE (wdo X L) Y (evE (clOf L k) e)) ∧ PT X E (rdT (wdo X L) Y (evT (clOf L k) e))
def SEs (L : Wl) (k : Nat) (es : Exs) : Prop := ∀ (c : Ck) (X : Cx) (Y : WX) (l : List Expr), XOk L k c X → Takes X Y → chkEs c es l = true →
  PA X l (rdA (wdo X L) Y (evs (clOf L k) es)) ∧ (l ≠ [] → ∀ pos : Pos,
    (PE X (.BoolOp .And l pos) (rdE (wdo X L) Y (evAnd (clOf L k) es)) ∧ PW X (.BoolOp .And l pos) (rdT (wdo X L) Y fun s h => (evAnd (clOf L k) es s h).bind truR)) ∧
    (PE X (.BoolOp .Or l pos) (rdE (wdo X L) Y (evOr (clOf L k) es)) ∧ PW X (.BoolOp .Or l pos) (rdT (wdo X L) Y fun s h => (evOr (clOf L k) es s h).bind truR)))
def SO (L : Wl) (k : Nat) (o : Eo) : Prop := ∀ (c : Ck) (X : Cx) (Y : WX) (E : Option Expr), XOk L k c X → Takes X Y → chkO c o E = true → PO X E (rd (fun _ _ (a b : Option Int) => a = b) (wdo X L) Y (evO (clOf L k) o))
def SC (L : Wl) (k : Nat) (o : Eo) : Prop := ∀ (c : Ck) (X : Cx) (Y : WX) (l : List Expr), XOk L k c X → Takes X Y → chkC c o l = true → PTs X l (rdT (wdo X L) Y (evC (clOf L k) o))
def SI (L : Wl) (k : Nat) (it : It) : Prop := ∀ (c : Ck) (X : Cx) (Y : WX) (T E : Expr), XOk L k c X → Takes X Y → chkI c it T E = true → PI X T E (rd (WkR (wdo X L)) (wdo X L) Y (walk (clOf L k) it))

section
variable {X : Cx} {W : Wd} {Y : WX} {σ : L2.St} {r : List Addr} {H : Hp} {hs : Hs} {s : Ev} {Q : VK} {d e : D} {v u : V}
theorem truR_post {P : Bool → Hp → Prop} (p : Post (fun _ _ (a b : Bool) => a = b) W Y σ r H (truR d hs) P) (m : Mt W r H hs) : ∃ c, tru hs d = some c ∧ P c H := by
  unfold truR at p
  split at p
  · rename_i c hc
    exact ⟨c, hc, p r H c (Ext.refl _ _) m rfl⟩
  · exact False.elim p
theorem pw_weak {E : Expr} {t t' : TT} (h : PW X E t) (w : ∀ σ H Q, t' σ H Q → t σ H Q) : PW X E t' := ⟨fun wh pins s σ H Q I q => h.run wh pins s σ H Q I (w σ H Q q)⟩
theorem po_weak {E : Option Expr} {t t' : TO} (h : PO X E t) (w : ∀ σ H Q, t' σ H Q → t σ H Q) : PO X E t' := ⟨fun pins s σ H Q I q => h.run pins s σ H Q I (w σ H Q q)⟩
theorem pts_weak {E : List Expr} {t t' : TT} (h : PTs X E t) (w : ∀ σ H Q, t' σ H Q → t σ H Q) : PTs X E t' := ⟨fun pins s σ H Q I q => h.run pins s σ H Q I (w σ H Q q)⟩
theorem pi_weak {tg E : Expr} {t t' : TI} (h : PI X tg E t) (w : ∀ σ H Q, t' σ H Q → t σ H Q) : PI X tg E t' := ⟨fun pins s σ H Q I q => h.run pins s σ H Q I (w σ H Q q)⟩
/-- truth asked of a value -/
theorem pt_of {E : Expr} {f : Ev → Hs → R D} (hv : valT E = true) (hW : W.K = X.K) (h : PE X E (rdE W Y f)) : PT X E (rdT W Y fun s h => (f s h).bind truR) := by
  refine pt_weak (pt_truth h (valT_ok hv)) fun σ H Q w => ?_
  obtain ⟨r, hs, s, m, en, p⟩ := w
  refine rd_bind m en p fun d r1 H1 hs1 v x m1 e1 rv _ p1 => ?_
  obtain ⟨c, hc, q⟩ := truR_post p1 m1
  exact ⟨c, hW ▸ q_tru m1 rv hc, q⟩
/-- a test whose value is a truth -/
theorem pd_bl {res : R D} {P : Bool → Hp → Prop} (hb : ∀ d h, res = .ok d h → ∃ b, d = .bl b) (p : Post (fun _ _ (a b : Bool) => a = b) W Y σ r H (res.bind truR) P) : PD W Y σ r H res fun x H => ∃ k, x = .bl k ∧ P k H := by
  cases res with
  | ok d h =>
    obtain ⟨b, rfl⟩ := hb d h rfl
    intro r' H' v x m rv
    cases rv
    exact ⟨b, rfl, p r' H' b x m rfl⟩
  | exc c fs h => exact p
  | bad => exact p
theorem cop_bl (o : Cop) (a b : D) (h : Hs) (d : D) (h' : Hs) (e : o.run a b h = .ok d h') : ∃ k, d = .bl k := by
  cases o <;> simp only [Cop.run] at e
  case eq => unfold opt at e; split at e <;> cases e; exact ⟨_, rfl⟩
  case ne => unfold opt at e; split at e <;> cases e; exact ⟨_, rfl⟩
  case isin => unfold opt at e; split at e <;> cases e; exact ⟨_, rfl⟩
  case notin => unfold opt at e; split at e <;> cases e; exact ⟨_, rfl⟩
  all_goals
    cases a <;> cases b <;> first | (cases e; done) | (cases e; exact ⟨_, rfl⟩)
theorem bind_assoc {α β γ : Type} (r : R α) (f : α → Hs → R β) (g : β → Hs → R γ) : (r.bind f).bind g = r.bind fun a h => (f a h).bind g := by cases r <;> rfl
theorem pt_if {c a b : Expr} {pos : Pos} {tc ta tb : TT} (hc : PT X c tc) (ha : PT X a ta) (hb : PT X b tb) : PT X (.IfExp c a b pos) (fun σ H Q => tc σ H fun k H1 => if k = true then ta σ H1 Q else tb σ H1 Q) := by
  refine ⟨fun pins s σ H Q I h => ?_⟩
  show wpAny _ _ (do if ← isTrue c X.env (eval c X.env) then isTrue a X.env (eval a X.env) else isTrue b X.env (eval b X.env)) _ _ _
  refine wpAny_bind (thn (hc.run pins s σ H _ I h) fun k s1 w => ?_)
  obtain ⟨H1, I1, q⟩ := w
  cases k with
  | true => exact ha.run pins s1 σ H1 Q I1 q
  | false => exact hb.run pins s1 σ H1 Q I1 q
theorem pd_list_dic (m : Mt W r H hs) (p : PD W Y σ r H (.ok (.ref hs.length) (hs ++ [.dic false []])) Q) : ∀ a, H a = none → Q (.ref a) (upd H a (.dK [])) := fun a n =>
  p (r ++ [a]) _ _ (ext_push m n _) (m.push n ⟨[], [], [], upd_same, rfl, rfl, ⟨by simp, fun _ h => nomatch h⟩, .nil⟩) (.ref (by rw [← m.len]; simp))
theorem pd_list_dicT (m : Mt W r H hs) (p : PD W Y σ r H (.ok (.ref hs.length) (hs ++ [.dic true []])) Q) : ∀ a, H a = none → Q (.ref a) (upd H a (.dT [])) := fun a n =>
  p (r ++ [a]) _ _ (ext_push m n _) (m.push n ⟨[], [], [], upd_same, rfl, rfl, by simp, .nil⟩) (.ref (by rw [← m.len]; simp))
theorem chars_inj : ∀ {a b : List Char}, a.map Char.toNat = b.map Char.toNat → a = b
  | [], [], _ => rfl
  | [], _ :: _, h => by simp at h
  | _ :: _, [], h => by simp at h
  | x :: a, y :: b, h => by
    simp only [List.map_cons, List.cons.injEq] at h
    have := Char.toNat_inj.mp h.1
    rw [this, chars_inj h.2]
theorem fN_inj {a b : String} (h : fN a = fN b) : a = b := by
  unfold fN at h
  rw [Str.ofString_eq_toList, Str.ofString_eq_toList] at h
  have h2 : a.toList.map Char.toNat = b.toList.map Char.toNat := by
    have := congrArg (fun s : Str => s.cps.toList) h
    simpa using this
  exact String.toList_inj.mp (chars_inj h2)
theorem fld_lookup : ∀ {fs : List String} {ds : List D} {vs : List V} {f : String} {d : D}, fldOf fs ds f = some d → Rvs W r H ds vs → ∃ v, (zipF fs vs).lookup (fN f) = some v ∧ Rv W r H d v
  | [], _, _, _, _, h, _ => by cases h
  | _ :: _, [], _, _, _, h, _ => by cases h
  | g :: fs, e :: ds, _, f, d, h, .cons (v := v) (vs := vs) x t => by
    simp only [fldOf] at h
    simp only [zipF, List.lookup_cons]
    by_cases q : g = f
    · subst q
      rw [if_pos rfl] at h
      cases h
      exact ⟨v, by simp, x⟩
    · rw [if_neg q] at h
      have : (fN f == fN g) = false := by
        rw [beq_eq_false_iff_ne]
        exact fun z => q (fN_inj z).symm
      rw [this]
      exact fld_lookup h t
theorem lk_lookup {l : List (Str × V)} : ∀ {fs : List String} {ds : List D} {vs : List V} {f : String} {d : D}, fldOf fs ds f = some d → Rvs W r H ds vs → LkAll fs vs l → ∃ v, l.lookup (fN f) = some v ∧ Rv W r H d v
  | [], _, _, _, _, h, _, _ => by cases h
  | _ :: _, [], _, _, _, h, _, _ => by cases h
  | g :: fs, e :: ds, _, f, d, h, .cons (v := v) (vs := vs) x t, k => by
    simp only [fldOf] at h
    obtain ⟨k1, k2⟩ := k
    by_cases q : g = f
    · subst q
      rw [if_pos rfl] at h
      cases h
      exact ⟨v, k1, x⟩
    · rw [if_neg q] at h
      exact lk_lookup h t k2
theorem q_fld (ck : ClsOk W) (na : ∀ (d : Cn) (f : String), W.has d = true → fldKnown f = true → NoAttr W.K (W.C d) (fN f)) (m : Mt W r H hs) (x : Rv W r H d v) {f : String} (hf : fldKnown f = true) (p : PD W Y σ r H (fldD f d hs) Q) : RFld W.K (fN f) v H Q := by
  cases x <;> first | exact False.elim p | skip
  case obj c ds vs a dx pr xx h n l es =>
    simp only [fldD] at p
    obtain ⟨w, hw, p⟩ := pd_opt p
    obtain ⟨v, h1, h2⟩ := fld_lookup hw es
    exact .inl ⟨a, _, dx, _, v, rfl, h, (ck.own c pr xx).1, na c f pr hf, h1, pd_ok p m h2⟩
  case exc0 c a pr xx f0 h n =>
    simp only [fldD, f0] at p
    exact False.elim p
  case exc1 c ds vs a dx l pr xx h n hd nd es k ll =>
    simp only [fldD] at p
    obtain ⟨w, hw, p⟩ := pd_opt p
    obtain ⟨v, h1, h2⟩ := lk_lookup hw es k
    exact .inr ⟨a, _, dx, _, v, rfl, h, ck.exc c pr xx, na c f pr hf, hd, h1, pd_ok p m h2⟩
theorem evs_len {C : Cl} : ∀ {es : Exs} {s : Ev} {h : Hs} {ds : List D} {h' : Hs}, evs C es s h = .ok ds h' → ds.length = es.len
  | .nil, _, _, _, _, e => by cases e; rfl
  | .cons x es, s, h, ds, h', e => by
    simp only [evs] at e
    cases q : evE C x s h with
    | ok d h1 =>
      rw [q] at e
      cases q2 : evs C es s h1 with
      | ok ds2 h2 =>
        simp only [R.bind, q2] at e
        cases e
        simp only [List.length_cons, Exs.len, evs_len q2]
      | exc _ _ _ => simp only [R.bind, q2] at e; cases e
      | bad => simp only [R.bind, q2] at e; cases e
    | exc _ _ _ => rw [q] at e; cases e
    | bad => rw [q] at e; cases e
theorem chkEs_len {c : Ck} : ∀ {es : Exs} {l : List Expr}, chkEs c es l = true → es.len = l.length ∧ l.all noStar = true
  | .nil, l, h => by
    simp only [chkEs, List.isEmpty_iff] at h
    subst h
    exact ⟨rfl, rfl⟩
  | .cons x es, l, h => by
    simp only [chkEs] at h
    split at h
    · rename_i y r
      simp only [Bool.and_eq_true] at h
      obtain ⟨h1, h2, h3⟩ := h
      obtain ⟨k1, k2⟩ := chkEs_len h3
      exact ⟨by simp [Exs.len, k1], by simp [h1]; simpa using k2⟩
    · cases h
theorem calm_hd {L : Wl} {k : Nat} {c : Ck} (h : XOk L k c X) (hh : (!c.hot) = true) : X.calm = true ∧ Room (k + 2) X.A := h.calm (by simpa using hh)
end
end Q

/-! expressions, all of them -/
namespace Q
open PySem PySem.Spec PyProof.Rows L2

section
variable {X : Cx} {W : Wd} {Y : WX} {σ : L2.St} {r : List Addr} {H : Hp} {hs : Hs} {s : Ev} {Q : VK} {d e : D} {v u : V}
theorem side {D : Addr} {a b : List V} (m : Mt W r H hs) (h : H D = some (.lst a)) (n : D ∉ r) : Mt W r (upd H D (.lst b)) hs ∧ ExtK r H r (upd H D (.lst b)) := by
  have x : ExtK r H r (upd H D (.lst b)) := ⟨⟨[], by simp⟩, fun c o e n2 k => by
    have ne : c ≠ D := fun z => by rw [z, h] at e; cases e; exact k _ rfl
    exact ⟨by rw [upd_ne ne]; exact e, n2⟩⟩
  refine ⟨⟨m.len, m.nd, fun i c o h1 h2 => ?_⟩, x⟩
  have ne : c ≠ D := fun z => n (z ▸ List.mem_of_getElem? h1)
  exact (m.at_ i c o h1 h2).monoK x (by rw [upd_ne ne])
theorem compL_nil {ok : Hs → Prop} {g : D → Hs → R (Option D)} {h h2 : Hs} {l : List D} (e : compL ok g [] h = .ok l h2) : ok h ∧ l = [] ∧ h2 = h := by
  unfold compL at e
  split at e
  · rename_i k; cases e; exact ⟨k, rfl, rfl⟩
  · cases e
theorem compL_cons {ok : Hs → Prop} {g : D → Hs → R (Option D)} {d : D} {ds : List D} {h h2 : Hs} {l : List D} (e : compL ok g (d :: ds) h = .ok l h2) :
    ok h ∧ ∃ o h3 l2, g d h = .ok o h3 ∧ compL ok g ds h3 = .ok l2 h2 ∧ l = (match o with
      | some x => x :: l2
      | none => l2) := by
  unfold compL at e
  split at e
  · rename_i k
    refine ⟨k, ?_⟩
    split at e
    · rename_i o h3 hg
      split at e
      · rename_i l2 h4 hl
        cases e
        exact ⟨o, h3, l2, hg, hl, rfl⟩
      · cases e
    · cases e
  · cases e
def noX : WX := fun _ _ _ _ => False
theorem comp_some {w : Walk} {g : D → Hs → R (Option D)} {r1 : List Addr} {H1 : Hp} (p : PD W Y σ r1 H1 (compE w g hs) Q) : ∃ l h2, compL w.ok g w.items hs = .ok l h2 ∧ w.items.length ≤ SZ ∧ PD W Y σ r1 H1 (.ok (.ref h2.length) (h2 ++ [.lst l])) Q := by
  unfold compE at p
  split at p
  · rename_i l h2 hl
    split at p
    · rename_i hz
      exact ⟨l, h2, hl, hz, p⟩
    · exact False.elim p
  · exact False.elim p
theorem tg_own {i : Nat} {tg : Tg} {own : List Nat} (h : tgIn own tg = true) (k : tgHas i tg) : i ∈ own := by
  cases tg with
  | one j => cases k; simpa [tgIn] using h
  | many is =>
    simp only [tgIn, List.all_eq_true] at h
    simpa using h i k
theorem Ext.side {r1 r2 : List Addr} {H1 H2 : Hp} {D : Addr} {o : HO} (x : Ext r1 H1 r2 H2) (h : H1 D = none) : Ext r1 H1 r2 (upd H2 D o) := ⟨x.pre, fun a u e n => by
  have ne : a ≠ D := fun z => by rw [z, h] at e; cases e
  rw [upd_ne ne]
  exact x.keep a u e n⟩
theorem Ext.adopt {r1 r2 : List Addr} {H1 H2 : Hp} {D : Addr} (x : Ext r1 H1 r2 H2) (h : H1 D = none) : Ext r1 H1 (r2 ++ [D]) H2 := ⟨by obtain ⟨e, rfl⟩ := x.pre; exact ⟨e ++ [D], by simp⟩, fun a u e n => by
  have ne : a ≠ D := fun z => by rw [z, h] at e; cases e
  obtain ⟨k1, k2⟩ := x.keep a u e n
  exact ⟨k1, fun z => by
    rcases List.mem_append.mp z with z | z
    · exact k2 z
    · exact ne (List.mem_singleton.mp z)⟩⟩
theorem comp_ok {tg : Tg} {own : List Nat} {fw : Ev → Hs → R Walk} {fc : Ev → Hs → R Bool} {fe : Ev → Hs → R D} (ht : tgIn own tg = true)
    (w : rdE W Y (fun s h => (fw s h).bind fun w h => compE w (compG tg own (fun s h => fc s h) (fun s h => fe s h) s) h) σ H Q) :
    tLc (rd (WkR W) W Y fw) (tgG W.K tg) (rdT W noX fc) (rdE W noX fe) own σ H Q := by
  obtain ⟨r, hs, s, m, en, p⟩ := w
  refine rd_bind m en p fun w r1 H1 hs1 J x m1 e1 wk _ p1 => ?_
  intro D hD
  obtain ⟨l, h2, hl, hsz, p2⟩ := comp_some p1
  generalize hG : compG tg own (fun s h => fc s h) (fun s h => fe s h) s = G at hl
  refine ⟨fun i n H => ∃ r hs acc da l', Ext r1 H1 r H ∧ Mt W r H hs ∧ H D = some (.lst acc) ∧ D ∉ r ∧ Rvs W r H da acc ∧ da.length ≤ i ∧ compL w.ok G (w.items.drop i) hs = .ok l' h2 ∧ da ++ l' = l ∧ n + i = w.items.length,
    ⟨w.items.length, r1, hs1, [], [], l, ext_new hD _, m1.new hD _, upd_same, m1.notNew hD, .nil, Nat.le_refl _, by simpa using hl, rfl, rfl⟩, ?_⟩
  rintro i n H2 ⟨r2, hs2, acc, da, l', x2, m2, hacc, hDr, hda, hi, hc, hl2, hn⟩
  by_cases hil : i < w.items.length
  · refine .inr ?_
    rw [List.drop_eq_getElem_cons hil] at hc
    obtain ⟨hok, o, h3, l2, hg, hc2, hl3⟩ := compL_cons hc
    obtain ⟨wk1, wk2, wk3⟩ := wk r2 H2 hs2 x2 m2 hok
    refine ⟨wk1 i hil, fun H' => ∃ m', m' < n ∧ _, fun H' z => z, fun xv H3 hy => ?_⟩
    obtain ⟨r3, x3, m3, rv⟩ := wk3 i xv H3 hy _ (List.getElem?_eq_getElem hil)
    have x13 : Ext r1 H1 r3 H3 := x2.trans x3
    obtain ⟨hacc3, hDr3⟩ := x3.keep _ _ hacc hDr
    have hda3 := hda.mono x3
    have go : ∀ {r5 : List Addr} {H5 : Hp} {h5 : Hs}, Ext r3 H3 r5 H5 → Mt W r5 H5 h5 → H5 D = some (.lst acc) ∧ D ∉ r5 ∧ Rvs W r5 H5 da acc ∧ Ext r1 H1 r5 H5 := fun x5 _ => ⟨(x5.keep _ _ hacc3 hDr3).1, (x5.keep _ _ hacc3 hDr3).2, hda3.mono x5, x13.trans x5⟩
    rw [← hG] at hg
    simp only [compG] at hg
    cases hs2' : asg tg w.items[i] (_root_.Q.wipe s own) with
    | none => rw [hs2'] at hg; cases hg
    | some s2 =>
      rw [hs2'] at hg
      simp only at hg
      refine asg_ok (P := fun σ' => L2.wipe σ' own = L2.wipe σ own) hs2' rv ((e1.mono x13).wipe own) (wipe_twice own own σ fun _ z => z) (fun σ' j vv hj hP => ?_) (fun σ2 en2 hP => ⟨hP, ?_⟩)
      · show L2.wipe (σ'.set j vv) own = _
        rw [wipe_set_in (tg_own ht hj)]
        exact hP
      · refine ⟨r3, hs2, s2, m3, en2, ?_⟩
        cases hfc : fc s2 hs2 with
        | exc _ _ _ => rw [hfc] at hg; cases hg
        | bad => rw [hfc] at hg; cases hg
        | ok b h4 =>
          rw [hfc] at hg
          intro r4 H4 b' x4 m4 eb
          subst eb
          cases b with
          | false =>
            simp only [Bool.false_eq_true, if_false]
            simp only at hg
            cases hg
            obtain ⟨k1, k2, k3, k4⟩ := go x4 m4
            exact ⟨n - 1, by omega, r4, _, acc, da, l2, k4, m4, k1, k2, k3, by omega, hc2, by rw [← hl2, hl3], by omega⟩
          | true =>
            simp only [if_true]
            simp only at hg
            refine ⟨r4, h4, s2, m4, en2.mono x4, ?_⟩
            cases hfe : fe s2 h4 with
            | exc _ _ _ => rw [hfe] at hg; cases hg
            | bad => rw [hfe] at hg; cases hg
            | ok y h5 =>
              rw [hfe] at hg
              cases hg
              intro r5 H5 yv x5 m5 rv5
              obtain ⟨k1, k2, k3, k4⟩ := go (x4.trans x5) m5
              have sd := side (b := acc ++ [yv]) m5 k1 k2
              refine ⟨acc, k1, ?_, n - 1, by omega, r5, _, acc ++ [yv], da ++ [y], l2, k4.side hD, sd.1, upd_same, k2, (k3.append (.cons rv5 .nil)).monoK sd.2, ?_, hc2, ?_, by omega⟩
              · rw [sl_eq, hda.length]; omega
              · rw [List.length_append]; simp; omega
              · rw [← hl2, hl3]; simp
  · refine .inl ?_
    rw [List.drop_eq_nil_of_le (by omega)] at hc
    obtain ⟨hok, rfl, rfl⟩ := compL_nil hc
    obtain ⟨wk1, wk2, wk3⟩ := wk r2 H2 _ x2 m2 hok
    refine ⟨wk2 i (by omega), ?_⟩
    rw [List.append_nil] at hl2
    subst hl2
    exact p2 (r2 ++ [D]) H2 (.ref D) (x2.adopt hD) (m2.adopt hacc hDr hda) (.ref (by rw [← m2.len]; simp))
end
end Q

/-! expressions, one form after another -/
namespace Q
open PySem PySem.Spec PyProof.Rows L2

section
variable {L : Wl} {k : Nat}
theorem pe_bi {X : Cx} {c : Ck} (h : XOk L k c X) (hc : X.calm = true) {e : Expr} {es : List Expr} {t : TA} {p pos : Pos} (ha : PA X (e :: es) t) (hs : noStar e = true) (hss : es.all noStar = true) :
    ∀ f : Bi, f.ok = true → Gl X (Str.ofString f.val.1) → PE X (.Call (.Name (Str.ofString f.val.1) p) (e :: es) [] pos) (tCB (RBi X.K f) t)
  | .len, _, g => pe_callB (call_bi hc .len) g (h.blt "len" (by decide)) (by decide +kernel) ha (by decide +kernel) (by decide +kernel) (star_cons hs) (star_none hss)
  | .abs, _, g => pe_callB (call_bi hc .abs) g (h.blt "abs" (by decide)) (by decide +kernel) ha (by decide +kernel) (by decide +kernel) (star_cons hs) (star_none hss)
  | .min, _, g => pe_callB (call_bi hc .min) g (h.blt "min" (by decide)) (by decide +kernel) ha (by decide +kernel) (by decide +kernel) (star_cons hs) (star_none hss)
  | .max, _, g => pe_callB (call_bi hc .max) g (h.blt "max" (by decide)) (by decide +kernel) ha (by decide +kernel) (by decide +kernel) (star_cons hs) (star_none hss)
  | .int, _, g => pe_callTy (call_bi hc .int) g (h.blt "int" (by decide)) (by decide +kernel) ha (by decide +kernel) (by decide +kernel) (star_cons hs) (star_none hss)
  | .str, _, g => pe_callTy (call_bi hc .str) g (h.blt "str" (by decide)) (by decide +kernel) ha (by decide +kernel) (by decide +kernel) (star_cons hs) (star_none hss)
  | .tuple, _, g => pe_callTy (call_bi hc .tuple) g (h.blt "tuple" (by decide)) (by decide +kernel) ha (by decide +kernel) (by decide +kernel) (star_cons hs) (star_none hss)
  | .list, _, g => pe_callTy (call_bi hc .list) g (h.blt "list" (by decide)) (by decide +kernel) ha (by decide +kernel) (by decide +kernel) (star_cons hs) (star_none hss)
  | .sum, _, g => pe_callB (call_bi hc .sum) g (h.blt "sum" (by decide)) (by decide +kernel) ha (by decide +kernel) (by decide +kernel) (star_cons hs) (star_none hss)
  | .any, _, g => pe_callB (call_bi hc .any) g (h.blt "any" (by decide)) (by decide +kernel) ha (by decide +kernel) (by decide +kernel) (star_cons hs) (star_none hss)
  | .all, _, g => pe_callB (call_bi hc .all) g (h.blt "all" (by decide)) (by decide +kernel) ha (by decide +kernel) (by decide +kernel) (star_cons hs) (star_none hss)
  | .sortedset, q, _ => nomatch q
  | .sorted, q, _ => nomatch q
  | .lenset, q, _ => nomatch q
theorem post_E {Y : WX} {σ : L2.St} {W : Wd} {r : List Addr} {H : Hp} {res : R D} {Q : VK} (p : Post (Rv W) W Y σ r H res Q) : Post (Rv W) W (fun c d _ H => WE Y σ c d H) [] r H res Q := by
  cases res <;> exact p
theorem se_v (i : Nat) : SE L k (.v i) := by
  intro c X Y E h tk g
  simp only [chkE] at g
  split at g
  · rename_i x hx
    obtain ⟨p, rfl⟩ := asName_of hx
    rw [Bool.and_eq_true] at g
    obtain ⟨v1, v2, v3⟩ := visB_ok h g.2
    have e : PE X (.Name x p) (rdE (wdo X L) Y (evE (clOf L k) (.v i))) := by
      refine pe_weak (pe_var (atB_ok h g.1) v1 v2 v3) fun σ H Q w => ?_
      obtain ⟨r, hs, s, m, en, p⟩ := w
      simp only [evE, getV] at p
      split at p
      · rename_i d hd
        obtain ⟨v, h1, h2⟩ := en.2 i d hd
        exact ⟨v, h1, pd_ok p m h2⟩
      · exact False.elim p
    exact ⟨e, pt_of rfl rfl e⟩
  · cases g
theorem se_k (d : D) : SE L k (.k d) := by
  intro c X Y E h tk g
  simp only [chkE] at g
  split at g
  · rename_i q hq
    obtain ⟨j, p, rfl⟩ := asConst_of hq
    have gen : ∀ {v : V}, PE X (.Constant q j p) (tC v) → (∀ r H, Rv (wdo X L) r H d v) → PE X (.Constant q j p) (rdE (wdo X L) Y (evE (clOf L k) (.k d))) ∧ PT X (.Constant q j p) (rdT (wdo X L) Y (evT (clOf L k) (.k d))) := by
      intro v h1 h2
      have e : PE X (.Constant q j p) (rdE (wdo X L) Y (evE (clOf L k) (.k d))) := pe_weak h1 fun σ H Q w => by
        obtain ⟨r, hs, s, m, en, p⟩ := w
        simp only [evE] at p
        exact pd_ok p m (h2 _ _)
      exact ⟨e, pt_of rfl rfl e⟩
    cases d <;> cases q <;> first | (cases g; done) | skip
    case non.none => exact gen pe_non fun _ _ => .non
    case bl.bool a b =>
      simp only [cstB, beq_iff_eq] at g
      subst g
      exact gen pe_bl fun _ _ => .bl a
    case int.int a b =>
      simp only [cstB, beq_iff_eq] at g
      subst g
      exact gen pe_int fun _ _ => .int a
    case str.str a b =>
      simp only [cstB, Bool.and_eq_true, beq_iff_eq] at g
      obtain ⟨g1, g2⟩ := g
      subst g1
      exact gen pe_str fun _ _ => .str a g2
  · cases g
theorem se_g (y : String) : SE L k (.g y) := by
  intro c X Y E h tk g
  simp only [chkE] at g
  split at g
  · rename_i x hx
    obtain ⟨p, rfl⟩ := asName_of hx
    rw [Bool.and_eq_true] at g
    obtain ⟨g1, g2⟩ := glB_ok h g.1
    obtain ⟨d, v, u, h1, h2, h3, h4⟩ := h.con x y (beq_iff_eq.mp g.2)
    have e : PE X (.Name x p) (rdE (wdo X L) Y (evE (clOf L k) (.g y))) := pe_weak (C8.pe_gc g1 ⟨u, h2, h3⟩ g2) fun σ H Q w => by
      obtain ⟨r, hs, s, m, en, p⟩ := w
      simp only [evE, clOf, h1, opt] at p
      exact pd_ok p m (h4 _ _)
    exact ⟨e, pt_of rfl rfl e⟩
  · cases g
theorem se_tup {es : Exs} (ih : SEs L k es) : SE L k (.tup es) := by
  intro c X Y E h tk g
  simp only [chkE] at g
  split at g
  · rename_i l hl
    obtain ⟨j, p, rfl⟩ := asTup_of hl
    rw [Bool.and_eq_true, decide_eq_true_eq] at g
    have e : PE X (.Tuple l j p) (rdE (wdo X L) Y (evE (clOf L k) (.tup es))) := pe_weak (pe_tup (ih c X Y l h tk g.1).1) fun σ H Q w => by
      obtain ⟨r, hs, s, m, en, p⟩ := w
      simp only [evE] at p
      refine rd_bind m en p fun ds r1 H1 hs1 vs x m1 e1 rv q p1 => ⟨?_, pd_tup p1 m1 rv⟩
      rw [rv.length, evs_len q, (chkEs_len g.1).1, sl_eq]
      exact Nat.le_trans g.2 (by decide)
    exact ⟨e, pt_of rfl rfl e⟩
  · cases g
theorem se_lst {es : Exs} (ih : SEs L k es) : SE L k (.lst es) := by
  intro c X Y E h tk g
  simp only [chkE] at g
  split at g
  · rename_i l hl
    obtain ⟨p, rfl⟩ := asLst_of hl
    rw [Bool.and_eq_true, decide_eq_true_eq] at g
    have e : PE X (.List l p) (rdE (wdo X L) Y (evE (clOf L k) (.lst es))) := pe_weak (pe_lst (ih c X Y l h tk g.1).1) fun σ H Q w => by
      obtain ⟨r, hs, s, m, en, p⟩ := w
      simp only [evE] at p
      refine rd_bind m en p fun ds r1 H1 hs1 vs x m1 e1 rv q p1 => ⟨?_, pd_lst p1 m1 rv⟩
      rw [rv.length, evs_len q, (chkEs_len g.1).1, sl_eq]
      exact Nat.le_trans g.2 (by decide)
    exact ⟨e, pt_of rfl rfl e⟩
  · cases g
theorem se_dic (t : Bool) (es : Exs) : SE L k (.dic t es) := by
  intro c X Y E h tk g
  simp only [chkE] at g
  split at g
  · rename_i q hq
    obtain ⟨p, rfl⟩ := asDict_of hq
    obtain ⟨ks, vs⟩ := q
    simp only [Bool.and_eq_true, List.isEmpty_iff] at g
    obtain ⟨g1, g2, g3, g4⟩ := g
    subst g3 g4
    cases es with
    | cons _ _ => cases g2
    | nil =>
     cases t with
     | true =>
      have e : PE X (.Dict [] [] p) (rdE (wdo X L) Y (evE (clOf L k) (.dic true .nil))) := pe_weak pe_dnewT fun σ H Q w => by
        obtain ⟨r, hs, s, m, en, p⟩ := w
        simp only [evE, evs, R.bind, mkDic, newDic, putAll, List.map_nil, List.all_nil, if_true] at p
        exact pd_list_dicT m p
      exact ⟨e, pt_of rfl rfl e⟩
     | false =>
      have e : PE X (.Dict [] [] p) (rdE (wdo X L) Y (evE (clOf L k) (.dic false .nil))) := pe_weak pe_dnewK fun σ H Q w => by
        obtain ⟨r, hs, s, m, en, p⟩ := w
        simp only [evE, evs, R.bind, mkDic, newDic, putAll, List.map_nil, List.all_nil, if_true] at p
        exact pd_list_dic m p
      exact ⟨e, pt_of rfl rfl e⟩
  · cases g
theorem se_bin (o : Bop) {a b : Ex} (ha : SE L k a) (hb : SE L k b) : SE L k (.bin o a b) := by
  intro c X Y E h tk g
  simp only [chkE] at g
  split at g
  · rename_i q hq
    obtain ⟨p, rfl⟩ := asBin_of hq
    obtain ⟨oq, x, y⟩ := q
    simp only [Bool.and_eq_true, decide_eq_true_eq] at g
    obtain ⟨g1, g2, g3⟩ := g
    subst g1
    have e : PE X (.BinOp x o.op y p) (rdE (wdo X L) Y (evE (clOf L k) (.bin o a b))) := pe_weak (pe_op (op_bin o) (ha c X Y x h tk g2).1 (hb c X Y y h tk g3).1) fun σ H Q w => by
      obtain ⟨r, hs, s, m, en, p⟩ := w
      simp only [evE] at p
      refine rd_bind m en p fun d r1 H1 hs1 v x1 m1 e1 rv _ p1 => ?_
      refine rd_bind m1 e1 p1 fun d2 r2 H2 hs2 u x2 m2 e2 rv2 _ p2 => ?_
      exact q_bin m2 (rv.mono x2) rv2 o p2
    exact ⟨e, pt_of rfl rfl e⟩
  · cases g
theorem se_neg {a : Ex} (ha : SE L k a) : SE L k (.neg a) := by
  intro c X Y E h tk g
  simp only [chkE] at g
  split at g
  · rename_i x hx
    obtain ⟨p, rfl⟩ := asNeg_of hx
    have e : PE X (.UnaryOp .USub x p) (rdE (wdo X L) Y (evE (clOf L k) (.neg a))) := pe_weak (pe_un un_neg (ha c X Y x h tk g).1) fun σ H Q w => by
      obtain ⟨r, hs, s, m, en, p⟩ := w
      simp only [evE] at p
      refine rd_bind m en p fun d r1 H1 hs1 v x1 m1 e1 rv _ p1 => ?_
      cases d <;> first | exact False.elim p1 | skip
      cases rv
      exact ⟨_, rfl, pd_ok p1 m1 (.int _)⟩
    exact ⟨e, pt_of rfl rfl e⟩
  · cases g
theorem se_cmp (o : Cop) {a b : Ex} (ha : SE L k a) (hb : SE L k b) : SE L k (.cmp o a b) := by
  intro c X Y E h tk g
  simp only [chkE] at g
  split at g
  · rename_i q hq
    obtain ⟨p, rfl⟩ := asCmp1_of hq
    obtain ⟨oq, x, y⟩ := q
    simp only [Bool.and_eq_true, decide_eq_true_eq] at g
    obtain ⟨g1, g0, g2, g3⟩ := g
    subst g1
    have hu : X.A.units + 152 < cLine := by have := h.un; omega
    have h1 := (ha c X Y x h tk g2).1
    have h2 := (hb c X Y y h tk g3).1
    refine ⟨pe_weak (pe_cmpR (op_cmp hu o) h1 h2 (marks_ok g0)) fun σ H Q w => ?_, pt_weak (pt_cmpR (op_cmp hu o) h1 h2 (marks_ok g0)) fun σ H Q w => ?_⟩
    · obtain ⟨r, hs, s, m, en, p⟩ := w
      simp only [evE] at p
      refine rd_bind m en p fun d r1 H1 hs1 v x1 m1 e1 rv _ p1 => ?_
      refine rd_bind m1 e1 p1 fun d2 r2 H2 hs2 u x2 m2 e2 rv2 _ p2 => ?_
      exact q_cmp m2 (rv.mono x2) rv2 o p2
    · obtain ⟨r, hs, s, m, en, p⟩ := w
      simp only [evT, evE, bind_assoc] at p
      refine rd_bind m en p fun d r1 H1 hs1 v x1 m1 e1 rv _ p1 => ?_
      refine rd_bind m1 e1 p1 fun d2 r2 H2 hs2 u x2 m2 e2 rv2 _ p2 => ?_
      exact q_cmp m2 (rv.mono x2) rv2 o (pd_bl (fun d h e => cop_bl o _ _ _ d h e) p2)
  · cases g
theorem opt_nx {α : Type} (o : Option α) (f : α → D) (h : Hs) (c : Cn) (fs : List D) (h3 : Hs) : opt o f h ≠ .exc c fs h3 := by
  cases o <;> exact fun z => nomatch z
theorem cop_nx (o : Cop) (a b : D) (h : Hs) (c : Cn) (fs : List D) (h3 : Hs) : o.run a b h ≠ .exc c fs h3 := by
  cases o <;> simp only [Cop.run]
  case eq => exact opt_nx _ _ _ _ _ _
  case ne => exact opt_nx _ _ _ _ _ _
  case isin => exact opt_nx _ _ _ _ _ _
  case notin => exact opt_nx _ _ _ _ _ _
  all_goals (cases a <;> cases b <;> exact fun z => nomatch z)
/-- the first comparison of a chain -/
theorem q_chn {W : Wd} {Y : WX} {σ : L2.St} {r : List Addr} {H : Hp} {hs : Hs} {α β : Type} {rel : List Addr → Hp → α → β → Prop} {Q : β → Hp → Prop} {d e : D} {v u : V} {o : Cop} {f : D → Hs → R α} {P : VK} (m : Mt W r H hs) (x : Rv W r H d v) (y : Rv W r H e u)
    (p : Post rel W Y σ r H ((o.run d e hs).bind f) Q) (k : ∀ b r3 H3 h3, Ext r H r3 H3 → Mt W r3 H3 h3 → Post rel W Y σ r3 H3 (f (.bl b) h3) Q → P (.bl b) H3) (kx : ∀ c fs h3, o.run d e hs ≠ .exc c fs h3) : RC W.K o v u H P := by
  refine q_cmp (σ := σ) (Y := Y) m x y o ?_
  cases hq : o.run d e hs with
  | ok w h3 =>
    obtain ⟨b, rfl⟩ := cop_bl o _ _ _ _ _ hq
    rw [hq] at p
    intro r' H' z x' m' rz
    cases rz
    exact k b r' H' h3 x' m' (Post.mono (σ := σ) p x' fun _ _ z => z)
  | exc c fs h3 => exact absurd hq (kx c fs h3)
  | bad =>
    rw [hq] at p
    exact p
theorem se_chn (o o2 : Cop) {a b d : Ex} (ha : SE L k a) (hb : SE L k b) (hd : SE L k d) : SE L k (.chn o o2 a b d) := by
  intro c X Y E h tk g
  simp only [chkE] at g
  split at g
  · rename_i q hq
    obtain ⟨p, rfl⟩ := asCmp2_of hq
    obtain ⟨oq, oq2, x, y, z⟩ := q
    simp only [Bool.and_eq_true, decide_eq_true_eq] at g
    obtain ⟨g1, g2, g0, g3, g4, g5⟩ := g
    subst g1 g2
    have hu : X.A.units + 152 < cLine := by have := h.un; omega
    have h1 := (ha c X Y x h tk g3).1
    have h2 := (hb c X Y y h tk g4).1
    have h3 := (hd c X Y z h tk g5).1
    have hm : lastMarks [o.op, o2.op] [y, z] = false := marks_ok g0
    refine ⟨pe_weak (pe_chain (op_cmp hu o) (op_cmp hu o2) h1 h2 h3 hm) fun σ H Q w => ?_, pt_weak (pt_chain (op_cmp hu o) (op_cmp hu o2) h1 h2 h3 hm) fun σ H Q w => ?_⟩
    · obtain ⟨r, hs, s, m, en, p⟩ := w
      simp only [evE] at p
      refine rd_bind m en p fun d1 r1 H1 hs1 v x1 m1 e1 rv _ p1 => ?_
      refine rd_bind m1 e1 p1 fun d2 r2 H2 hs2 u x2 m2 e2 rv2 _ p2 => ?_
      refine q_chn m2 (rv.mono x2) rv2 p2 (fun b r3 H3 h3 x3 m3 p3 => ⟨b, rfl, ?_⟩) (cop_nx o _ _ _)
      cases b with
      | false => exact pd_ok p3 m3 (.bl false)
      | true =>
        refine rd_bind m3 (e2.mono x3) p3 fun d4 r4 H4 hs4 u4 x4 m4 e4 rv4 _ p4 => ?_
        exact q_cmp m4 (rv2.mono (x3.trans x4)) rv4 o2 p4
    · obtain ⟨r, hs, s, m, en, p⟩ := w
      simp only [evT, evE, bind_assoc] at p
      refine rd_bind m en p fun d1 r1 H1 hs1 v x1 m1 e1 rv _ p1 => ?_
      refine rd_bind m1 e1 p1 fun d2 r2 H2 hs2 u x2 m2 e2 rv2 _ p2 => ?_
      refine q_chn m2 (rv.mono x2) rv2 p2 (fun b r3 H3 h3 x3 m3 p3 => ⟨b, rfl, ?_⟩) (cop_nx o _ _ _)
      cases b with
      | false => exact ⟨false, rfl, p3 r3 H3 false (Ext.refl _ _) m3 rfl⟩
      | true =>
        simp only [chnD, bind_assoc] at p3
        refine rd_bind m3 (e2.mono x3) p3 fun d4 r4 H4 hs4 u4 x4 m4 e4 rv4 _ p4 => ?_
        exact q_cmp m4 (rv2.mono (x3.trans x4)) rv4 o2 (pd_bl (fun d h e => cop_bl o2 _ _ _ d h e) p4)
  · cases g
end
end Q

/-! expressions, further forms -/
namespace Q
open PySem PySem.Spec PyProof.Rows L2

section
variable {L : Wl} {k : Nat}
theorem non_iff {W : Wd} {r : List Addr} {H : Hp} {d : D} {v : V} (x : Rv W r H d v) : decide (v = .non) = isN d := by
  cases x <;> rfl
theorem se_isn (n : Bool) {a : Ex} (ha : SE L k a) : SE L k (.isn a n) := by
  intro c X Y E h tk g
  simp only [chkE] at g
  split at g
  · rename_i q hq
    obtain ⟨p, rfl⟩ := asCmp1_of hq
    obtain ⟨oq, x, y⟩ := q
    simp only [Bool.and_eq_true, decide_eq_true_eq] at g
    obtain ⟨g1, g2, g3⟩ := g
    obtain ⟨j, p2, rfl⟩ := asConst_of g2
    subst g1
    have hx := (ha c X Y x h tk g3).1
    have w1 : ∀ (b : Bool) σ H Q, rdE (wdo X L) Y (evE (clOf L k) (.isn a b)) σ H Q → rdE (wdo X L) Y (evE (clOf L k) a) σ H fun x H1 => Q (.bl (decide (x = .non) != b)) H1 := by
      intro b σ H Q w
      obtain ⟨r, hs, s, m, en, p⟩ := w
      simp only [evE] at p
      refine rd_bind m en p fun d r1 H1 hs1 v x1 m1 e1 rv _ p1 => ?_
      rw [non_iff rv]
      exact pd_ok p1 m1 (.bl _)
    have w2 : ∀ (b : Bool) σ H (Q : Bool → Hp → Prop), rdT (wdo X L) Y (evT (clOf L k) (.isn a b)) σ H Q → rdE (wdo X L) Y (evE (clOf L k) a) σ H fun x H1 => Q (decide (x = .non) != b) H1 := by
      intro b σ H Q w
      obtain ⟨r, hs, s, m, en, p⟩ := w
      simp only [evT, evE, bind_assoc] at p
      refine rd_bind m en p fun d r1 H1 hs1 v x1 m1 e1 rv _ p1 => ?_
      rw [non_iff rv]
      exact p1 r1 H1 _ (Ext.refl _ _) m1 rfl
    cases n with
    | false =>
      refine ⟨pe_weak (pe_cmp (pc_isN hx)) fun σ H Q w => ?_, pt_weak (pt_cmp (pc_isN hx)) fun σ H Q w => ?_⟩
      · have := w1 false σ H Q w
        simpa [tIsN] using this
      · have := w2 false σ H Q w
        obtain ⟨r, hs, s, m, en, p⟩ := this
        refine ⟨r, hs, s, m, en, p.mono (Ext.refl _ _) fun v H z => ⟨_, rfl, by simpa using z⟩⟩
    | true =>
      refine ⟨pe_weak (pe_cmp (pc_notN hx)) fun σ H Q w => ?_, pt_weak (pt_cmp (pc_notN hx)) fun σ H Q w => ?_⟩
      · have := w1 true σ H Q w
        obtain ⟨r, hs, s, m, en, p⟩ := this
        refine ⟨r, hs, s, m, en, p.mono (Ext.refl _ _) fun v H z => by simpa using z⟩
      · have := w2 true σ H Q w
        obtain ⟨r, hs, s, m, en, p⟩ := this
        refine ⟨r, hs, s, m, en, p.mono (Ext.refl _ _) fun v H z => ⟨_, rfl, by simpa using z⟩⟩
  · cases g
/-- a test, then one of two -/
theorem test_then {W : Wd} {Y : WX} {σ : L2.St} {r : List Addr} {H : Hp} {hs : Hs} {s : Ev} {α β : Type} {rel : List Addr → Hp → α → β → Prop} {P : β → Hp → Prop} {f : Ev → Hs → R D} {g : D → Bool → Hs → R α} {K : Bool → Hp → Prop} (m : Mt W r H hs) (en : EnvR W r H s σ)
    (p : Post rel W Y σ r H ((f s hs).bind fun x h => match tru h x with
      | some b => g x b h
      | none => .bad) P) (kk : ∀ d b r1 H1 hs1, Ext r H r1 H1 → Mt W r1 H1 hs1 → EnvR W r1 H1 s σ → tru hs1 d = some b → Post rel W Y σ r1 H1 (g d b hs1) P → K b H1) : rdT W Y (fun s h => (f s h).bind truR) σ H K := by
  refine ⟨r, hs, s, m, en, ?_⟩
  show Post _ _ _ _ _ _ ((f s hs).bind truR) _
  cases q : f s hs with
  | ok d h1 =>
    rw [q] at p
    have p : Post rel W Y σ r H (match tru h1 d with
      | some b => g d b h1
      | none => .bad) P := p
    show Post _ _ _ _ _ _ (truR d h1) _
    unfold truR
    cases q2 : tru h1 d with
    | none => rw [q2] at p; exact False.elim p
    | some b =>
      rw [q2] at p
      intro r' H' b' x' m' e
      subst e
      exact kk d b r' H' h1 x' m' (en.mono x') q2 (p.mono x' fun _ _ z => z)
  | exc _ _ _ => rw [q] at p; exact p
  | bad => rw [q] at p; exact False.elim p
theorem iteD_eq (x : D) (f g : Hs → R D) (h : Hs) : iteD x f g h = match tru h x with
    | some b => (if b then f h else g h)
    | none => .bad := by
  unfold iteD
  cases tru h x with
  | none => rfl
  | some b => cases b <;> rfl
theorem orvD_eq (x : D) (f : Hs → R D) (h : Hs) : orvD x f h = match tru h x with
    | some b => (if b then .ok x h else f h)
    | none => .bad := by
  unfold orvD
  cases tru h x with
  | none => rfl
  | some b => cases b <;> rfl
theorem bad_match {α β : Type} (o : Option Bool) (g : Bool → R α) (f : α → Hs → R β) : (match o with
    | some b => g b
    | none => .bad).bind f = match o with
    | some b => (g b).bind f
    | none => .bad := by cases o <;> rfl
theorem opt_eq (o : Option Bool) (f : Bool → D) (h : Hs) : opt o f h = match o with
    | some b => .ok (f b) h
    | none => .bad := by cases o <;> rfl
theorem se_not {a : Ex} (ha : SE L k a) : SE L k (.not a) := by
  intro c X Y E h tk g
  simp only [chkE] at g
  split at g
  · rename_i x hx
    obtain ⟨p, rfl⟩ := asNot_of hx
    obtain ⟨h1, h2⟩ := ha c X Y x h tk g
    refine ⟨pe_weak (pe_notT h1) fun σ H Q w => ?_, pt_weak (pt_not h2) fun σ H Q w => ?_⟩
    · obtain ⟨r, hs, s, m, en, p⟩ := w
      simp only [evE] at p
      refine rd_bind m en p fun d r1 H1 hs1 v x1 m1 e1 rv _ p1 => ?_
      obtain ⟨b, hb, p1⟩ := pd_opt p1
      exact ⟨b, q_tru m1 rv hb, pd_ok p1 m1 (.bl _)⟩
    · obtain ⟨r, hs, s, m, en, p⟩ := w
      simp only [evT, evE, bind_assoc, opt_eq, bad_match] at p
      exact test_then m en p fun d b r1 H1 hs1 x1 m1 e1 _ p1 => p1 r1 H1 _ (Ext.refl _ _) m1 rfl
  · cases g
theorem se_and {es : Exs} (ih : SEs L k es) : SE L k (.and es) := by
  intro c X Y E h tk g
  simp only [chkE] at g
  split at g
  · rename_i l hl
    obtain ⟨p, rfl⟩ := asAnd_of hl
    simp only [Bool.and_eq_true, Bool.not_eq_true'] at g
    have ne : l ≠ [] := fun z => by rw [z] at g; cases g.2
    obtain ⟨⟨h1, h2⟩, _⟩ := (ih c X Y l h tk g.1).2 ne p
    exact ⟨pe_weak h1 fun σ H Q w => w, pt_weak h2.pt fun σ H Q w => w⟩
  · cases g
theorem se_or {es : Exs} (ih : SEs L k es) : SE L k (.or es) := by
  intro c X Y E h tk g
  simp only [chkE] at g
  split at g
  · rename_i l hl
    obtain ⟨p, rfl⟩ := asOr_of hl
    simp only [Bool.and_eq_true, Bool.not_eq_true'] at g
    have ne : l ≠ [] := fun z => by rw [z] at g; cases g.2
    obtain ⟨_, h1, h2⟩ := (ih c X Y l h tk g.1).2 ne p
    exact ⟨pe_weak h1 fun σ H Q w => w, pt_weak h2.pt fun σ H Q w => w⟩
  · cases g
theorem se_ite {q a b : Ex} (hq : SE L k q) (ha : SE L k a) (hb : SE L k b) : SE L k (.ite q a b) := by
  intro c X Y E h tk g
  simp only [chkE] at g
  split at g
  · rename_i r hr
    obtain ⟨p, rfl⟩ := asIf_of hr
    obtain ⟨x, y, z⟩ := r
    simp only [Bool.and_eq_true] at g
    obtain ⟨g1, g2, g3⟩ := g
    have h1 := hq c X Y x h tk g1
    have h2 := ha c X Y y h tk g2
    have h3 := hb c X Y z h tk g3
    refine ⟨pe_weak (pe_ifExp h1.2 h2.1 h3.1) fun σ H Q w => ?_, pt_weak (pt_if h1.2 h2.2 h3.2) fun σ H Q w => ?_⟩
    · obtain ⟨r, hs, s, m, en, p⟩ := w
      simp only [evE, iteD_eq] at p
      refine test_then m en p fun d b r1 H1 hs1 x1 m1 e1 _ p1 => ?_
      cases b with
      | true => exact ⟨r1, hs1, s, m1, e1, p1⟩
      | false => exact ⟨r1, hs1, s, m1, e1, p1⟩
    · obtain ⟨r, hs, s, m, en, p⟩ := w
      simp only [evT, evE, iteD_eq, bind_assoc, bad_match] at p
      refine test_then m en p fun d b r1 H1 hs1 x1 m1 e1 _ p1 => ?_
      cases b with
      | true => exact ⟨r1, hs1, s, m1, e1, p1⟩
      | false => exact ⟨r1, hs1, s, m1, e1, p1⟩
  · cases g
theorem se_orv {a b : Ex} (ha : SE L k a) (hb : SE L k b) : SE L k (.orv a b) := by
  intro c X Y E h tk g
  simp only [chkE] at g
  split at g
  · rename_i x y hr
    obtain ⟨p, rfl⟩ := asOr_of hr
    simp only [Bool.and_eq_true] at g
    have h1 := ha c X Y x h tk g.1
    have h2 := hb c X Y y h tk g.2
    refine ⟨pe_weak (pe_orT h1.1 (pe_one h2.1)) fun σ H Q w => ?_, pt_weak (pw_or h1.2 (pw_or1 h2.2)).pt fun σ H Q w => ?_⟩
    · obtain ⟨r, hs, s, m, en, p⟩ := w
      simp only [evE] at p
      refine rd_bind m en p fun d r1 H1 hs1 v x1 m1 e1 rv _ p1 => ?_
      rw [orvD_eq] at p1
      cases q2 : tru hs1 d with
      | none => rw [q2] at p1; exact False.elim p1
      | some t =>
        rw [q2] at p1
        refine ⟨t, q_tru m1 rv q2, ?_⟩
        cases t with
        | true => exact pd_ok p1 m1 rv
        | false => exact ⟨r1, hs1, s, m1, e1, p1⟩
    · obtain ⟨r, hs, s, m, en, p⟩ := w
      simp only [evT, evE, orvD_eq, bind_assoc, bad_match] at p
      refine test_then m en p fun d b r1 H1 hs1 x1 m1 e1 hb p1 => ?_
      cases b with
      | true =>
        have p2 : Post _ _ _ _ _ _ (truR d hs1) _ := p1
        unfold truR at p2
        rw [hb] at p2
        exact p2 r1 H1 _ (Ext.refl _ _) m1 rfl
      | false => exact ⟨r1, hs1, s, m1, e1, p1⟩
  · cases g
theorem se_sub {a i : Ex} (ha : SE L k a) (hi : SE L k i) : SE L k (.sub a i) := by
  intro c X Y E h tk g
  simp only [chkE] at g
  split at g
  · rename_i q hq
    obtain ⟨p, rfl⟩ := asSub_of hq
    obtain ⟨x, y⟩ := q
    simp only [Bool.and_eq_true] at g
    obtain ⟨g1, g2, g3⟩ := g
    have hu : X.A.units + 1 < cLine := by have := h.un; omega
    have e : PE X (.Subscript x y p) (rdE (wdo X L) Y (evE (clOf L k) (.sub a i))) := pe_weak (pe_ix (ix_U hu) (ha c X Y x h tk g2).1 (hi c X Y y h tk g3).1 (slice_ok g1)) fun σ H Q w => by
      obtain ⟨r, hs, s, m, en, p⟩ := w
      simp only [evE] at p
      refine rd_bind m en p fun d r1 H1 hs1 v x1 m1 e1 rv _ p1 => ?_
      refine rd_bind m1 e1 p1 fun d2 r2 H2 hs2 u x2 m2 e2 rv2 _ p2 => ?_
      exact q_ix m2 (rv.mono x2) rv2 p2
    exact ⟨e, pt_of rfl rfl e⟩
  · cases g
theorem se_slc {a : Ex} {lo hi : Eo} (ha : SE L k a) (hl : SO L k lo) (hu : SO L k hi) : SE L k (.slc a lo hi) := by
  intro c X Y E h tk g
  simp only [chkE] at g
  split at g
  · rename_i q hq
    obtain ⟨p, rfl⟩ := asSub_of hq
    obtain ⟨x, y⟩ := q
    simp only at g
    split at g
    · rename_i q2 hq2
      obtain ⟨p2, rfl⟩ := asSlc_of hq2
      simp only [Bool.and_eq_true] at g
      obtain ⟨g1, g2, g3⟩ := g
      have e : PE X (.Subscript x (.Slice q2.1 q2.2 none p2) p) (rdE (wdo X L) Y (evE (clOf L k) (.slc a lo hi))) := pe_weak (pe_slice sl_U (ha c X Y x h tk g1).1 (hl c X Y _ h tk g2) (hu c X Y _ h tk g3)) fun σ H Q w => by
        obtain ⟨r, hs, s, m, en, p⟩ := w
        simp only [evE] at p
        refine rd_bind m en p fun d r1 H1 hs1 v x1 m1 e1 rv _ p1 => ?_
        refine rd_bind m1 e1 p1 fun d2 r2 H2 hs2 u x2 m2 e2 rv2 _ p2 => ?_
        refine rd_bind m2 e2 p2 fun d3 r3 H3 hs3 u3 x3 m3 e3 rv3 _ p3 => ?_
        subst rv2 rv3
        exact q_slice m3 (rv.mono (x2.trans x3)) p3
      exact ⟨e, pt_of rfl rfl e⟩
    · cases g
  · cases g
theorem se_fld {a : Ex} (f : String) (ha : SE L k a) : SE L k (.fld a f) := by
  intro c X Y E h tk g
  simp only [chkE] at g
  split at g
  · rename_i q hq
    obtain ⟨p, rfl⟩ := asAttr_of hq
    obtain ⟨x, y⟩ := q
    simp only [Bool.and_eq_true, beq_iff_eq] at g
    obtain ⟨g1, g2, g3, g4⟩ := g
    subst g1
    have e : PE X (.Attribute x (fN f) p) (rdE (wdo X L) Y (evE (clOf L k) (.fld a f))) := pe_weak (pe_fldU (ha c X Y x h tk g4).1 g3) fun σ H Q w => by
      obtain ⟨r, hs, s, m, en, p⟩ := w
      simp only [evE] at p
      refine rd_bind m en p fun d r1 H1 hs1 v x1 m1 e1 rv _ p1 => ?_
      exact q_fld h.cls h.noat m1 rv g2 p1
    exact ⟨e, pt_of rfl rfl e⟩
  · cases g
theorem pe_callS0 {X : Cx} {CX : CXT} {k : Nat} {f : Addr} {fd : FuncData} {ps : List Str} {sp : Sp} {E : L2.St → XK} {x : Str} {p pos : Pos} (F : FnOk X.prog X.w X.K X.mg X.base CX k f fd ps sp) (hr : Room k X.A) (hg : Gl X x) (hm : X.mg x = some (.ref f)) (hk : PySem.W.keepIn X.K (.ref f) = true) (hb : Binds X.K fd ps []) (hx : ∀ σ, PassesAt CX X σ (E σ))
    (hdb : (x == ("__debug__" : Str)) = false) : PE X (.Call (.Name x p) [] [] pos) (fun σ H Q => sp [] H Q (E σ)) := by
  refine ⟨fun pins s σ H Q I h => ?_⟩
  refine wpAny_Call_Name_kw (ld_glob I hg hm ?_ hdb)
  exact PySem.W.callWith_K0 I.kIn hk (run_fnSD (us := []) (dvs := []) (ds := []) F hr hb .nil (hx σ) I .nil h)
theorem se_call (f : String) {es : Exs} (ih : SEs L k es) : SE L k (.call f es) := by
  intro c X Y E h tk g
  simp only [chkE] at g
  split at g
  · rename_i q hq
    obtain ⟨p, p2, rfl⟩ := asCall_of hq
    obtain ⟨x, l⟩ := q
    simp only [Bool.and_eq_true, beq_iff_eq] at g
    obtain ⟨⟨g1, g2, g3⟩, g4⟩ := g
    obtain ⟨hc, hr⟩ := calm_hd h g1
    obtain ⟨k1, k2⟩ := glB_ok h g2
    obtain ⟨a, fd, ps, m1, m2, m3, m4⟩ := h.fns x f g3
    cases l with
    | nil =>
      cases es with
      | cons e0 es0 => simp only [chkEs] at g4; cases g4
      | nil =>
        have e : PE X (.Call (.Name x p) [] [] p2) (rdE (wdo X L) Y (evE (clOf L k) (.call f .nil))) := pe_weak (pe_callS0 m3 hr k1 m1 m2 m4 (E := WE Y) (passAt tk) k2) fun σ H Q w => by
          obtain ⟨r, hs, s, m, en, p⟩ := w
          simp only [evE, evs, R.bind_ok] at p
          exact ⟨r, hs, [], m, .nil, post_E p⟩
        exact ⟨e, pt_of rfl rfl e⟩
    | cons y l =>
      have hst := (chkEs_len g4).2
      rw [List.all_cons, Bool.and_eq_true] at hst
      have e : PE X (.Call (.Name x p) (y :: l) [] p2) (rdE (wdo X L) Y (evE (clOf L k) (.call f es))) := pe_weak (pe_callS m3 hr k1 m1 m2 m4 (E := WE Y) (passAt tk) (ih c X Y (y :: l) h tk g4).1 k2 (star_cons hst.1) (star_none hst.2)) fun σ H Q w => by
        obtain ⟨r, hs, s, m, en, p⟩ := w
        simp only [evE] at p
        refine rd_bind m en p fun ds r1 H1 hs1 vs x1 m1 e1 rv _ p1 => ?_
        exact ⟨r1, hs1, ds, m1, rv, post_E p1⟩
      exact ⟨e, pt_of rfl rfl e⟩
  · cases g
theorem se_b (f : Bi) {es : Exs} (ih : SEs L k es) : SE L k (.b f es) := by
  intro c X Y E h tk g
  simp only [chkE] at g
  split at g
  · rename_i q hq
    obtain ⟨p, p2, rfl⟩ := asCall_of hq
    obtain ⟨x, l⟩ := q
    simp only [Bool.and_eq_true, beq_iff_eq] at g
    obtain ⟨⟨g1, g0, g2, g3⟩, g4, g5⟩ := g
    obtain ⟨hc, hr⟩ := calm_hd h g1
    obtain ⟨k1, k2⟩ := glB_ok h g2
    subst g3
    cases l with
    | nil => cases g5
    | cons y l =>
      have hst := (chkEs_len g4).2
      rw [List.all_cons, Bool.and_eq_true] at hst
      have e : PE X (.Call (.Name (Str.ofString f.val.1) p) (y :: l) [] p2) (rdE (wdo X L) Y (evE (clOf L k) (.b f es))) := pe_weak (pe_bi h hc (ih c X Y (y :: l) h tk g4).1 hst.1 hst.2 f g0 k1) fun σ H Q w => by
        obtain ⟨r, hs, s, m, en, p⟩ := w
        simp only [evE] at p
        refine rd_bind m en p fun ds r1 H1 hs1 vs x1 m1 e1 rv _ p1 => ?_
        exact q_bi m1 rv f p1
      exact ⟨e, pt_of rfl rfl e⟩
  · cases g
theorem bmD_some {α : Type} {f : Bm} {x : D} {g : Hs → R α} {h : Hs} {W : Wd} {Y : WX} {σ : L2.St} {r : List Addr} {H : Hp} {β : Type} {rel : List Addr → Hp → α → β → Prop} {Q : β → Hp → Prop} (p : Post rel W Y σ r H (bmD f x g h) Q) : bmK f x h = true ∧ Post rel W Y σ r H (g h) Q := by
  unfold bmD at p
  split at p
  · rename_i hk; exact ⟨hk, p⟩
  · exact False.elim p
theorem few_ok {X : Cx} {l : List Expr} {pos : Pos} (h1 : l.all noStar = true) (h2 : few l = true) : ((backTo pos (starEach l X.env)).all (fun x => !x.1) && (backToKw pos (keywordEach [] X.env)).all (fun x => x.1.isSome)
      && decide (l.length + ([] : List Keyword).length + (if ([] : List Keyword).isEmpty then 0 else 1) < 30)) = true := by
  rw [star_few h1]
  have h3 : l.length ≤ 20 := of_decide_eq_true h2
  have h4 : decide (l.length + ([] : List Keyword).length + (if ([] : List Keyword).isEmpty then 0 else 1) < 30) = true := decide_eq_true (by simp; omega)
  rw [h4]
  rfl
theorem se_bm (f : Bm) {a : Ex} {es : Exs} (ha : SE L k a) (ih : SEs L k es) : SE L k (.bm f a es) := by
  intro c X Y E h tk g
  simp only [chkE] at g
  split at g
  · rename_i q hq
    obtain ⟨p, p2, rfl, hln⟩ := asMeth_of hq
    obtain ⟨x, nm, l⟩ := q
    simp only [Bool.and_eq_true, beq_iff_eq] at g
    obtain ⟨⟨g1, g2⟩, g3, g4, g5⟩ := g
    subst g1
    have hu : X.A.units + 152 < cLine := by have := h.un; omega
    obtain ⟨s1, s2, s3⟩ := bm_slot f
    have hx := (ha c X Y x h tk g3).1
    have hl := (ih c X Y l h tk g4).1
    have hst := (chkEs_len g4).2
    have e : PE X (.Call (.Attribute x (Str.ofString f.name) p) l [] p2) (rdE (wdo X L) Y (evE (clOf L k) (.bm f a es))) := by
      cases l with
      | nil =>
        refine pe_weak (pe_bm0 s1 s2 s3 (mt_bm hu f) hx (plainB_ok g2) hln) fun σ H Q w => ?_
        obtain ⟨r, hs, s, m, en, p⟩ := w
        simp only [evE] at p
        refine rd_bind m en p fun d r1 H1 hs1 v x1 m1 e1 rv _ p1 => ?_
        obtain ⟨hk, p1⟩ := bmD_some p1
        refine ⟨q_bm_ty m1 rv f hk, ?_⟩
        cases es with
        | cons _ _ => simp [chkEs] at g4
        | nil => exact q_bm m1 rv .nil f p1
      | cons y l =>
        have hst2 := hst
        rw [List.all_cons, Bool.and_eq_true] at hst2
        refine pe_weak (pe_bm s1 s2 s3 (mt_bm hu f) hx hl (plainB_ok g2) (few_ok hst g5) hln (star_cons hst2.1) (star_none hst2.2)) fun σ H Q w => ?_
        obtain ⟨r, hs, s, m, en, p⟩ := w
        simp only [evE] at p
        refine rd_bind m en p fun d r1 H1 hs1 v x1 m1 e1 rv _ p1 => ?_
        obtain ⟨hk, p1⟩ := bmD_some p1
        refine ⟨q_bm_ty m1 rv f hk, ?_⟩
        refine rd_bind m1 e1 p1 fun ds r2 H2 hs2 vs x2 m2 e2 rv2 _ p2 => ?_
        exact q_bm m2 (rv.mono x2) rv2 f p2
    exact ⟨e, pt_of rfl rfl e⟩
  · cases g
end
end Q

/-! expressions: isinstance, comprehensions, lists of them, walks; the theorem -/
namespace Q
open PySem PySem.Spec PyProof.Rows L2

section
variable {L : Wl} {k : Nat}
theorem tyB1_ok {X : Cx} {c : Ck} (h : XOk L k c X) {t : Ty} {e : Expr} (g : tyB1 c t e = true) : PE X e (tC (t.v (wdo X L))) ∧ tyOk (wdo X L) t := by
  unfold tyB1 at g
  split at g
  · rename_i x hx
    obtain ⟨p, rfl⟩ := asName_of hx
    rw [Bool.and_eq_true] at g
    obtain ⟨k1, k2⟩ := glB_ok h g.1
    have g2 := g.2
    cases t <;> simp only [beq_iff_eq] at g2 <;> first | subst g2 | skip
    case tint => exact ⟨pe_bltn k1 (h.blt "int" (by decide)) (by decide +kernel) (v := .ty "int") (u := .type "int") rfl (by decide +kernel) k2, trivial⟩
    case tbool => exact ⟨pe_bltn k1 (h.blt "bool" (by decide)) (by decide +kernel) (v := .ty "bool") (u := .type "bool") rfl (by decide +kernel) k2, trivial⟩
    case tstr => exact ⟨pe_bltn k1 (h.blt "str" (by decide)) (by decide +kernel) (v := .ty "str") (u := .type "str") rfl (by decide +kernel) k2, trivial⟩
    case ttuple => exact ⟨pe_bltn k1 (h.blt "tuple" (by decide)) (by decide +kernel) (v := .ty "tuple") (u := .type "tuple") rfl (by decide +kernel) k2, trivial⟩
    case tlist => exact ⟨pe_bltn k1 (h.blt "list" (by decide)) (by decide +kernel) (v := .ty "list") (u := .type "list") rfl (by decide +kernel) k2, trivial⟩
    case tval => exact ⟨pe_bltn k1 (h.blt "ValueError" (by decide)) (by decide +kernel) (v := .ty "ValueError") (u := .type "ValueError") rfl (by decide +kernel) k2, trivial⟩
    case own d => exact ⟨pe_glob k1 (h.cns x d g2).2.1 (v := .ref (L.C d)) rfl k2, (h.cns x d g2).1⟩
  · cases g
def tTys (W : Wd) (ts : List Ty) : TA := fun _ H Q => Q (ts.map fun t => t.v W) H
theorem tyBs_ok {X : Cx} {c : Ck} (h : XOk L k c X) : ∀ {ts : List Ty} {es : List Expr}, tyBs c ts es = true → PA X es (tTys (wdo X L) ts) ∧ ts.length = es.length ∧ ∀ y ∈ ts, tyOk (wdo X L) y
  | [], [], _ => ⟨pa_weak pa_nil fun _ _ _ w => w, rfl, fun _ h => nomatch h⟩
  | [], _ :: _, g => nomatch g
  | _ :: _, [], g => nomatch g
  | t :: ts, e :: es, g => by
    simp only [tyBs, Bool.and_eq_true] at g
    obtain ⟨g1, g2, g3⟩ := g
    obtain ⟨r1, r2, r3⟩ := tyBs_ok h g3
    exact ⟨pa_weak (pa_cons (tyB1_ok h g2).1 r1 (star_cons g1)) fun _ _ _ w => w, by simp [r2], fun y hy => by
      rcases List.mem_cons.mp hy with e | e
      · subst e; exact (tyB1_ok h g2).2
      · exact r3 y e⟩
theorem se_isi {a : Ex} (ts : List Ty) (ha : SE L k a) : SE L k (.isi a ts) := by
  intro c X Y E h tk g
  simp only [chkE] at g
  split at g
  · rename_i x e t hq
    obtain ⟨p, p2, rfl⟩ := asCall_of hq
    simp only [Bool.and_eq_true, beq_iff_eq] at g
    obtain ⟨⟨g1, g2⟩, ⟨g3, g4⟩, g5, g6⟩ := g
    obtain ⟨k1, k2⟩ := glB_ok h g1
    subst g2
    have hx := (ha c X Y e h tk g5).1
    have mk : ∀ {tt : TE}, PE X t tt → PE X (.Call (.Name ("isinstance" : Str) p) [e, t] [] p2) (tCB (RIsi X.K) (tCons (rdE (wdo X L) Y (evE (clOf L k) a)) (tCons tt tNil))) := fun ht =>
      pe_callB call_isiU k1 (h.blt "isinstance" (by decide)) (by decide +kernel) (pa_cons hx (pa_cons ht pa_nil (star_cons g4)) (star_cons g3)) (by decide +kernel) k2 (star_cons g3) (star_none (by simp [g4]))
    have e : PE X (.Call (.Name ("isinstance" : Str) p) [e, t] [] p2) (rdE (wdo X L) Y (evE (clOf L k) (.isi a ts))) := by
      by_cases h1 : ∃ y, ts = [y]
      · obtain ⟨y, rfl⟩ := h1
        simp only [tyB] at g6
        refine pe_weak (mk (tyB1_ok h g6).1) fun σ H Q w => ?_
        obtain ⟨r, hs, s, m, en, p⟩ := w
        simp only [evE] at p
        refine rd_bind m en p fun d r1 H1 hs1 v x1 m1 e1 rv _ p1 => ?_
        obtain ⟨b, hb, p1⟩ := pd_opt p1
        obtain ⟨tv, t1, t2⟩ := ty_at h.cls m1 rv (fun ds z => by subst z; cases rv)
        simp only [isTys] at hb
        split at hb
        · rename_i a1 c1 ha1 hc1
          cases hb
          cases hc1
          rw [Bool.or_false] at p1
          exact .inl ⟨v, y.v _, tv, y.val _, a1, rfl, y.cls _, t1, t2 y a1 (tyB1_ok h g6).2 ha1, pd_ok p1 m1 (.bl _)⟩
        · cases hb
      · have g7 : (match asTup t with
          | some l => tyBs c ts l && decide (l.length ≤ 100)
          | none => false) = true := by
          unfold tyB at g6
          split at g6
          · rename_i y; exact absurd ⟨y, rfl⟩ h1
          · exact g6
        split at g7
        · rename_i l hl
          obtain ⟨j, p3, rfl⟩ := asTup_of hl
          rw [Bool.and_eq_true, decide_eq_true_eq] at g7
          obtain ⟨q1, q2, q3⟩ := tyBs_ok h g7.1
          refine pe_weak (mk (pe_tup q1)) fun σ H Q w => ?_
          obtain ⟨r, hs, s, m, en, p⟩ := w
          simp only [evE] at p
          refine rd_bind m en p fun d r1 H1 hs1 v x1 m1 e1 rv _ p1 => ?_
          obtain ⟨b, hb, p1⟩ := pd_opt p1
          refine ⟨by rw [List.length_map, q2, sl_eq]; exact Nat.le_trans g7.2 (by decide), fun tp hp => ?_⟩
          have xn := ext_new (r := r1) hp (.tup (ts.map fun t => t.v (wdo X L)))
          have mn := m1.new hp (.tup (ts.map fun t => t.v (wdo X L)))
          obtain ⟨tv, t1, t2⟩ := ty_at h.cls mn (rv.mono xn) (fun ds z => by subst z; cases rv)
          exact .inr ⟨v, tp, _, tv, _, b, rfl, upd_same, paired_cls _ ts, t1, isTys_kit t2 q3 hb, p1 r1 _ _ xn mn (.bl b)⟩
        · cases g7
    exact ⟨e, pt_of rfl rfl e⟩
  · cases g
theorem pe_comp {e : Ex} {tg : Tg} {it : It} {q : Eo} {own : List Nat} (he : SE L k e) (hi : SI L k it) (hq : SC L k q) {c : Ck} {X : Cx} {Y : WX} {elt T iter : Expr} {ifs : List Expr} {sc : Scope} (h : XOk L k c X) (tk : Takes X Y)
    (g : ((!c.hot && (noSet iter && (blkB c sc own && tgIn own tg))) && (chkI c it T iter && (tgB (c.blk sc) tg T && (chkC (c.blk sc) q ifs && chkE (c.blk sc) e elt)))) = true) :
    (X.calm = true ∧ tgIn own tg = true) ∧ PI X T iter (rd (WkR (wdo X L)) (wdo X L) Y (walk (clOf L k) it)) ∧ BlkOk X.N X.env.scope sc (ownL c own) ∧
    (∀ (s : Shared) (H : Hp) (C : Addr) (cl : List (Str × Addr)) (fp : List Addr), PG (X.blk s H sc (compEnvC sc cl C X.env) fp) T (tgG X.K tg)) ∧
    (∀ (s : Shared) (H : Hp) (C : Addr) (cl : List (Str × Addr)) (fp : List Addr), PTs (X.blk s H sc (compEnvC sc cl C X.env) fp) ifs (rdT (wdo X L) noX (evC (clOf L k) q))) ∧
    (∀ (s : Shared) (H : Hp) (C : Addr) (cl : List (Str × Addr)) (fp : List Addr), PE (X.blk s H sc (compEnvC sc cl C X.env) fp) elt (rdE (wdo X L) noX (evE (clOf L k) e))) ∧ ∀ x, foldedSetIterable iter X.env x = pure x := by
  simp only [Bool.and_eq_true] at g
  obtain ⟨⟨g1, g2, g3, g4⟩, g5, g6, g7, g8⟩ := g
  obtain ⟨hc, _⟩ := calm_hd h g1
  exact ⟨⟨hc, g4⟩, hi c X Y T iter h tk g5, blkB_ok h g3, fun s H C cl fp => tgB_ok (X := X.blk s H sc (compEnvC sc cl C X.env) fp) (blk_ok h) hc g6,
    fun s H C cl fp => hq (c.blk sc) (X.blk s H sc (compEnvC sc cl C X.env) fp) noX ifs (blk_ok h) takes0 g7, fun s H C cl fp => (he (c.blk sc) (X.blk s H sc (compEnvC sc cl C X.env) fp) noX elt (blk_ok h) takes0 g8).1, folded_ok g2⟩
theorem own_snd (c : Ck) : ∀ own : List Nat, (ownL c own).map (·.2) = own := by
  intro own
  unfold ownL
  rw [List.map_map]
  exact List.map_id own
theorem se_comp {e : Ex} {tg : Tg} {it : It} {q : Eo} {own : List Nat} (he : SE L k e) (hi : SI L k it) (hq : SC L k q) : SE L k (.comp e tg it q own) := by
  intro c X Y E h tk g
  simp only [chkE] at g
  split at g
  · rename_i r hr
    obtain ⟨p, rfl⟩ := asLc_of hr
    obtain ⟨elt, T, iter, ifs, sc⟩ := r
    obtain ⟨⟨hc, ht⟩, h1, h2, h3, h4, h5, h6⟩ := pe_comp he hi hq h tk g
    have e0 := pe_lc (pos := p) hc h.nd h1 h2 h3 h4 h5 h6
    rw [own_snd] at e0
    have e : PE X (.ListComp elt [⟨T, iter, ifs, 0⟩] sc p) (rdE (wdo X L) Y (evE (clOf L k) (.comp e tg it q own))) := pe_weak e0 fun σ H Q w => by
      simp only [evE] at w
      exact comp_ok ht w
    exact ⟨e, pt_of rfl rfl e⟩
  · cases g

/-! ### lists of expressions -/
theorem ses_nil : SEs L k .nil := by
  intro c X Y l h tk g
  simp only [chkEs, List.isEmpty_iff] at g
  subst g
  refine ⟨pa_weak pa_nil fun σ H Q w => ?_, fun z => absurd rfl z⟩
  obtain ⟨r, hs, s, m, en, p⟩ := w
  simp only [evs] at p
  exact p r H [] (Ext.refl _ _) m .nil
theorem andD_bad {α : Type} (x : D) (f : Hs → R D) (g : D → Hs → R α) (h : Hs) : (andD x f h).bind g = match x with
    | .bl true => (f h).bind g
    | .bl false => g (.bl false) h
    | _ => .bad := by
  cases x <;> first | rfl | (rename_i b; cases b <;> rfl)
theorem orD_bad {α : Type} (x : D) (f : Hs → R D) (g : D → Hs → R α) (h : Hs) : (orD x f h).bind g = match x with
    | .bl true => g (.bl true) h
    | .bl false => (f h).bind g
    | _ => .bad := by
  cases x <;> first | rfl | (rename_i b; cases b <;> rfl)
/-- a truth, then one of two -/
theorem bl_then {W : Wd} {Y : WX} {σ : L2.St} {r : List Addr} {H : Hp} {hs : Hs} {s : Ev} {α β : Type} {rel : List Addr → Hp → α → β → Prop} {P : β → Hp → Prop} {f : Ev → Hs → R D} {g : Bool → Hs → R α} {K : Bool → Hp → Prop} (m : Mt W r H hs) (en : EnvR W r H s σ)
    (p : Post rel W Y σ r H ((f s hs).bind fun x h => match x with
      | .bl true => g true h
      | .bl false => g false h
      | _ => .bad) P) (kk : ∀ b r1 H1 hs1, Ext r H r1 H1 → Mt W r1 H1 hs1 → EnvR W r1 H1 s σ → Post rel W Y σ r1 H1 (g b hs1) P → K b H1) : rdT W Y (fun s h => (f s h).bind truR) σ H K := by
  refine test_then (rel := rel) (P := P) (g := fun x b h => match x with
    | .bl true => g true h
    | .bl false => g false h
    | _ => .bad) m en ?_ fun d b r1 H1 hs1 x1 m1 e1 hb p1 => ?_
  · cases q : f s hs with
    | ok d h1 =>
      rw [q] at p
      have p : Post rel W Y σ r H (match (generalizing := false) d with
        | .bl true => g true h1
        | .bl false => g false h1
        | _ => .bad) P := p
      show Post rel W Y σ r H (match (generalizing := false) tru h1 d with
        | some b => (match (generalizing := false) d with
          | .bl true => g true h1
          | .bl false => g false h1
          | _ => .bad)
        | none => .bad) P
      cases d <;> first | exact False.elim p | exact p
    | exc _ _ _ => rw [q] at p; exact p
    | bad => rw [q] at p; exact False.elim p
  · cases d <;> first | exact False.elim p1 | skip
    rename_i t
    cases hb
    refine kk _ r1 H1 hs1 x1 m1 e1 ?_
    cases b <;> exact p1
theorem andD_id (x : D) (f : Hs → R D) (h : Hs) : andD x f h = match x with
    | .bl true => f h
    | .bl false => .ok (.bl false) h
    | _ => .bad := by
  cases x <;> first | rfl | (rename_i b; cases b <;> rfl)
theorem orD_id (x : D) (f : Hs → R D) (h : Hs) : orD x f h = match x with
    | .bl true => .ok (.bl true) h
    | .bl false => f h
    | _ => .bad := by
  cases x <;> first | rfl | (rename_i b; cases b <;> rfl)
theorem ses_cons {e : Ex} {es : Exs} (he : SE L k e) (ih : SEs L k es) : SEs L k (.cons e es) := by
  intro c X Y l h tk g
  cases l with
  | nil => cases g
  | cons x l =>
    simp only [chkEs, Bool.and_eq_true] at g
    obtain ⟨g1, g2, g3⟩ := g
    obtain ⟨h1, h2⟩ := he c X Y x h tk g2
    obtain ⟨i1, i2⟩ := ih c X Y l h tk g3
    refine ⟨pa_weak (pa_cons h1 i1 (star_cons g1)) fun σ H Q w => ?_, fun _ pos => ?_⟩
    · obtain ⟨r, hs, s, m, en, p⟩ := w
      simp only [evs] at p
      refine rd_bind m en p fun d r1 H1 hs1 v x1 m1 e1 rv _ p1 => ?_
      refine rd_bind m1 e1 p1 fun ds r2 H2 hs2 vs x2 m2 e2 rv2 _ p2 => ?_
      exact p2 r2 H2 _ (Ext.refl _ _) m2 (.cons (rv.mono x2) rv2)
    · cases es with
      | nil =>
        simp only [chkEs, List.isEmpty_iff] at g3
        subst g3
        exact ⟨⟨pe_one (pe_weak h1 fun σ H Q w => w), pw_and1 (pt_weak h2 fun σ H Q w => w)⟩, pe_one (pe_weak h1 fun σ H Q w => w), pw_or1 (pt_weak h2 fun σ H Q w => w)⟩
      | cons f fs =>
        cases l with
        | nil => cases g3
        | cons y l =>
          obtain ⟨⟨j1, j2⟩, j3, j4⟩ := i2 (fun z => nomatch z) pos
          refine ⟨⟨pe_weak (pe_and h1 j1) fun σ H Q w => ?_, pw_weak (pw_and h2 j2) fun σ H Q w => ?_⟩, pe_weak (pe_or h1 j3) fun σ H Q w => ?_, pw_weak (pw_or h2 j4) fun σ H Q w => ?_⟩
          · obtain ⟨r, hs, s, m, en, p⟩ := w
            simp only [evAnd] at p
            refine rd_bind m en p fun d r1 H1 hs1 v x1 m1 e1 rv _ p1 => ?_
            cases d <;> first | exact False.elim p1 | skip
            rename_i b _
            cases rv
            cases b with
            | true => exact ⟨true, rfl, r1, hs1, s, m1, e1, p1⟩
            | false => exact ⟨false, rfl, pd_ok p1 m1 (.bl false)⟩
          · obtain ⟨r, hs, s, m, en, p⟩ := w
            simp only [evAnd, bind_assoc, andD_bad] at p
            refine bl_then (rel := fun _ _ (a b : Bool) => a = b) (P := Q) (g := fun b h => if b then (evAnd (clOf L k) (.cons f fs) s h).bind truR else truR (.bl false) h) m en ?_ fun b r1 H1 hs1 x1 m1 e1 p1 => ?_
            · exact p
            · cases b with
              | true => exact ⟨r1, hs1, s, m1, e1, p1⟩
              | false => exact p1 r1 H1 _ (Ext.refl _ _) m1 rfl
          · obtain ⟨r, hs, s, m, en, p⟩ := w
            simp only [evOr] at p
            refine rd_bind m en p fun d r1 H1 hs1 v x1 m1 e1 rv _ p1 => ?_
            cases d <;> first | exact False.elim p1 | skip
            rename_i b _
            cases rv
            cases b with
            | true => exact ⟨true, rfl, pd_ok p1 m1 (.bl true)⟩
            | false => exact ⟨false, rfl, r1, hs1, s, m1, e1, p1⟩
          · obtain ⟨r, hs, s, m, en, p⟩ := w
            simp only [evOr, bind_assoc, orD_bad] at p
            refine bl_then (rel := fun _ _ (a b : Bool) => a = b) (P := Q) (g := fun b h => if b then truR (.bl true) h else (evOr (clOf L k) (.cons f fs) s h).bind truR) m en ?_ fun b r1 H1 hs1 x1 m1 e1 p1 => ?_
            · exact p
            · cases b with
              | true => exact p1 r1 H1 _ (Ext.refl _ _) m1 rfl
              | false => exact ⟨r1, hs1, s, m1, e1, p1⟩
/-! ### parts, tests, walks -/
theorem so_none : SO L k .none := by
  intro c X Y E h tk g
  simp only [chkO, Option.isNone_iff_eq_none] at g
  subst g
  refine po_weak po_none fun σ H Q w => ?_
  obtain ⟨r, hs, s, m, en, p⟩ := w
  simp only [evO] at p
  exact p r H _ (Ext.refl _ _) m rfl
theorem so_some {e : Ex} (he : SE L k e) : SO L k (.some e) := by
  intro c X Y E h tk g
  cases E with
  | none => cases g
  | some x =>
    refine po_weak (po_some (he c X Y x h tk g).1) fun σ H Q w => ?_
    obtain ⟨r, hs, s, m, en, p⟩ := w
    simp only [evO] at p
    refine rd_bind m en p fun d r1 H1 hs1 v x1 m1 e1 rv _ p1 => ?_
    cases d <;> first | exact False.elim p1 | skip
    cases rv
    exact ⟨_, rfl, p1 r1 H1 _ (Ext.refl _ _) m1 rfl⟩
theorem sc_none : SC L k .none := by
  intro c X Y l h tk g
  simp only [chkC, List.isEmpty_iff] at g
  subst g
  refine pts_weak pts_nil fun σ H Q w => ?_
  obtain ⟨r, hs, s, m, en, p⟩ := w
  simp only [evC] at p
  exact p r H _ (Ext.refl _ _) m rfl
theorem sc_some {e : Ex} (he : SE L k e) : SC L k (.some e) := by
  intro c X Y l h tk g
  simp only [chkC] at g
  split at g
  · rename_i x
    exact pts_weak (pts_one (he c X Y x h tk g).2) fun σ H Q w => w
  · cases g
theorem walkOf_some {X : Cx} {W : Wd} {Y : WX} {σ : L2.St} {r : List Addr} {H : Hp} {hs : Hs} {o : Option Walk} {Q : L2.It → Hp → Prop} (p : Post (WkR W) W Y σ r H (walkOf o hs) Q) : ∃ w, o = some w ∧ Post (WkR W) W Y σ r H (.ok w hs) Q := by
  cases o with
  | none => exact False.elim p
  | some w => exact ⟨w, rfl, p⟩
theorem si_sq {e : Ex} (he : SE L k e) : SI L k (.sq e) := by
  intro c X Y T E h tk g
  simp only [chkI] at g
  refine pi_weak (pi_sq (he c X Y E h tk g).1) fun σ H Q w => ?_
  obtain ⟨r, hs, s, m, en, p⟩ := w
  simp only [walk] at p
  refine rd_bind m en p fun d r1 H1 hs1 v x1 m1 e1 rv _ p1 => ?_
  obtain ⟨w, hw, p2⟩ := walkOf_some (X := X) p1
  cases d <;> first | (cases hw; done) | skip
  case tup ds =>
    cases rv with | tup t es =>
    cases hw
    exact ⟨_, rfl, .inr ⟨_, t.sq, p2 r1 H1 _ (Ext.refl _ _) m1 (wk_tup t es)⟩⟩
  case ref n =>
    cases rv with | ref ha =>
    obtain ⟨xs, _, h1, _⟩ := walk_ref hw
    obtain ⟨us, g1, g2⟩ := list_now m1 ha h1
    exact ⟨_, rfl, .inl ⟨us, g1, p2 r1 H1 _ (Ext.refl _ _) m1 (wk_list ha hw)⟩⟩
section
variable {W : Wd} {Y : WX} {σ : L2.St} {r : List Addr} {H : Hp} {hs : Hs} {Q : L2.It → Hp → Prop}
theorem rng1_some {d : D} (p : Post (WkR W) W Y σ r H (rng1 d hs) Q) : ∃ j, d = .int j ∧ small j ∧ Post (WkR W) W Y σ r H (.ok ⟨rangeL 0 j.toNat, fun _ => True⟩ hs) Q := by
  unfold rng1 at p
  split at p
  · rename_i j
    split at p
    · rename_i hj; exact ⟨j, rfl, hj, p⟩
    · exact False.elim p
  · exact False.elim p
theorem rng2_some {d e : D} (p : Post (WkR W) W Y σ r H (rng2 d e hs) Q) : ∃ i j, d = .int i ∧ e = .int j ∧ (small i ∧ small j) ∧ Post (WkR W) W Y σ r H (.ok ⟨rangeL i (j - i).toNat, fun _ => True⟩ hs) Q := by
  unfold rng2 at p
  split at p
  · rename_i i j
    split at p
    · rename_i hj; exact ⟨i, j, rfl, rfl, hj, p⟩
    · exact False.elim p
  · exact False.elim p
theorem rng3_some {d e f : D} (p : Post (WkR W) W Y σ r H (rng3 d e f hs) Q) : ∃ i j c, d = .int i ∧ e = .int j ∧ f = .int c ∧ (small i ∧ small j ∧ 0 < c ∧ c < 1000) ∧ Post (WkR W) W Y σ r H (.ok ⟨rangeC i c ((j - i + c - 1) / c).toNat, fun _ => True⟩ hs) Q := by
  unfold rng3 at p
  split at p
  · rename_i i j c
    split at p
    · rename_i hj; exact ⟨i, j, c, rfl, rfl, rfl, hj, p⟩
    · exact False.elim p
  · exact False.elim p
end
theorem si_r1 {a : Ex} (ha : SE L k a) : SI L k (.r1 a) := by
  intro c X Y T E h tk g
  simp only [chkI] at g
  split at g
  · rename_i x q hq
    obtain ⟨p, p2, rfl⟩ := asCall_of hq
    simp only [Bool.and_eq_true, beq_iff_eq] at g
    obtain ⟨⟨g1, g2⟩, g3, g4⟩ := g
    subst g2
    refine pi_weak (pi_range1 (glB_ok h g1).1 (h.blt "range" (by decide)) (pa_cons (ha c X Y q h tk g4).1 pa_nil (star_cons g3)) (star_cons g3)) fun σ H Q w => ?_
    obtain ⟨r, hs, s, m, en, p⟩ := w
    simp only [walk] at p
    refine rd_bind m en p fun d r1 H1 hs1 v x1 m1 e1 rv _ p1 => ?_
    obtain ⟨j, rfl, hj, p2⟩ := rng1_some p1
    cases rv
    exact ⟨j, rfl, hj.1, hj.2, p2 r1 H1 _ (Ext.refl _ _) m1 (wk_rng 0 _)⟩
  · cases g
theorem si_r2 {a b : Ex} (ha : SE L k a) (hb : SE L k b) : SI L k (.r2 a b) := by
  intro c X Y T E h tk g
  simp only [chkI] at g
  split at g
  · rename_i x q q2 hq
    obtain ⟨p, p2, rfl⟩ := asCall_of hq
    simp only [Bool.and_eq_true, beq_iff_eq] at g
    obtain ⟨⟨g1, g2⟩, ⟨g3, g4⟩, g5, g6⟩ := g
    subst g2
    have hs1 : starEach [q, q2] X.env = [(false, eval q X.env), (false, eval q2 X.env)] := by rw [star_cons g3, star_cons g4]; rfl
    refine pi_weak (pi_range2 (glB_ok h g1).1 (h.blt "range" (by decide)) (pa_cons (ha c X Y q h tk g5).1 (pa_cons (hb c X Y q2 h tk g6).1 pa_nil (star_cons g4)) (star_cons g3)) hs1 (star_cons g4)) fun σ H Q w => ?_
    obtain ⟨r, hs, s, m, en, p⟩ := w
    simp only [walk] at p
    refine rd_bind m en p fun d r1 H1 hs1 v x1 m1 e1 rv _ p1 => ?_
    refine rd_bind m1 e1 p1 fun d2 r2 H2 hs2 v2 x2 m2 e2 rv2 _ p2 => ?_
    obtain ⟨i, j, rfl, rfl, hj, p3⟩ := rng2_some p2
    cases rv; cases rv2
    exact ⟨i, j, rfl, ⟨hj.1.1, hj.1.2, hj.2.1, hj.2.2⟩, p3 r2 H2 _ (Ext.refl _ _) m2 (wk_rng i _)⟩
  · cases g
theorem rangeC_size {i j c : Int} (h : 0 < c) : Builtin.Range.rangeSize i j c = (((j - i + c - 1) / c).toNat : Int) := by
  unfold Builtin.Range.rangeSize
  rw [if_pos h]
  by_cases l : i < j
  · rw [if_pos l]
    have e : j - i + c - 1 = (j - i - 1) + 1 * c := by omega
    rw [e, Int.add_mul_ediv_right _ _ (by omega)]
    have := Int.ediv_nonneg (show 0 ≤ j - i - 1 by omega) (show 0 ≤ c by omega)
    omega
  · rw [if_neg l]
    by_cases z : j - i + c - 1 < 0
    · have := Int.ediv_neg_of_neg_of_pos z h
      omega
    · have := Int.ediv_eq_zero_of_lt (show 0 ≤ j - i + c - 1 by omega) (show j - i + c - 1 < c by omega)
      omega
theorem rgC_of {i j c : Int} (hi : small i) (hj : small j) (h : 0 < c) (h2 : c < 1000) : RgC i j c ((j - i + c - 1) / c).toNat := by
  refine ⟨by omega, by omega, ?_, rangeC_size h⟩
  obtain ⟨i0, i1⟩ := hi
  obtain ⟨j0, j1⟩ := hj
  unfold Builtin.Range.small
  rw [rangeC_size h]
  have b : ((j - i + c - 1) / c).toNat ≤ (j - i + c - 1).toNat := by
    by_cases z : j - i + c - 1 < 0
    · have := Int.ediv_neg_of_neg_of_pos z h
      omega
    · have := Int.ediv_le_self c (show 0 ≤ j - i + c - 1 by omega)
      omega
  have b2 : j - i ≤ 0 → ((j - i + c - 1) / c).toNat = 0 := fun q => by
    by_cases z : j - i + c - 1 < 0
    · have := Int.ediv_neg_of_neg_of_pos z h
      omega
    · have := Int.ediv_eq_zero_of_lt (show 0 ≤ j - i + c - 1 by omega) (show j - i + c - 1 < c by omega)
      omega
  have b3 : 0 < j - i → ((j - i + c - 1) / c) ≤ j - i := fun q => by
    apply Int.le_of_lt_add_one
    apply Int.ediv_lt_of_lt_mul h
    have : 0 ≤ (j - i) * (c - 1) := Int.mul_nonneg (by omega) (by omega)
    rw [Int.mul_sub, Int.mul_one] at this
    rw [Int.add_mul, Int.one_mul]
    omega
  generalize (j - i + c - 1) / c = q at *
  simp only [Builtin.Range.rangeFitsLong, Bool.and_eq_true, Bool.or_eq_true, decide_eq_true_eq, beq_iff_eq, gt_iff_lt, h, if_true]
  by_cases z : j - i ≤ 0
  · have := b2 z
    omega
  · have := b3 (by omega)
    omega
theorem si_r3 {a b d : Ex} (ha : SE L k a) (hb : SE L k b) (hd : SE L k d) : SI L k (.r3 a b d) := by
  intro c X Y T E h tk g
  simp only [chkI] at g
  split at g
  · rename_i x q q2 q3 hq
    obtain ⟨p, p2, rfl⟩ := asCall_of hq
    simp only [Bool.and_eq_true, beq_iff_eq] at g
    obtain ⟨⟨g1, g2⟩, ⟨g3, g4, g5⟩, g6, g7, g8⟩ := g
    subst g2
    refine pi_weak (pi_range3 (glB_ok h g1).1 (h.blt "range" (by decide)) (pa_cons (ha c X Y q h tk g6).1 (pa_cons (hb c X Y q2 h tk g7).1 (pa_cons (hd c X Y q3 h tk g8).1 pa_nil (star_cons g5)) (star_cons g4)) (star_cons g3)) (star_cons g3) (star_none (by simp [g4, g5]))) fun σ H Q w => ?_
    obtain ⟨r, hs, s, m, en, p⟩ := w
    simp only [walk] at p
    refine rd_bind m en p fun d r1 H1 hs1 v x1 m1 e1 rv _ p1 => ?_
    refine rd_bind m1 e1 p1 fun d2 r2 H2 hs2 v2 x2 m2 e2 rv2 _ p2 => ?_
    refine rd_bind m2 e2 p2 fun d3 r3 H3 hs3 v3 x3 m3 e3 rv3 _ p3 => ?_
    obtain ⟨i, j, f, rfl, rfl, rfl, hj, p4⟩ := rng3_some p3
    cases rv; cases rv2; cases rv3
    exact ⟨i, j, f, _, rfl, rgC_of hj.1 hj.2.1 hj.2.2.1 hj.2.2.2, p4 r3 H3 _ (Ext.refl _ _) m3 (wk_rngC i f _)⟩
  · cases g
end
end Q

/-! expressions: things made, methods called -/
namespace Q
open PySem PySem.Spec PyProof.Rows L2
theorem zipF_none : ∀ {fs : List String} {vs : List V} {m : String}, (∀ f ∈ fs, f ≠ m) → (zipF fs vs).lookup (fN m) = none
  | [], _, _, _ => by simp [zipF]
  | _ :: _, [], _, _ => by simp [zipF]
  | f :: fs, v :: vs, m, h => by
    unfold zipF
    rw [List.lookup_cons]
    have e : (fN m == fN f) = false := by
      rw [beq_eq_false_iff_ne]
      intro e
      exact h f List.mem_cons_self (fN_inj e).symm
    rw [e]
    exact zipF_none fun g hg => h g (List.mem_cons_of_mem _ hg)
theorem flds_known (c : Cn) : ∀ f ∈ c.flds, fldKnown f = true := by
  cases c <;> simp [Cn.flds, fldKnown]
theorem fN_ne {a b : String} (h : a ≠ b) : (fN a = fN b) = False := by
  simp only [eq_iff_iff, iff_false]
  exact fun e => h (fN_inj e)
theorem putAll_zip (c : Cn) (us : List V) (h : us.length = c.flds.length) : putAllF c.flds us [] = zipF c.flds us := by
  cases c <;> simp only [Cn.flds] at h ⊢ <;> (first
    | (have e : us = [] := List.eq_nil_of_length_eq_zero h
       subst e; rfl)
    | (obtain ⟨v, rfl⟩ := List.length_eq_one_iff.mp h
       rfl)
    | (obtain ⟨v, w, rfl⟩ : ∃ v w, us = [v, w] := by
         match us, h with
         | [v, w], _ => exact ⟨v, w, rfl⟩
       simp [putAllF, putF, zipF, fN_ne]))
section
variable {L : Wl} {k : Nat}
/-- a thing is made of its values -/
def tmMk (C : Addr) (flds : List String) (vs : List V) (H : Hp) (Q : VK) : Prop := vs.length = flds.length ∧ ∀ x dx, H x = none → H dx = none → dx ≠ x → Q (.ref x) (upd (upd H dx (.own x)) x (.ins C dx (zipF flds vs)))
theorem run_mk {X : Cx} {c : Ck} {d : Cn} {pins : List (Addr × Obj)} {σ : L2.St} {H : Hp} {s : Shared} {Q : VK} {us : List Value} {vs : List V} (h : XOk L k c X) (hr : Room (k + 2) X.A) (hi : IniOk X.K (L.C d) d) (hc : d.isExc = false) (hh : L.has d = true)
    (I : Inv X pins σ H s) (r : Vals vs us) (t : tmMk (L.C d) d.flds vs H Q) : wpAny (model X.prog X.w) X.A (PySem.call (.ref (L.C d)) us) (EP X pins σ Q) X.xe s := by
  obtain ⟨hl, q⟩ := t
  rcases hi with ⟨e, M⟩ | ⟨a, fd, nm, qual, st, N, M, F, hf⟩
  · rw [e] at hl q
    have ev : vs = [] := List.eq_nil_of_length_eq_zero hl
    subst ev
    cases r
    exact run_make0 M I q
  · obtain ⟨F1, B1⟩ := init_fn (P := X.prog) (w := X.w) (mg := X.mg) (base := X.base) F hf 0
    refine run_makeS (E := fun _ _ _ _ => False) M F1 (hr.mono (by omega)) B1 (fun pins H s e s' I z => passL pins σ H s e s' I z) I r fun x dx n1 n2 n3 => ?_
    refine ⟨x, L.C d, dx, vs, rfl, hl, upd_same, (h.cls.own d hh hc).1, fun f hf => h.noat d f hh (flds_known d f hf), rfl, ?_⟩
    rw [upd_upd, putAll_zip d vs hl]
    exact q x dx n1 n2 n3
theorem se_mk (d : Cn) {es : Exs} (ih : SEs L k es) : SE L k (.mk d es) := by
  intro c X Y E h tk g
  simp only [chkE] at g
  split at g
  · rename_i q hq
    obtain ⟨p, p2, rfl⟩ := asCall_of hq
    obtain ⟨x, l⟩ := q
    simp only [Bool.and_eq_true, beq_iff_eq, Bool.not_eq_true', decide_eq_true_eq] at g
    obtain ⟨⟨⟨g1, g2, g3⟩, g4, g5⟩, g6, g7⟩ := g
    obtain ⟨hc, hr⟩ := calm_hd h (by simpa using g1)
    obtain ⟨k1, k2⟩ := glB_ok h g2
    obtain ⟨m1, m2, m3⟩ := h.cns x d g3
    obtain ⟨_, i2, _⟩ := h.ini _ d g4
    have hmk : ∀ (pins : List (Addr × Obj)) (s : Shared) (σ : L2.St) (H : Hp) (us : List Value) (vs : List V) (Q : VK), Inv X pins σ H s → Vals vs us → tmMk (L.C d) d.flds vs H Q → wpAny (model X.prog X.w) X.A (PySem.call (.ref (L.C d)) us) (EP X pins σ Q) X.xe s :=
      fun pins s σ H us vs Q I r t => run_mk h hr (i2 g5) g5 m1 I r t
    have fin : ∀ {σ : L2.St} {Q : VK} {r1 : List Addr} {H1 : Hp} {hs1 : Hs} {ds : List D} {vs : List V}, Mt (wdo X L) r1 H1 hs1 → Rvs (wdo X L) r1 H1 ds vs → ds.length = d.flds.length → Post (Rv (wdo X L)) (wdo X L) Y σ r1 H1 (mkO d ds hs1) Q → tmMk (L.C d) d.flds vs H1 Q := by
      intro σ Q r1 H1 hs1 ds vs m rv hl p
      have p' : Post (Rv (wdo X L)) (wdo X L) Y σ r1 H1 (if ds.length = d.flds.length ∧ d.isExc = false then (.ok (.obj d ds) hs1 : R D) else .bad) Q ∨ d = .Desk := by
        cases d <;> first | (exact .inr rfl) | (cases g5; done) | (exact .inl p)
      rcases p' with p' | rfl
      · rw [if_pos ⟨hl, g5⟩] at p'
        refine ⟨by rw [rv.length]; exact hl, fun x dx n1 n2 n3 => ?_⟩
        have nx : (upd H1 dx (.own x)) x = none := by rw [upd_ne (Ne.symm n3)]; exact n1
        have m2 := m.new n2 (.own x)
        have m3 := m2.new nx (.ins (L.C d) dx (zipF d.flds vs))
        have x2 := (ext_new (r := r1) n2 (.own x)).trans (ext_new (r := r1) nx (.ins (L.C d) dx (zipF d.flds vs)))
        exact p' r1 _ (.ref x) x2 m3 (.obj m1 g5 upd_same (m.notNew n1) hl (rv.mono x2))
      · cases ds with
        | nil => simp [Cn.flds] at hl
        | cons _ _ => exact p.elim
    cases l with
    | nil =>
      cases es with
      | cons e0 es0 => simp only [chkEs] at g6; cases g6
      | nil =>
        have e : PE X (.Call (.Name x p) [] [] p2) (rdE (wdo X L) Y (evE (clOf L k) (.mk d .nil))) := pe_weak (pe_mk0 (tm := fun σ vs H Q => tmMk (L.C d) d.flds vs H Q) k1 m2 m3 k2 hmk) fun σ H Q w => by
          obtain ⟨r, hs, s, m, en, p⟩ := w
          simp only [evE, evs, R.bind_ok] at p
          exact fin m .nil (by simpa using g7) p
        exact ⟨e, pt_of rfl rfl e⟩
    | cons y l =>
      have hst := (chkEs_len g6).2
      rw [List.all_cons, Bool.and_eq_true] at hst
      have e : PE X (.Call (.Name x p) (y :: l) [] p2) (rdE (wdo X L) Y (evE (clOf L k) (.mk d es))) := pe_weak (pe_mk (tm := fun σ vs H Q => tmMk (L.C d) d.flds vs H Q) k1 m2 m3 (ih c X Y (y :: l) h tk g6).1 k2 hmk (star_cons hst.1) (star_none hst.2)) fun σ H Q w => by
        obtain ⟨r, hs, s, m, en, p⟩ := w
        simp only [evE] at p
        refine rd_bind m en p fun ds r1 H1 hs1 vs x1 m1 e1 rv q p1 => ?_
        exact fin m1 rv (by rw [evs_len q, (chkEs_len g6).1]; exact g7) p1
      exact ⟨e, pt_of rfl rfl e⟩
  · cases g
theorem mthD_some {α : Type} {C : Cl} {m : String} {d : D} {g : String → Hs → R α} {h : Hs} {W : Wd} {Y : WX} {σ : L2.St} {r : List Addr} {H : Hp} {β : Type} {rel : List Addr → Hp → α → β → Prop} {Q : β → Hp → Prop} (p : Post rel W Y σ r H (mthD C m d g h) Q) :
    ∃ c ds f, d = .obj c ds ∧ C.T.meth c m = some f ∧ Post rel W Y σ r H (g f h) Q := by
  unfold mthD at p
  split at p
  · rename_i c ds
    split at p
    · rename_i f hf; exact ⟨c, ds, f, rfl, hf, p⟩
    · exact p.elim
  · exact p.elim
theorem se_mth (m : String) {a : Ex} {es : Exs} (ha : SE L k a) (ih : SEs L k es) : SE L k (.mth a m es) := by
  intro c X Y E h tk g
  simp only [chkE] at g
  split at g
  · rename_i q hq
    obtain ⟨p, p2, rfl, hln⟩ := asMeth_of hq
    obtain ⟨x, nm, l⟩ := q
    simp only [Bool.and_eq_true, beq_iff_eq, Bool.not_eq_true'] at g
    obtain ⟨⟨⟨g1, g2⟩, g3, g4⟩, g5, g6, g7⟩ := g
    subst g2
    obtain ⟨hc, hr⟩ := calm_hd h (by simpa using g1)
    have hx := (ha c X Y x h tk g5).1
    have hl := (ih c X Y l h tk g6).1
    have hst := (chkEs_len g6).2
    have at_ : ∀ {σ : L2.St} {Q : VK} {r1 : List Addr} {H1 : Hp} {hs1 : Hs} {d : Cn} {ds : List D} {f : String} {v : V} {t : TA}, Rv (wdo X L) r1 H1 (.obj d ds) v → (clOf L k).T.meth d m = some f →
        (t σ H1 fun vs H2 => spF (wdo X L) L.T f k (v :: vs) H2 Q (WE Y σ)) → MthAt X (L2.CX X.prog X.w) (k + 2) (fN m) t (WE Y) σ Q v H1 := by
      intro σ Q r1 H1 hs1 d ds f v t rv hm ht
      obtain ⟨⟨h1, h2⟩, a, fd, ps, M, F, B⟩ := h.mts d m f hm
      cases rv with
      | obj pr xx hh n ll e =>
        have zn : ∀ g ∈ d.flds, g ≠ m := fun g hg z => by
          have w := flds_known d g hg
          rw [z, g4] at w
          exact Bool.noConfusion w
        exact ⟨_, _, _, a, _, fd, ps, _, rfl, hh, zipF_none zn, (h.cls.own d h1 h2).1, M, F, B, ht⟩
      | exc0 pr xx => rw [h2] at xx; cases xx
      | exc1 pr xx => rw [h2] at xx; cases xx
    have e : PE X (.Call (.Attribute x (fN m) p) l [] p2) (rdE (wdo X L) Y (evE (clOf L k) (.mth a m es))) := by
      cases l with
      | nil =>
        cases es with
        | cons e0 es0 => simp only [chkEs] at g6; cases g6
        | nil =>
          refine pe_weak (pe_mth0 hx hr (passAt tk) (meth_tree (plainB_ok g3) hln (few_ok hst g7))) fun σ H Q w => ?_
          obtain ⟨r, hs, s, mm, en, p⟩ := w
          simp only [evE] at p
          refine rd_bind mm en p fun d r1 H1 hs1 v x1 m1 e1 rv _ p1 => ?_
          obtain ⟨cc, ds, f, rfl, hf, p1⟩ := mthD_some p1
          simp only [evs, R.bind_ok] at p1
          exact at_ (hs1 := hs1) rv hf ⟨r1, hs1, _, m1, .cons rv .nil, post_E p1⟩
      | cons y l =>
        have hst2 := hst
        rw [List.all_cons, Bool.and_eq_true] at hst2
        refine pe_weak (pe_mth hx hr (passAt tk) hl (star_cons hst2.1) (star_none hst2.2) (meth_tree (plainB_ok g3) hln (few_ok hst g7))) fun σ H Q w => ?_
        obtain ⟨r, hs, s, mm, en, p⟩ := w
        simp only [evE] at p
        refine rd_bind mm en p fun d r1 H1 hs1 v x1 m1 e1 rv _ p1 => ?_
        obtain ⟨cc, ds, f, rfl, hf, p1⟩ := mthD_some p1
        refine at_ (hs1 := hs1) rv hf ?_
        refine rd_bind m1 e1 p1 fun es2 r2 H2 hs2 vs x2 m2 e2 rvs _ p2 => ?_
        exact ⟨r2, hs2, _, m2, .cons (rv.mono x2) rvs, post_E p2⟩
    exact ⟨e, pt_of rfl rfl e⟩
  · cases g
/-! ### is True, is False -/
theorem bl_same {x : V} {v : Value} (r : L2.RelV x v) (b : Bool) : (v == Value.bool b) = decide (x = .bl b) := by
  cases x with
  | non => cases r; rfl
  | bl c => cases r; cases b <;> cases c <;> rfl
  | int _ => obtain ⟨t, rfl⟩ := r; rfl
  | str _ => obtain ⟨t, rfl⟩ := r; rfl
  | byt _ => obtain ⟨t, rfl⟩ := r; rfl
  | flt _ => obtain ⟨t, rfl⟩ := r; rfl
  | ref _ => cases r; rfl
  | ty _ => cases r; rfl
theorem is_bool {M : Model} {A : Around} {E : Value → Shared → Prop} {s : Shared} {Q : Value → Shared → Prop} {x : V} {v : Value} (r : L2.RelV x v) (b : Bool) (h : Q (.bool (v == .bool b)) s) : wpAny M A (compareOp .Is v (.bool b)) Q E s := by
  cases x with
  | non => cases r; exact wpAny_pure h
  | bl c => cases r; exact wpAny_pure h
  | int _ => obtain ⟨t, rfl⟩ := r; exact wpAny_pure h
  | str _ => obtain ⟨t, rfl⟩ := r; exact wpAny_pure h
  | byt _ => obtain ⟨t, rfl⟩ := r; exact wpAny_pure h
  | flt _ => obtain ⟨t, rfl⟩ := r; exact wpAny_pure h
  | ref _ => cases r; exact wpAny_pure h
  | ty _ => cases r; exact wpAny_pure h
theorem isnot_bool {M : Model} {A : Around} {E : Value → Shared → Prop} {s : Shared} {Q : Value → Shared → Prop} {x : V} {v : Value} (r : L2.RelV x v) (b : Bool) (h : Q (.bool (!(v == .bool b))) s) : wpAny M A (compareOp .IsNot v (.bool b)) Q E s := by
  cases x with
  | non => cases r; exact wpAny_pure h
  | bl c => cases r; exact wpAny_pure h
  | int _ => obtain ⟨t, rfl⟩ := r; exact wpAny_pure h
  | str _ => obtain ⟨t, rfl⟩ := r; exact wpAny_pure h
  | byt _ => obtain ⟨t, rfl⟩ := r; exact wpAny_pure h
  | flt _ => obtain ⟨t, rfl⟩ := r; exact wpAny_pure h
  | ref _ => cases r; exact wpAny_pure h
  | ty _ => cases r; exact wpAny_pure h
theorem pc_isB {X : Cx} {a : Expr} {ta : TE} {b : Bool} {j pos'} (ha : PE X a ta) : PC X .Is a (.Constant (.bool b) j pos') (fun σ H Q => ta σ H fun x H1 => Q (.bl (decide (x = .bl b))) H1) := by
  refine ⟨fun pins s σ H Q I h => ?_⟩
  refine thn (ha.run pins s σ H _ I h) fun v s1 ⟨x, H1, I1, r1, q1⟩ => ?_
  exact Constant_bool (is_bool r1 b ⟨.bl _, H1, I1, by rw [bl_same r1]; rfl, q1⟩)
theorem pc_notB {X : Cx} {a : Expr} {ta : TE} {b : Bool} {j pos'} (ha : PE X a ta) : PC X .IsNot a (.Constant (.bool b) j pos') (fun σ H Q => ta σ H fun x H1 => Q (.bl (!decide (x = .bl b))) H1) := by
  refine ⟨fun pins s σ H Q I h => ?_⟩
  refine thn (ha.run pins s σ H _ I h) fun v s1 ⟨x, H1, I1, r1, q1⟩ => ?_
  exact Constant_bool (isnot_bool r1 b ⟨.bl _, H1, I1, by rw [bl_same r1]; rfl, q1⟩)
theorem bl_iff {W : Wd} {r : List Addr} {H : Hp} {d : D} {v : V} (b : Bool) (x : Rv W r H d v) : decide (v = .bl b) = isBl b d := by
  cases x <;> first | rfl | (rename_i c; cases b <;> cases c <;> rfl)
theorem se_ist (b n : Bool) {a : Ex} (ha : SE L k a) : SE L k (.ist a b n) := by
  intro c X Y E h tk g
  simp only [chkE] at g
  split at g
  · rename_i q hq
    obtain ⟨p, rfl⟩ := asCmp1_of hq
    obtain ⟨oq, x, y⟩ := q
    simp only [Bool.and_eq_true, decide_eq_true_eq] at g
    obtain ⟨g1, g2, g3⟩ := g
    obtain ⟨j, p2, rfl⟩ := asConst_of g2
    subst g1
    have hx := (ha c X Y x h tk g3).1
    have w1 : ∀ (z : Bool) σ H Q, rdE (wdo X L) Y (evE (clOf L k) (.ist a b z)) σ H Q → rdE (wdo X L) Y (evE (clOf L k) a) σ H fun x H1 => Q (.bl (decide (x = .bl b) != z)) H1 := by
      intro z σ H Q w
      obtain ⟨r, hs, s, m, en, p⟩ := w
      simp only [evE] at p
      refine rd_bind m en p fun d r1 H1 hs1 v x1 m1 e1 rv _ p1 => ?_
      rw [bl_iff b rv]
      exact pd_ok p1 m1 (.bl _)
    have w2 : ∀ (z : Bool) σ H (Q : Bool → Hp → Prop), rdT (wdo X L) Y (evT (clOf L k) (.ist a b z)) σ H Q → rdE (wdo X L) Y (evE (clOf L k) a) σ H fun x H1 => Q (decide (x = .bl b) != z) H1 := by
      intro z σ H Q w
      obtain ⟨r, hs, s, m, en, p⟩ := w
      simp only [evT, evE, bind_assoc] at p
      refine rd_bind m en p fun d r1 H1 hs1 v x1 m1 e1 rv _ p1 => ?_
      rw [bl_iff b rv]
      exact p1 r1 H1 _ (Ext.refl _ _) m1 rfl
    cases n with
    | false =>
      refine ⟨pe_weak (pe_cmp (pc_isB hx)) fun σ H Q w => ?_, pt_weak (pt_cmp (pc_isB hx)) fun σ H Q w => ?_⟩
      · have := w1 false σ H Q w
        simpa using this
      · have := w2 false σ H Q w
        obtain ⟨r, hs, s, m, en, p⟩ := this
        refine ⟨r, hs, s, m, en, p.mono (Ext.refl _ _) fun v H z => ⟨_, rfl, by simpa using z⟩⟩
    | true =>
      refine ⟨pe_weak (pe_cmp (pc_notB hx)) fun σ H Q w => ?_, pt_weak (pt_cmp (pc_notB hx)) fun σ H Q w => ?_⟩
      · have := w1 true σ H Q w
        obtain ⟨r, hs, s, m, en, p⟩ := this
        refine ⟨r, hs, s, m, en, p.mono (Ext.refl _ _) fun v H z => by simpa using z⟩
      · have := w2 true σ H Q w
        obtain ⟨r, hs, s, m, en, p⟩ := this
        refine ⟨r, hs, s, m, en, p.mono (Ext.refl _ _) fun v H z => ⟨_, rfl, by simpa using z⟩⟩
  · cases g
end
end Q

/-! expressions: the theorem -/
namespace Q
open PySem PySem.Spec PyProof.Rows L2

section
variable {L : Wl} {k : Nat}
theorem si_enum {e : Ex} (he : SE L k e) : SI L k (.enum e) := by
  intro c X Y T E h tk g
  simp only [chkI] at g
  split at g
  · rename_i l x q hl hq
    obtain ⟨j, p0, rfl⟩ := asTup_of hl
    obtain ⟨p, p2, rfl⟩ := asCall_of hq
    simp only [Bool.and_eq_true, beq_iff_eq] at g
    obtain ⟨⟨g1, g2⟩, g3, g4⟩ := g
    subst g2
    refine pi_weak (pi_enumU (glB_ok h g1).1 (h.blt "enumerate" (by decide)) (pa_cons (he c X Y q h tk g4).1 pa_nil (star_cons g3)) (star_cons g3)) fun σ H Q w => ?_
    obtain ⟨r, hs, s, m, en, p⟩ := w
    simp only [walk] at p
    refine rd_bind m en p fun d r1 H1 hs1 v x1 m1 e1 rv _ p1 => ?_
    obtain ⟨w, hw, p3⟩ := walkOf_some (X := X) p1
    unfold enumOf at hw
    split at hw
    · rename_i n
      cases rv with | ref ha =>
      obtain ⟨w', hw', rfl⟩ := Option.map_eq_some_iff.mp hw
      obtain ⟨xs, _, h1, _⟩ := walk_ref hw'
      obtain ⟨us, f1, f2⟩ := list_now m1 ha h1
      exact .inl ⟨_, us, rfl, f1, p3 r1 H1 _ (Ext.refl _ _) m1 (wk_enum ha hw')⟩
    · cases rv with | tup t e =>
      cases hw
      exact .inr ⟨_, _, rfl, t.sq, p3 r1 H1 _ (Ext.refl _ _) m1 (wk_enumT t e)⟩
    · cases hw
  · cases g
theorem si_zip {a b : Ex} (ha : SE L k a) (hb : SE L k b) : SI L k (.zip a b) := by
  intro c X Y T E h tk g
  simp only [chkI] at g
  split at g
  · rename_i l x q q2 hl hq
    obtain ⟨j, p0, rfl⟩ := asTup_of hl
    obtain ⟨p, p2, rfl⟩ := asCall_of hq
    simp only [Bool.and_eq_true, beq_iff_eq] at g
    obtain ⟨⟨g1, g2⟩, ⟨g3, g4⟩, g5, g6⟩ := g
    subst g2
    refine pi_weak (RZ.pi_zipA (glB_ok h g1).1 (h.blt "zip" (by decide)) (pa_cons (ha c X Y q h tk g5).1 (pa_cons (hb c X Y q2 h tk g6).1 pa_nil (star_cons g4)) (star_cons g3)) (star_cons g3) (star_none (by simp [g4]))) fun σ H Q w => ?_
    obtain ⟨r, hs, s, m, en, p⟩ := w
    simp only [walk] at p
    refine rd_bind m en p fun d r1 H1 hs1 v x1 m1 e1 rv _ p1 => ?_
    refine rd_bind m1 e1 p1 fun d2 r2 H2 hs2 v2 x2 m2 e2 rv2 _ p3 => ?_
    obtain ⟨w, hw, p4⟩ := walkOf_some (X := X) p3
    unfold zipOf at hw
    split at hw
    · rename_i n n2
      cases rv with | ref ha =>
      cases rv2 with | ref ha2 =>
      split at hw
      · rename_i w1 w2 hw1 hw2
        cases hw
        obtain ⟨xs, _, h1, _⟩ := walk_ref hw1
        obtain ⟨us, f1, f2⟩ := list_now m2 (x2.at ha) h1
        obtain ⟨xs2, _, h12, _⟩ := walk_ref hw2
        obtain ⟨us2, f12, f22⟩ := list_now m2 ha2 h12
        exact ⟨_, _, us, us2, rfl, .inl ⟨f1, f12, p4 r2 H2 _ (Ext.refl _ _) m2 (wk_zip (x2.at ha) hw1 ha2 hw2)⟩⟩
      · cases hw
    · cases rv with | tup t es =>
      cases rv2 with | tup t2 es2 =>
      cases hw
      have t1 := t.mono x2
      exact ⟨_, _, _, _, rfl, .inr ⟨t1.sq, t2.sq, p4 r2 H2 _ (Ext.refl _ _) m2 (wk_zipT t1 (es.mono x2) t2 es2)⟩⟩
    · cases hw
  · cases g
theorem se_no {e : Ex} (h : ∀ c E, chkE c e E = false) : SE L k e := fun c X Y E _ _ g => by rw [h] at g; cases g
theorem si_no {e : It} (h : ∀ c T E, chkI c e T E = false) : SI L k e := fun c X Y T E _ _ g => by rw [h] at g; cases g
mutual
theorem sE : ∀ e : Ex, SE L k e
  | .v i => se_v i
  | .k d => se_k d
  | .g y => se_g y
  | .tup es => se_tup (sEs es)
  | .lst es => se_lst (sEs es)
  | .dic t es => se_dic t es
  | .bin o a b => se_bin o (sE a) (sE b)
  | .neg a => se_neg (sE a)
  | .cmp o a b => se_cmp o (sE a) (sE b)
  | .chn o p a b d => se_chn o p (sE a) (sE b) (sE d)
  | .isn a n => se_isn n (sE a)
  | .ist a b n => se_ist b n (sE a)
  | .not a => se_not (sE a)
  | .and es => se_and (sEs es)
  | .or es => se_or (sEs es)
  | .orv a b => se_orv (sE a) (sE b)
  | .ite q a b => se_ite (sE q) (sE a) (sE b)
  | .sub a i => se_sub (sE a) (sE i)
  | .slc a lo hi => se_slc (sE a) (sO lo) (sO hi)
  | .fld a f => se_fld f (sE a)
  | .call f es => se_call f (sEs es)
  | .mk d es => se_mk d (sEs es)
  | .mth a m es => se_mth m (sE a) (sEs es)
  | .b f es => se_b f (sEs es)
  | .bm f a es => se_bm f (sE a) (sEs es)
  | .isi a ts => se_isi ts (sE a)
  | .gget _ _ => se_no fun _ _ => by simp only [chkE]
  | .gin _ _ _ => se_no fun _ _ => by simp only [chkE]
  | .comp e tg it q own => se_comp (sE e) (sI it) (sC q)
  | .jst _ => se_no fun _ _ => by simp only [chkE]
theorem sEs : ∀ es : Exs, SEs L k es
  | .nil => ses_nil
  | .cons e es => ses_cons (sE e) (sEs es)
theorem sO : ∀ o : Eo, SO L k o
  | .none => so_none
  | .some e => so_some (sE e)
theorem sC : ∀ o : Eo, SC L k o
  | .none => sc_none
  | .some e => sc_some (sE e)
theorem sI : ∀ it : It, SI L k it
  | .sq e => si_sq (sE e)
  | .r1 a => si_r1 (sE a)
  | .r2 a b => si_r2 (sE a) (sE b)
  | .r3 a b c => si_r3 (sE a) (sE b) (sE c)
  | .enum e => si_enum (sE e)
  | .zip a b => si_zip (sE a) (sE b)
  | .items _ => si_no fun _ _ _ => by simp only [chkI]
end
end
end Q

/-! statements -/
namespace Q
open PySem PySem.Spec PyProof.Rows L2

/-- what is wanted behind my statement's end -/
def PostS (D : Ends) (W : Wd) (Y : WX) (r : List Addr) (H : Hp) (res : SR) : Prop := match res with
  | .nx s h => ∀ r' H' σ, Ext r H r' H' → Mt W r' H' h → EnvR W r' H' s σ → D.nx σ H'
  | .bk s h => ∀ r' H' σ, Ext r H r' H' → Mt W r' H' h → EnvR W r' H' s σ → D.bk σ H'
  | .ct s h => ∀ r' H' σ, Ext r H r' H' → Mt W r' H' h → EnvR W r' H' s σ → D.ct σ H'
  | .rt d h => ∀ r' H' v, Ext r H r' H' → Mt W r' H' h → Rv W r' H' d v → D.rt v H'
  | .exc c fs s h => ∀ r' H' σ cls dx, Ext r H r' H' → Mt W r' H' h → EnvR W r' H' s σ → ExR W r' H' c fs cls dx → Y cls dx σ H'
  | .bad => False
def rdS (W : Wd) (Y : WX) (f : Ev → Hs → SR) : TS := fun D σ H => ∃ r hs s, Mt W r H hs ∧ EnvR W r H s σ ∧ PostS D W Y r H (f s hs)
theorem PostS.mono {D : Ends} {W : Wd} {Y : WX} {r r' : List Addr} {H H' : Hp} {res : SR} (p : PostS D W Y r H res) (x : Ext r H r' H') : PostS D W Y r' H' res := by
  cases res with
  | nx s h => exact fun r2 H2 σ x2 => p r2 H2 σ (x.trans x2)
  | bk s h => exact fun r2 H2 σ x2 => p r2 H2 σ (x.trans x2)
  | ct s h => exact fun r2 H2 σ x2 => p r2 H2 σ (x.trans x2)
  | rt d h => exact fun r2 H2 v x2 => p r2 H2 v (x.trans x2)
  | exc c fs s h => exact fun r2 H2 σ cls dx x2 => p r2 H2 σ cls dx (x.trans x2)
  | bad => exact p
theorem ps_weak {X : Cx} {S : Stmt} {t t' : TS} (h : PS X S t) (w : ∀ D σ H, t' D σ H → t D σ H) : PS X S t' := ⟨fun pins s σ H D I q => h.run pins s σ H D I (w D σ H q)⟩
theorem pss_weak {X : Cx} {S : List Stmt} {t t' : TS} (h : PSs X S t) (w : ∀ D σ H, t' D σ H → t D σ H) : PSs X S t' := ⟨fun pins s σ H D I q => h.run pins s σ H D I (w D σ H q)⟩

/-- a def's frame -/
structure FOk (X : Cx) : Prop where
  st : X.stack = X.env :: X.outer
  fr : X.env.frame = some X.env.locals
  ex : X.ex = []
  pass : PassesOwn (model X.prog X.w) X.A X.env X.xe
def SS (L : Wl) (k : Nat) (s : Sm) : Prop := ∀ (c : Ck) (X : Cx) (Y : WX) (S : Stmt), XOk L k c X → (c.hot = false → FOk X) → Takes X Y → chkS c s S = true → PS X S (rdS (wdo X L) Y (exS (clOf L k) s))
def SB (L : Wl) (k : Nat) (s : Bl) : Prop := ∀ (c : Ck) (X : Cx) (Y : WX) (S : List Stmt), XOk L k c X → (c.hot = false → FOk X) → Takes X Y → chkB c s S = true → PSs X S (rdS (wdo X L) Y (exB (clOf L k) s))
def SH (L : Wl) (k : Nat) (hs : Hds) : Prop := ∀ (c : Ck) (X : Cx) (Y : WX) (S : List ExceptHandler), XOk L k c X → c.hot = false → FOk X → Takes X Y → chkH c hs S = true → ∃ l, ClOk X S l ∧
  ∀ D d fs s h r H, PostS D (wdo X L) Y r H (exH (clOf L k) hs d fs s h) → ∀ r' H' σ' cls dx, Ext r H r' H' → Mt (wdo X L) r' H' h → EnvR (wdo X L) r' H' s σ' → ExR (wdo X L) r' H' d fs cls dx → wCl X.K Y D l cls dx σ' H'

section
variable {X : Cx} {W : Wd} {Y : WX} {σ : L2.St} {r : List Addr} {H : Hp} {hs : Hs} {s : Ev} {D : Ends}
/-- an expression within a statement -/
theorem st_bind {α β : Type} {rel : List Addr → Hp → α → β → Prop} {f : Ev → Hs → R α} {g : α → Hs → SR} {K : β → Hp → Prop} (m : Mt W r H hs) (e : EnvR W r H s σ) (p : PostS D W Y r H ((f s hs).st s g))
    (k : ∀ d r1 H1 hs1 v, Ext r H r1 H1 → Mt W r1 H1 hs1 → EnvR W r1 H1 s σ → rel r1 H1 d v → f s hs = .ok d hs1 → PostS D W Y r1 H1 (g d hs1) → K v H1) : rd rel W Y f σ H K := by
  refine ⟨r, hs, s, m, e, ?_⟩
  cases q : f s hs with
  | ok d hs1 =>
    rw [q] at p
    exact fun r' H' v x m' rv => k d r' H' hs1 v x m' (e.mono x) rv q (PostS.mono p x)
  | exc c fs hs1 =>
    rw [q] at p
    exact fun r' H' cls dx x m' ex => p r' H' σ cls dx x m' (e.mono x) ex
  | bad =>
    rw [q] at p
    exact p
end

section
variable {L : Wl} {k : Nat}
theorem ss_pass : SS L k .pass := by
  intro c X Y S h hf tk g
  cases S <;> first | (cases g; done) | skip
  refine ps_weak ps_pass fun D σ H w => ?_
  obtain ⟨r, hs, s, m, en, p⟩ := w
  simp only [exS] at p
  exact p r H σ (Ext.refl _ _) m en
theorem ss_brk : SS L k .brk := by
  intro c X Y S h hf tk g
  cases S <;> first | (cases g; done) | skip
  refine ps_weak ps_break fun D σ H w => ?_
  obtain ⟨r, hs, s, m, en, p⟩ := w
  simp only [exS] at p
  exact p r H σ (Ext.refl _ _) m en
theorem ss_cnt : SS L k .cnt := by
  intro c X Y S h hf tk g
  cases S <;> first | (cases g; done) | skip
  refine ps_weak ps_continue fun D σ H w => ?_
  obtain ⟨r, hs, s, m, en, p⟩ := w
  simp only [exS] at p
  exact p r H σ (Ext.refl _ _) m en
theorem ss_set (i : Nat) (e : Ex) : SS L k (.set i e) := by
  intro c X Y S h hf tk g
  simp only [chkS] at g
  split at g
  · rename_i q hq
    obtain ⟨p, rfl⟩ := asAsg_of hq
    obtain ⟨t, v⟩ := q
    simp only at g
    split at g
    · rename_i x hx
      obtain ⟨p2, rfl⟩ := asName_of hx
      simp only [Bool.and_eq_true, Bool.or_eq_true, Bool.not_eq_true'] at g
      obtain ⟨⟨g1, g2⟩, g3, g4⟩ := g
      obtain ⟨l1, l2⟩ := locB_ok h g2
      have done_ : ∀ D σ H, rdS (wdo X L) Y (exS (clOf L k) (.set i e)) D σ H → tAsg (rdE (wdo X L) Y (evE (clOf L k) e)) (gName i) D σ H := by
        intro D σ H w
        obtain ⟨r, hs, s, m, en, p⟩ := w
        simp only [exS] at p
        refine st_bind m en p fun d r1 H1 hs1 v x m1 e1 rv _ p1 => ?_
        exact p1 r1 H1 _ (Ext.refl _ _) m1 (e1.set rv i)
      cases hl : isLc v with
      | false =>
        exact ps_weak (ps_set h.nd (atB_ok h g1) l1 (sE e c X Y v h tk g3).1 (swaps_no hl) l2) done_
      | true =>
        rw [hl] at g4
        rcases g4 with g4 | g4
        · cases g4
        · cases e <;> first | (cases g4; done) | skip
          rename_i e' tg it q own
          have g5 := g3
          simp only [chkE] at g3
          split at g3
          · rename_i rr hr
            obtain ⟨p3, rfl⟩ := asLc_of hr
            obtain ⟨elt, T, iter, ifs, sc⟩ := rr
            have sw : swapsWith (.ListComp elt [⟨T, iter, ifs, 0⟩] sc p3) (some (.Name x p2)) p.line X.env = pure (X.env.blockKind == .function && X.env.kindOf x == some .local && p2.line == p3.line && !(sc.names.any fun (n, k) => n == x && (k == .local || k == .cell))) := rfl
            cases hb : (X.env.blockKind == .function && X.env.kindOf x == some .local && p2.line == p3.line && !(sc.names.any fun (n, k) => n == x && (k == .local || k == .cell))) with
            | false =>
              rw [hb] at sw
              exact ps_weak (ps_set h.nd (atB_ok h g1) l1 (sE _ c X Y _ h tk g5).1 sw l2) done_
            | true =>
              rw [hb] at sw
              have hxl : X.env.scope.names.lookup x = some .local := by
                simp only [Bool.and_eq_true] at hb
                exact beq_iff_eq.mp hb.1.1.2
              obtain ⟨⟨hc, ht⟩, h1, h2, h3, h4, h5, h6⟩ := pe_comp (sE e') (sI it) (sC q) h tk g3
              have e0 := ps_setLc (spos := p) hc h.nd (atB_ok h g1) hxl sw h1 h2 h3 h4 h5 h6
              rw [own_snd] at e0
              refine ps_weak e0 fun D σ H w => ?_
              have w2 := done_ D σ H w
              exact comp_ok ht w2
          · cases g3
    · cases g
  · cases g
theorem setAll_zip : ∀ (s : Ev) (is : List Nat) (ds : List D), setAll s is ds = (is.zip ds).foldl (fun s p => s.set p.1 (some p.2)) s
  | s, [], _ => by simp [setAll]
  | s, _ :: _, [] => by simp [setAll]
  | s, i :: is, d :: ds => by simp only [setAll, List.zip_cons_cons, List.foldl_cons, setAll_zip]
theorem pg_or {X : Cx} {T : Expr} {a b : TG} (h : PG X T a) (h2 : PG X T b) : PG X T (fun v σ H Q => a v σ H Q ∨ b v σ H Q) := ⟨fun pins s σ H v u Q I r w => by
  rcases w with w | w
  · exact h.run pins s σ H v u Q I r w
  · exact h2.run pins s σ H v u Q I r w⟩
theorem ss_setT (is : List Nat) (e : Ex) : SS L k (.setT is e) := by
  intro c X Y S h hf tk g
  simp only [chkS] at g
  split at g
  · rename_i q hq
    obtain ⟨p, rfl⟩ := asAsg_of hq
    obtain ⟨t, v⟩ := q
    simp only at g
    split at g
    · rename_i l hl
      obtain ⟨j, p2, rfl⟩ := asTup_of hl
      simp only [Bool.and_eq_true] at g
      obtain ⟨⟨g1, g2⟩, g3, g4⟩ := g
      obtain ⟨hc, _⟩ := calm_hd h g1
      obtain ⟨r1, r2, r3⟩ := namesB_ok h g2
      have hw : swappedStores [.Tuple l j p2] v X.env = pure none := by cases v <;> first | (cases g4; done) | rfl
      have hs : swapsWithSole [.Tuple l j p2] v p.line X.env = pure false := by cases v <;> rfl
      refine ps_weak (ps_asg (sE e c X Y v h tk g3).1 (pg_or (pg_tup (k := j) (pos := p2) hc r1 r2 r3) (pg_lst (k := j) (pos := p2) hc r1 r2 r3)) hs hw) fun D σ H w => ?_
      obtain ⟨r, hs, s, m, en, p⟩ := w
      simp only [exS] at p
      refine st_bind m en p fun d r1 H1 hs1 v x m1 e1 rv _ p1 => ?_
      unfold setTR unp at p1
      split at p1
      · rename_i ds hds
        split at hds
        · rename_i ds' hi
          split at hds
          · rename_i hlen
            cases hds
            obtain ⟨a, us, rfl, hq, es⟩ := items_at m1 rv hi
            have fin : tgG.gNames is us σ H1 D.nx := gNames_ok (P := fun _ => True) hlen.symm es e1 trivial (fun _ _ _ _ _ => trivial) fun σ' e2 _ => p1 r1 H1 σ' (Ext.refl _ _) m1 (by rw [setAll_zip]; exact e2)
            rcases hq with hq | hq
            · exact .inr ⟨a, us, rfl, hq, by rw [es.length, hlen], fin⟩
            · exact .inl ⟨a, us, rfl, hq, by rw [es.length, hlen], fin⟩
          · cases hds
        · cases hds
      · exact False.elim p1
    · cases g
  · cases g
theorem ss_setI (o i e : Ex) : SS L k (.setI o i e) := by
  intro c X Y S h hf tk g
  simp only [chkS] at g
  split at g
  · rename_i q hq
    obtain ⟨p, rfl⟩ := asAsg_of hq
    obtain ⟨t, v⟩ := q
    simp only at g
    split at g
    · rename_i q2 hq2
      obtain ⟨p2, rfl⟩ := asSub_of hq2
      obtain ⟨to, ti⟩ := q2
      simp only [Bool.and_eq_true] at g
      obtain ⟨g1, g2, g3, g4⟩ := g
      have hu : X.A.units + 1 < cLine := by have := h.un; omega
      have hw : swappedStores [.Subscript to ti p2] v X.env = pure none := by cases v <;> rfl
      have hs : swapsWithSole [.Subscript to ti p2] v p.line X.env = pure false := by cases v <;> rfl
      refine ps_weak (ps_asg (sE e c X Y v h tk g4).1 (pg_sub (pos := p2) (sE o c X Y to h tk g2).1 (sE i c X Y ti h tk g3).1 (set_U hu) (by
        intro v
        cases ti <;> first | (cases g1; done) | rfl)) hs hw) fun D σ H w => ?_
      obtain ⟨r, hs, s, m, en, p⟩ := w
      simp only [exS] at p
      refine st_bind m en p fun d r1 H1 hs1 v x m1 e1 rv _ p1 => ?_
      refine st_bind m1 e1 p1 fun d2 r2 H2 hs2 v2 x2 m2 e2 rv2 _ p2 => ?_
      refine st_bind m2 e2 p2 fun d3 r3 H3 hs3 v3 x3 m3 e3 rv3 _ p3 => ?_
      unfold setIR at p3
      split at p3
      · rename_i hs4 h4
        exact q_set m3 (rv2.mono x3) rv3 (rv.mono (x2.trans x3)) h4 fun H' x4 m4 => p3 r3 H' σ x4 m4 (e3.mono x4)
      · exact False.elim p3
    · cases g
  · cases g
theorem ss_ex (e : Ex) : SS L k (.ex e) := by
  intro c X Y S h hf tk g
  simp only [chkS] at g
  split at g
  · rename_i x hx
    obtain ⟨p, rfl⟩ := asExpr_of hx
    simp only [Bool.and_eq_true, Bool.not_eq_true'] at g
    refine ps_weak (ps_expr (sE e c X Y x h tk g.2).1 (swaps_no g.1)) fun D σ H w => ?_
    obtain ⟨r, hs, s, m, en, p⟩ := w
    simp only [exS] at p
    refine st_bind m en p fun d r1 H1 hs1 v x m1 e1 rv _ p1 => ?_
    exact p1 r1 H1 σ (Ext.refl _ _) m1 e1
  · cases g
theorem ss_ret (e : Ex) : SS L k (.ret e) := by
  intro c X Y S h hf tk g
  simp only [chkS] at g
  split at g
  · rename_i x hx
    obtain ⟨p, rfl⟩ := asRet_of hx
    refine ps_weak (ps_ret (sE e c X Y x h tk g).1) fun D σ H w => ?_
    obtain ⟨r, hs, s, m, en, p⟩ := w
    simp only [exS] at p
    refine st_bind m en p fun d r1 H1 hs1 v x m1 e1 rv _ p1 => ?_
    exact p1 r1 H1 v (Ext.refl _ _) m1 rv
  · cases g
theorem ss_retN : SS L k .retN := by
  intro c X Y S h hf tk g
  simp only [chkS] at g
  split at g
  · rename_i hx
    obtain ⟨p, rfl⟩ := asRet_of hx
    refine ps_weak ps_retN fun D σ H w => ?_
    obtain ⟨r, hs, s, m, en, p⟩ := w
    simp only [exS] at p
    exact p r H _ (Ext.refl _ _) m .non
  · cases g
theorem ss_ite (q : Ex) {a b : Bl} (ha : SB L k a) (hb : SB L k b) : SS L k (.ite q a b) := by
  intro c X Y S h hf tk g
  simp only [chkS] at g
  split at g
  · rename_i x hx
    obtain ⟨p, rfl⟩ := asIfS_of hx
    simp only [Bool.and_eq_true] at g
    obtain ⟨g1, g2, g3⟩ := g
    refine ps_weak (ps_if (sE q c X Y _ h tk g1).2 (ha c X Y _ h hf tk g2) (hb c X Y _ h hf tk g3)) fun D σ H w => ?_
    obtain ⟨r, hs, s, m, en, p⟩ := w
    simp only [exS] at p
    refine st_bind m en p fun t r1 H1 hs1 t' x m1 e1 rv _ p1 => ?_
    subst rv
    cases t with
    | true => exact ⟨r1, hs1, s, m1, e1, p1⟩
    | false => exact ⟨r1, hs1, s, m1, e1, p1⟩
  · cases g
theorem sb_nil : SB L k .nil := by
  intro c X Y S h hf tk g
  simp only [chkB, List.isEmpty_iff] at g
  subst g
  refine pss_weak pss_nil fun D σ H w => ?_
  obtain ⟨r, hs, s, m, en, p⟩ := w
  simp only [exB] at p
  exact p r H σ (Ext.refl _ _) m en
theorem sb_cons {x : Sm} {b : Bl} (hx : SS L k x) (hb : SB L k b) : SB L k (.cons x b) := by
  intro c X Y S h hf tk g
  cases S with
  | nil => cases g
  | cons y t =>
    simp only [chkB, Bool.and_eq_true] at g
    refine pss_weak (pss_cons (hx c X Y y h hf tk g.1) (hb c X Y t h hf tk g.2)) fun D σ H w => ?_
    obtain ⟨r, hs, s, m, en, p⟩ := w
    simp only [exB] at p
    refine ⟨r, hs, s, m, en, ?_⟩
    cases q : exS (clOf L k) x s hs with
    | nx s2 h2 =>
      rw [q] at p
      exact fun r' H' σ' x' m' e' => ⟨r', h2, s2, m', e', PostS.mono p x'⟩
    | rt d h2 => rw [q] at p; exact p
    | bk s2 h2 => rw [q] at p; exact p
    | ct s2 h2 => rw [q] at p; exact p
    | exc d fs s2 h2 => rw [q] at p; exact p
    | bad => rw [q] at p; exact p
end
end Q

/-! statements, further ones -/
namespace Q
open PySem PySem.Spec PyProof.Rows L2
section
variable {L : Wl} {k : Nat}
theorem swap_par {env : Env} {x y : Str} {px py pt pt2 : Pos} {kt k2} {a b : Expr} (hk : env.scope.kind = .function) (hx : env.kindOf x = some .local) (hy : env.kindOf y = some .local) (hl : (px.line == py.line) = true) (ha : noStar a = true) (hb : noStar b = true)
    (hf : [a, b].all (foldedForSure 8) = false) (hc : [a, b].all (constantsAlone 8) = false) (hxy : (x == y) = false) : swappedStores [.Tuple [.Name x px, .Name y py] kt pt] (.Tuple [a, b] k2 pt2) env = pure (some [x, y]) := by
  have bk : env.blockKind = .function := by
    unfold Env.blockKind
    rw [hk]
    rfl
  have st : ∀ f : Expr → Bool, (∀ e, noStar e = true → f e = false) → [a, b].any f = false := by
    intro f h
    simp only [List.any_cons, List.any_nil, Bool.or_false, h a ha, h b hb, Bool.or_self]
  have l2 : (py.line == px.line) = true := by rw [beq_iff_eq] at hl ⊢; exact hl.symm
  have fm : ∀ f : Expr → Option Str, f (.Name x px) = some x → f (.Name y py) = some y → [Expr.Name x px, .Name y py].filterMap f = [x, y] := by
    intro f h1 h2
    simp only [List.filterMap_cons, List.filterMap_nil, h1, h2]
  have ed : [x, y].eraseDups = [x, y] := by
    have : (y == x) = false := by rw [beq_eq_false_iff_ne] at hxy ⊢; exact Ne.symm hxy
    simp [List.eraseDups_cons, this]
  unfold swappedStores
  simp only [List.length_cons, List.length_nil, bk, List.head?_cons, Option.map_some, Option.getD_some, Expr.pos, hf, hc]
  rw [st _ (fun e h => by cases e <;> first | (cases h; done) | rfl), fm _ (if_pos (by rw [hx]; simp)) (if_pos (by rw [hy, l2]; simp)), ed]
  rfl
theorem parB_of {c : Ck} {i j : Nat} {T V : Expr} {q : Expr × Expr} (h : parB c i j T V = some q) : ∃ x y px py k1 p1 k2 p2, T = .Tuple [.Name x px, .Name y py] k1 p1 ∧ V = .Tuple [q.1, q.2] k2 p2 ∧
    (atB c i x = true ∧ atB c j y = true ∧ i ≠ j) ∧ (c.sc.names.lookup x = some .local ∧ c.sc.names.lookup y = some .local ∧ (px.line == py.line) = true) ∧ (noStar q.1 = true ∧ noStar q.2 = true) ∧ c.sc.kind = .function ∧
    [q.1, q.2].all (foldedForSure 8) = false ∧ [q.1, q.2].all (constantsAlone 8) = false ∧ (x == y) = false := by
  unfold parB at h
  split at h
  · rename_i x px y py k1 p1 a b k2 p2
    split at h
    · rename_i hc
      cases h
      simp only [Bool.and_eq_true, decide_eq_true_eq, Bool.not_eq_true', beq_iff_eq] at hc
      obtain ⟨h1, h2, h3, h4, h5, h6, h7⟩ := hc
      exact ⟨x, y, px, py, k1, p1, k2, p2, rfl, rfl, h1, ⟨h2.1, h2.2.1, by rw [beq_iff_eq]; exact h2.2.2⟩, h3, h4, h5, h6, h7⟩
    · cases h
  · cases h
theorem ss_par (i j : Nat) (a b : Ex) : SS L k (.par i j a b) := by
  intro c X Y S h hf tk g
  simp only [chkS] at g
  split at g
  · rename_i q hq
    obtain ⟨p, rfl⟩ := asAsg_of hq
    obtain ⟨t, v⟩ := q
    simp only at g
    split at g
    · rename_i q2 hq2
      obtain ⟨x, y, px, py, k1, p1, k2, p2, e1, e2, ⟨h1, h2, h3⟩, ⟨h4, h5, h6⟩, ⟨h7, h8⟩, h9, h10, h11, h12⟩ := parB_of hq2
      subst e1 e2
      simp only [Bool.and_eq_true] at g
      obtain ⟨g1, g2, g3⟩ := g
      obtain ⟨hc, _⟩ := calm_hd h g1
      have kx : X.env.kindOf x = some .local := by unfold Env.kindOf; rw [h.sc]; exact h4
      have ky : X.env.kindOf y = some .local := by unfold Env.kindOf; rw [h.sc]; exact h5
      have hw := swap_par (env := X.env) (pt := p1) (pt2 := p2) (kt := k1) (k2 := k2) (by rw [h.sc]; exact h9) kx ky h6 h7 h8 h10 h11 h12
      refine ps_weak (ps_par hc h.nd (atB_ok h h1) (atB_ok h h2) h3 kx ky (pa_cons (sE a c X Y q2.1 h tk g2).1 (pa_cons (sE b c X Y q2.2 h tk g3).1 pa_nil (star_cons h8)) (star_cons h7)) hw rfl) fun D σ H w => ?_
      obtain ⟨r, hs, s, m, en, p⟩ := w
      simp only [exS] at p
      refine st_bind m en p fun d r1 H1 hs1 v x m1 e1 rv _ p1 => ?_
      refine st_bind m1 e1 p1 fun d2 r2 H2 hs2 v2 x2 m2 e2 rv2 _ p2 => ?_
      exact ⟨v, v2, rfl, p2 r2 H2 _ (Ext.refl _ _) m2 ((e2.set (rv.mono x2) i).set rv2 j)⟩
    · cases g
  · cases g

/-! ### while -/
theorem whU_some {c : Ev → Hs → R Bool} {b : Ev → Hs → SR} {s : Ev} {h : Hs} (e : whU c b s h ≠ .bad) : ∃ n, whI c b n s h = some (whU c b s h) := by
  unfold whU at e ⊢
  split at e
  · rename_i H
    exact ⟨H.choose, by rw [dif_pos H]; exact H.choose_spec.choose_spec⟩
  · exact absurd rfl e
theorem PostS.nb {D : Ends} {W : Wd} {Y : WX} {r : List Addr} {H : Hp} {res : SR} (p : PostS D W Y r H res) : res ≠ .bad := fun e => by rw [e] at p; exact p
theorem ss_whl (q : Ex) {a : Bl} (ha : SB L k a) : SS L k (.whl q a) := by
  intro c X Y S h hf tk g
  simp only [chkS] at g
  split at g
  · rename_i x hx
    obtain ⟨p, rfl⟩ := asWhl_of hx
    simp only [Bool.and_eq_true, Bool.not_eq_true'] at g
    obtain ⟨g1, g2, g3⟩ := g
    refine ps_weak (ps_while (hf g1).pass (sE q c X Y _ h tk g2).2 (ha c X Y _ h hf tk g3)) fun D σ H w => ?_
    obtain ⟨r, hs, s, m, en, p⟩ := w
    simp only [exS] at p
    obtain ⟨n, hn⟩ := whU_some p.nb
    generalize whU (fun s h => evT (clOf L k) q s h) (fun s h => exB (clOf L k) a s h) s hs = res at p hn
    refine ⟨fun n σ H => ∃ r hs s res, Mt (wdo X L) r H hs ∧ EnvR (wdo X L) r H s σ ∧ whI (fun s h => evT (clOf L k) q s h) (fun s h => exB (clOf L k) a s h) n s hs = some res ∧ PostS D (wdo X L) Y r H res, ⟨n, r, hs, s, res, m, en, hn, p⟩, ?_⟩
    rintro n σ H ⟨r, hs, s, res, m, en, hn, p⟩
    cases n with
    | zero => cases hn
    | succ n =>
      unfold whI at hn
      refine ⟨r, hs, s, m, en, ?_⟩
      cases q1 : evT (clOf L k) q s hs with
      | ok t h1 =>
        rw [q1] at hn
        intro r1 H1 t' x1 m1 et
        subst et
        cases t with
        | false =>
          simp only at hn
          cases hn
          exact p r1 H1 σ x1 m1 (en.mono x1)
        | true =>
          simp only at hn
          simp only [if_true]
          refine ⟨fun σ' H' => ∃ m', m' < n + 1 ∧ _, fun σ' H' z => z, r1, h1, s, m1, en.mono x1, ?_⟩
          cases q2 : exB (clOf L k) a s h1 with
          | nx s2 h2 =>
            rw [q2] at hn
            exact fun r2 H2 σ2 x2 m2 e2 => ⟨n, Nat.lt_succ_self n, r2, h2, s2, res, m2, e2, hn, PostS.mono p (x1.trans x2)⟩
          | ct s2 h2 =>
            rw [q2] at hn
            exact fun r2 H2 σ2 x2 m2 e2 => ⟨n, Nat.lt_succ_self n, r2, h2, s2, res, m2, e2, hn, PostS.mono p (x1.trans x2)⟩
          | bk s2 h2 =>
            rw [q2] at hn
            cases hn
            exact fun r2 H2 σ2 x2 m2 e2 => p r2 H2 σ2 (x1.trans x2) m2 e2
          | rt d h2 =>
            rw [q2] at hn
            cases hn
            exact fun r2 H2 v x2 m2 e2 => p r2 H2 v (x1.trans x2) m2 e2
          | exc d fs s2 h2 =>
            rw [q2] at hn
            cases hn
            exact fun r2 H2 σ2 cls dx x2 => p r2 H2 σ2 cls dx (x1.trans x2)
          | bad =>
            rw [q2] at hn
            cases hn
            exact p
      | exc d fs h1 =>
        rw [q1] at hn
        cases hn
        exact fun r2 H2 cls dx x2 m2 ex => p r2 H2 σ cls dx x2 m2 (en.mono x2) ex
      | bad =>
        rw [q1] at hn
        cases hn
        exact p
  · cases g

/-! ### for -/
theorem ss_for (tg : Tg) (it : It) {a : Bl} (ha : SB L k a) : SS L k (.for tg it a) := by
  intro c X Y S h hf tk g
  simp only [chkS] at g
  split at g
  · rename_i x hx
    obtain ⟨p, rfl⟩ := asFor_of hx
    simp only [Bool.and_eq_true, Bool.not_eq_true'] at g
    obtain ⟨⟨g1, g2⟩, g3, g4, g5⟩ := g
    obtain ⟨hc, _⟩ := h.calm g1
    refine ps_weak (ps_for (hf g1).pass hc (sI it c X Y _ _ h tk g3) (tgB_ok h hc g4) (ha c X Y _ h hf tk g5) (folded_ok g2)) fun D σ H w => ?_
    obtain ⟨r, hs, s, m, en, p⟩ := w
    simp only [exS] at p
    refine st_bind m en p fun w r1 H1 hs1 J x1 m1 e1 wk _ p1 => ?_
    generalize hG : forG tg (fun s h => exB (clOf L k) a s h) = G at p1
    refine ⟨fun i n σ H => ∃ r hs s, Ext r1 H1 r H ∧ Mt (wdo X L) r H hs ∧ EnvR (wdo X L) r H s σ ∧ PostS D (wdo X L) Y r H (forL w.ok G (w.items.drop i) s hs) ∧ n + i = w.items.length,
      ⟨w.items.length, r1, hs1, s, Ext.refl _ _, m1, e1, by simpa using p1, rfl⟩, ?_⟩
    rintro i n σ2 H2 ⟨r2, hs2, s2, x2, m2, e2, p2, hn⟩
    by_cases hil : i < w.items.length
    · refine .inr ?_
      rw [List.drop_eq_getElem_cons hil] at p2
      unfold forL at p2
      split at p2
      · rename_i hok
        obtain ⟨wk1, wk2, wk3⟩ := wk r2 H2 hs2 x2 m2 hok
        refine ⟨wk1 i hil, fun σ' H' => ∃ m', m' < n ∧ _, fun σ' H' z => z, fun xv H3 hy => ?_⟩
        obtain ⟨r3, x3, m3, rv⟩ := wk3 i xv H3 hy _ (List.getElem?_eq_getElem hil)
        rw [← hG] at p2
        unfold forG at p2
        cases hs3 : asg tg w.items[i] s2 with
        | none => rw [hs3] at p2; exact False.elim p2
        | some s3 =>
          rw [hs3] at p2
          refine asg_ok (P := fun _ => True) hs3 rv (e2.mono x3) trivial (fun _ _ _ _ _ => trivial) fun σ3 e3 _ => ⟨r3, hs2, s3, m3, e3, ?_⟩
          simp only at p2
          have x13 := x2.trans x3
          cases q2 : exB (clOf L k) a s3 hs2 with
          | nx s4 h4 =>
            rw [q2] at p2
            exact fun r4 H4 σ4 x4 m4 e4 => ⟨n - 1, by omega, r4, h4, s4, x13.trans x4, m4, e4, hG ▸ PostS.mono p2 (x3.trans x4), by omega⟩
          | ct s4 h4 =>
            rw [q2] at p2
            exact fun r4 H4 σ4 x4 m4 e4 => ⟨n - 1, by omega, r4, h4, s4, x13.trans x4, m4, e4, hG ▸ PostS.mono p2 (x3.trans x4), by omega⟩
          | bk s4 h4 =>
            rw [q2] at p2
            exact fun r4 H4 σ4 x4 m4 e4 => p2 r4 H4 σ4 (x3.trans x4) m4 e4
          | rt d h4 =>
            rw [q2] at p2
            exact fun r4 H4 v x4 m4 e4 => p2 r4 H4 v (x3.trans x4) m4 e4
          | exc d fs s4 h4 =>
            rw [q2] at p2
            exact fun r4 H4 σ4 cls dx x4 => p2 r4 H4 σ4 cls dx (x3.trans x4)
          | bad => rw [q2] at p2; exact p2
      · exact False.elim p2
    · refine .inl ?_
      rw [List.drop_eq_nil_of_le (by omega)] at p2
      unfold forL at p2
      split at p2
      · rename_i hok
        exact ⟨(wk r2 H2 hs2 x2 m2 hok).2.1 i (by omega), p2 r2 H2 σ2 (Ext.refl _ _) m2 e2⟩
      · exact False.elim p2
  · cases g
end
end Q

/-! raise, try; the theorem -/
namespace Q
open PySem PySem.Spec PyProof.Rows L2
section
variable {L : Wl} {k : Nat}
theorem plain_facts {d : Cn} (h : d.plainExc = true) : d.isExc = true ∧ d.flds = [] := by
  cases d <;> first | (cases h; done) | exact ⟨rfl, rfl⟩
/-- an exception's fields, the last one first -/
theorem lk_zip (d : Cn) (vs : List V) (h : vs.length = d.flds.length) : LkAll d.flds vs ((d.flds.map fN).zip vs).reverse := by
  cases d <;> simp only [Cn.flds] at h ⊢ <;> (first
    | (have e : vs = [] := List.eq_nil_of_length_eq_zero h
       subst e; trivial)
    | (obtain ⟨v, rfl⟩ := List.length_eq_one_iff.mp h
       simp [LkAll])
    | (obtain ⟨v, w, rfl⟩ : ∃ v w, vs = [v, w] := by
         match vs, h with
         | [v, w], _ => exact ⟨v, w, rfl⟩
       simp only [LkAll, List.map_cons, List.map_nil, List.zip_cons_cons, List.zip_nil_right, List.reverse_cons, List.reverse_nil, List.nil_append, List.cons_append, List.lookup_cons]
       refine ⟨?_, ?_, trivial⟩
       · rw [show (fN _ == fN _) = false from by rw [beq_eq_false_iff_ne]; exact fun e => absurd (fN_inj e) (by decide)]
         simp
       · simp))
theorem own_end {K : PySem.W.Frag} {C a : Addr} {flds : List String} {vs : List V} {H1 : Hp} {Q : XK} (T : OexC K C) (hl : vs.length = flds.length) (hn : ∀ f ∈ flds, PySem.W.findIn K (.ref C) (fN f) = some none)
    (q : ∀ dx, H1 dx = none → Q (.ref C) (some dx) (upd H1 dx (.xd ((flds.map fN).zip vs).reverse))) (na : H1 a = none) :
    spX K flds (.ref a :: (vs ++ [])) (upd H1 a (exo a C none)) (fun v H2 => v = .non ∧ ∃ (d : Addr) (fs : List (Str × V)), H2 a = some (exo a C (some d)) ∧ H2 d = some (exd d fs) ∧ H1 d = none ∧ Q (.ref C) (some d) (upd (del H2 a) d (.xd fs))) (fun _ _ _ => False) := by
  refine ⟨a, C, vs, by rw [List.append_nil], hl, upd_same, T, hn, fun dx n1 n2 => ?_⟩
  have n3 : H1 dx = none := by rw [upd_ne n2] at n1; exact n1
  refine ⟨rfl, dx, ((flds.map fN).zip vs).reverse, by rw [upd_ne (Ne.symm n2), upd_same], upd_same, n3, ?_⟩
  have eu : upd (del (upd (upd (upd H1 a (exo a C none)) a (exo a C (some dx))) dx (exd dx ((flds.map fN).zip vs).reverse)) a) dx (.xd ((flds.map fN).zip vs).reverse) = upd H1 dx (.xd ((flds.map fN).zip vs).reverse) := by
    funext b
    by_cases hb : b = dx
    · rw [hb, upd_same, upd_same]
    · rw [upd_ne hb, upd_ne hb]
      by_cases hb2 : b = a
      · rw [hb2, del_same, na]
      · rw [del_ne hb2, upd_ne hb, upd_ne hb2, upd_ne hb2]
  rw [eu]
  exact q dx n3
theorem ss_raise (d : Cn) (es : Exs) : SS L k (.raise d es) := by
  intro c X Y S h hf tk g
  simp only [chkS] at g
  split at g
  · rename_i e he
    obtain ⟨p, rfl⟩ := asRaise_of he
    split at g
    · rename_i q hq
      obtain ⟨p1, p2, rfl⟩ := asCall_of hq
      obtain ⟨x, l⟩ := q
      simp only [Bool.and_eq_true, beq_iff_eq, decide_eq_true_eq] at g
      obtain ⟨⟨⟨g1, g2⟩, g3, g4⟩, g5, g6, g7⟩ := g
      obtain ⟨hc, hr⟩ := calm_hd h g1
      obtain ⟨k1, k2⟩ := glB_ok h g3
      obtain ⟨m1, m2, m3⟩ := h.cns x d g4
      cases gp : d.plainExc with
      | false =>
        rw [gp, Bool.false_or] at g2
        simp only [Bool.and_eq_true, beq_iff_eq] at g2
        obtain ⟨f1, f2, f3⟩ := g2
        obtain ⟨_, _, i3⟩ := h.ini _ d f2
        obtain ⟨ai, fd, nm, qual, st, N, T, j1, j2, F, hf, hS⟩ := i3 f1
        obtain ⟨F1, B1⟩ := initx_fn (P := X.prog) (w := X.w) (base := X.base) F hf 0 hS
        cases l with
        | nil => cases g6
        | cons y l =>
          have hst := (chkEs_len g5).2
          rw [List.all_cons, Bool.and_eq_true] at hst
          refine ps_weak (ps_raise hc tk (pmk_oex (dvs := []) (ds := []) T j1 j2 F1 (hr.mono (by omega)) B1 .nil passL k1 m2 (sEs es c X Y (y :: l) h tk g5).1 k2 (star_cons hst.1) (star_none hst.2))) fun D σ H w => ?_
          obtain ⟨r, hs, s, m, en, p⟩ := w
          simp only [exS] at p
          refine st_bind m en p fun ds r1 H1 hs1 vs x1 m1' e1 rv q p1 => ?_
          unfold raiseR excO at p1
          rw [gp, if_neg (by decide)] at p1
          split at p1
          · rename_i fs hfs
            split at hfs
            · rename_i hl
              cases hfs
              have hlv : vs.length = d.flds.length := by rw [rv.length]; exact hl.2
              refine ⟨by rw [rv.length, evs_len q, (chkEs_len g5).1]; exact g7, fun a na => own_end (Q := fun cls d H' => Y cls d σ H') T hlv (fun f hf => h.noat d f m1 (flds_known d f hf)) (fun dx n1 => ?_) na⟩
              have m2' := m1'.new n1 (.xd ((d.flds.map fN).zip vs).reverse)
              have x2 := ext_new (r := r1) n1 (.xd ((d.flds.map fN).zip vs).reverse)
              exact p1 r1 _ σ _ (some dx) x2 m2' (e1.mono x2) ⟨⟨f1, m1⟩, rfl, .inr ⟨dx, _, vs, rfl, upd_same, m1'.notNew n1, rv.mono x2, lk_zip d vs hlv, hl.2⟩⟩
            · cases hfs
          · exact False.elim p1
      | true =>
      obtain ⟨bmB, B, newId, initId, F, q1, q2⟩ := h.pex d m1 gp
      obtain ⟨f1, f2⟩ := plain_facts gp
      have g2 := gp
      cases l with
      | nil => cases g6
      | cons y l =>
        have hst := (chkEs_len g5).2
        rw [List.all_cons, Bool.and_eq_true] at hst
        refine ps_weak (ps_raise hc tk (pmk_ownA F q1 m2 m3 q2 k1 (sEs es c X Y (y :: l) h tk g5).1 k2 (star_cons hst.1) (star_none hst.2))) fun D σ H w => ?_
        obtain ⟨r, hs, s, m, en, p⟩ := w
        simp only [exS] at p
        refine st_bind m en p fun ds r1 H1 hs1 vs x1 m1' e1 rv q p1 => ⟨?_, ?_⟩
        · rw [rv.length, evs_len q, (chkEs_len g5).1, sl_eq]
          exact Nat.le_trans g7 (by decide)
        · unfold raiseR excO at p1
          rw [if_pos g2] at p1
          split at p1
          · rename_i fs hfs
            split at hfs
            · cases hfs
              exact p1 r1 H1 σ _ none (Ext.refl _ _) m1' e1 ⟨⟨f1, m1⟩, rfl, .inl ⟨f2, rfl, rfl⟩⟩
            · cases hfs
          · exact False.elim p1
    · cases g
  · cases g
theorem suite_ok {c : Ck} {X : Cx} {a : Addr} {pn : List (Addr × Obj)} (h : XOk L k c X) : XOk L k { c with hot := true } (X.suite a pn) where
  sc := h.sc
  N := h.N
  nd := h.nd
  fn := h.fn
  calm := fun z => nomatch z
  un := h.un
  cls := h.cls
  noat := h.noat
  blt := h.blt
  fns := h.fns
  cns := h.cns
  exm := h.exm
  pex := h.pex
  con := h.con
  mts := h.mts
  ini := h.ini
theorem tr_ok {c : Ck} {X : Cx} {xe : Value → Shared → Prop} {pn : List (Addr × Obj)} (h : XOk L k c X) : XOk L k c (X.tr pn xe) where
  sc := h.sc
  N := h.N
  nd := h.nd
  fn := h.fn
  calm := h.calm
  un := h.un
  cls := h.cls
  noat := h.noat
  blt := h.blt
  fns := h.fns
  cns := h.cns
  exm := h.exm
  pex := h.pex
  con := h.con
  mts := h.mts
  ini := h.ini
/-- a caught exception, known -/
theorem exc_known {W : Wd} {r : List Addr} {H : Hp} {hs : Hs} {d : Cn} {fs : List D} {cls : Value} {dx : Option Addr} {a : Addr} (m : Mt W r H hs) (ha : H a = none) (e : ExR W r H d fs cls dx) : Rv W r (upd H a (exT a (W.C d) dx)) (.obj d fs) (.ref a) := by
  have x := ext_new (r := r) ha (exT a (W.C d) dx)
  have e2 := e.mono x
  obtain ⟨⟨h1, h2⟩, h3, h4⟩ := e2
  rcases h4 with ⟨f1, rfl, rfl⟩ | ⟨dd, l, vs, rfl, g1, g2, g3, g4, g5⟩
  · exact .exc0 h2 h1 f1 upd_same (m.notNew ha)
  · exact .exc1 h2 h1 upd_same (m.notNew ha) g1 g2 g3 g4 g5
theorem sh_nil : SH L k .nil := by
  intro c X Y S h hh hf tk g
  simp only [chkH, List.isEmpty_iff] at g
  subst g
  refine ⟨[], .nil, fun D d fs s h r H p r' H' σ' cls dx x m e ex => ?_⟩
  simp only [exH] at p
  exact p r' H' σ' cls dx x m e ex
def goneE (i : Option Nat) (s : Ev) : Ev := match i with
  | some i => s.set i none
  | none => s
def putE (i : Option Nat) (d : D) (s : Ev) : Ev := match i with
  | some i => s.set i (some d)
  | none => s
theorem suite_eq (i : Option Nat) (c : Cn) (fs : List D) (s : Ev) (b : Ev → Hs → SR) (h : Hs) : suite i c fs s b h = match b (putE i (.obj c fs) s) h with
    | .nx s h => .nx (goneE i s) h
    | .rt d h => .rt d h
    | _ => .bad := by
  cases i <;> rfl
theorem sh_cons (d : Cn) (i : Option Nat) {b : Bl} {r : Hds} (hb : SB L k b) (hr : SH L k r) : SH L k (.cons d i b r) := by
  intro c X Y S h hh hf tk g
  simp only [chkH] at g
  split at g
  · rename_i x p1 nm y t p2 l2
    simp only [Bool.and_eq_true, beq_iff_eq] at g
    obtain ⟨⟨⟨g1, g2⟩, g3, g4⟩, g5, g6⟩ := g
    obtain ⟨k1, k2⟩ := glB_ok h g1
    obtain ⟨m1, m2, m3⟩ := h.cns x d g2
    obtain ⟨l, hl, hw⟩ := hr c X Y l2 h hh hf tk g6
    have nms : Names X x (.ref (L.C d)) := ⟨k1, k2, .inl m2⟩
    have su : ∀ (a : Addr) (pn : List (Addr × Obj)), PSs (X.suite a pn) (y :: t) (rdS (wdo X L) noX (exB (clOf L k) b)) := fun a pn => hb { c with hot := true } (X.suite a pn) noX (y :: t) (suite_ok h) (fun z => nomatch z) takes0 g5
    refine ⟨⟨.ref (L.C d), i, rdS (wdo X L) noX (exB (clOf L k) b)⟩ :: l, ?_, fun D d' fs s hs r H p r' H' σ' cls dx x m e ex => ?_⟩
    · cases i with
      | none =>
        cases nm with
        | none => exact .plain nms su hl
        | some n => cases g4
      | some i =>
        cases nm with
        | none => cases g4
        | some n =>
          simp only [Bool.and_eq_true, beq_iff_eq] at g4
          exact .named nms (atB_ok h g4.1) (by unfold Env.kindOf; rw [h.sc]; exact g4.2) su hl
    · obtain ⟨⟨e1, e2⟩, e3, e4⟩ := id ex
      refine ⟨d'.under d, by rw [e3]; exact h.exm d' d e2 m1 e1 g3, fun hu => ⟨L.C d', e3, fun a ha => ?_⟩, fun hu => ?_⟩
      · simp only [exH, hu, if_true] at p
        rw [suite_eq] at p
        have xn := ext_new (r := r') ha (exT a (L.C d') dx)
        have rv := exc_known m ha ex
        refine ⟨r', hs, putE i (.obj d' fs) s, m.new ha _, ?_, ?_⟩
        · cases i with
          | none => exact e.mono xn
          | some i => exact (e.mono xn).set rv i
        · cases q : exB (clOf L k) b (putE i (.obj d' fs) s) hs with
          | nx s2 h2 =>
            rw [q] at p
            intro r2 H2 σ2 x2 m2 en2
            refine p r2 H2 _ (x.trans (xn.trans x2)) m2 ?_
            cases i with
            | none => exact en2
            | some i => exact en2.gone i
          | rt d h2 =>
            rw [q] at p
            exact fun r2 H2 v x2 m2 rv2 => p r2 H2 v (x.trans (xn.trans x2)) m2 rv2
          | bk s2 h2 => rw [q] at p; exact p.elim
          | ct s2 h2 => rw [q] at p; exact p.elim
          | exc d fs s2 h2 => rw [q] at p; exact p.elim
          | bad => rw [q] at p; exact p.elim
      · simp only [exH, hu] at p
        exact hw D d' fs s hs r H p r' H' σ' cls dx x m e ex
  · cases g
theorem ss_try {a : Bl} {hs : Hds} (ha : SB L k a) (hh : SH L k hs) : SS L k (.try a hs) := by
  intro c X Y S h hf tk g
  simp only [chkS] at g
  split at g
  · rename_i q hq
    obtain ⟨p, rfl⟩ := asTry_of hq
    obtain ⟨b, hds⟩ := q
    simp only [Bool.and_eq_true, Bool.not_eq_true'] at g
    obtain ⟨⟨g1, g2⟩, g3, g4⟩ := g
    have F := hf g1
    obtain ⟨l, hl, hw⟩ := hh c X Y hds h g1 F tk g4
    cases hds with
    | nil => cases g2
    | cons hd hds =>
      refine ps_weak (ps_tryU (tb := fun W => rdS (wdo X L) W (exB (clOf L k) a)) F.st F.fr F.ex h.nd tk (fun W pn xe tk2 pa => ha c (X.tr pn xe) W b (tr_ok h) (fun _ => ⟨F.st, F.fr, F.ex, pa⟩) tk2 g3) hl) fun D σ H w => ?_
      obtain ⟨r, hs', s, m, en, p⟩ := w
      simp only [exS] at p
      refine ⟨r, hs', s, m, en, ?_⟩
      cases q : exB (clOf L k) a s hs' with
      | nx s2 h2 => rw [q] at p; exact p
      | rt d h2 => rw [q] at p; exact p
      | bk s2 h2 => rw [q] at p; exact p
      | ct s2 h2 => rw [q] at p; exact p
      | exc d fs s2 h2 =>
        rw [q] at p
        exact fun r' H' σ' cls dx x m' e' ex => hw D d fs s2 h2 r H p r' H' σ' cls dx x m' e' ex
      | bad => rw [q] at p; exact p
  · cases g
mutual
theorem sS : ∀ s : Sm, SS L k s
  | .pass => ss_pass
  | .set i e => ss_set i e
  | .setT is e => ss_setT is e
  | .par i j a b => ss_par i j a b
  | .setI o i e => ss_setI o i e
  | .ex e => ss_ex e
  | .ret e => ss_ret e
  | .retN => ss_retN
  | .ite q a b => ss_ite q (sB a) (sB b)
  | .whl q a => ss_whl q (sB a)
  | .for tg it a => ss_for tg it (sB a)
  | .brk => ss_brk
  | .cnt => ss_cnt
  | .raise d es => ss_raise d es
  | .try a hs => ss_try (sB a) (sH hs)
theorem sB : ∀ b : Bl, SB L k b
  | .nil => sb_nil
  | .cons x r => sb_cons (sS x) (sB r)
theorem sH : ∀ hs : Hds, SH L k hs
  | .nil => sh_nil
  | .cons d i b r => sh_cons d i (sB b) (sH r)
end
end
end Q

/-! defs -/
namespace Q
open PySem PySem.Spec PyProof.Rows L2
/-- a def of the given text is mine -/
def fnB (G : List (Str × Gn)) (g : Fn) (N : List Str) (st : Stmt) : Bool := match plainOf (defArgs st) with
  | some as => (decide (as.length = g.np) && (N.take g.np == as.map (·.arg) && (decide (N.length = g.ns) && nodupB N))) &&
    ((decide ((defScope st).kind = .function) && (!(defScope st).isCoroutine && !(defScope st).isGenerator)) &&
    ((as.all (fun a => (defScope st).names.lookup a.arg == some .local || (defScope st).names.lookup a.arg == some .cell) && (defScope st).names.all (fun y => decide (y.2 ≠ .free))) &&
    chkB ⟨G, defScope st, N, fun _ => true, false⟩ g.body (defBody st)))
  | none => false
theorem fnB_ok {G : List (Str × Gn)} {g : Fn} {N : List Str} {st : Stmt} (h : fnB G g N st = true) : ∃ as, defArgs st = plainArgs as ∧ as.length = g.np ∧ N.length = g.ns ∧ FnScope N (as.map (·.arg)) (defScope st) ∧ (as.map (·.arg)).Nodup ∧ chkB ⟨G, defScope st, N, fun _ => true, false⟩ g.body (defBody st) = true := by
  unfold fnB at h
  split at h
  · rename_i as has
    simp only [Bool.and_eq_true, decide_eq_true_eq, beq_iff_eq, Bool.not_eq_true', List.all_eq_true, Bool.or_eq_true] at h
    obtain ⟨⟨h1, h2, h3, h4⟩, ⟨h5, h6, h7⟩, ⟨h8, h9⟩, h10⟩ := h
    have nd := nodupB_ok h4
    refine ⟨as, plainOf_of has, h1, h3, ⟨h5, h6, h7, nd, by rw [List.length_map, h1]; exact h2, fun x hx => ?_, h9⟩, by rw [← h2]; exact nd.sublist (List.take_sublist _ _), h10⟩
    obtain ⟨a, ha, rfl⟩ := List.mem_map.mp hx
    exact h8 a ha
  · cases h
/-- what stands behind the top: classes, constants, built-in names -/
structure SOk (L : Wl) (G : List (Str × Gn)) (K : PySem.W.Frag) (mg : Str → Option Value) : Prop where
  cls : ClsOk ⟨K, L.C, L.has⟩
  noat : ∀ (d : Cn) (f : String), L.has d = true → fldKnown f = true → NoAttr K (L.C d) (fN f)
  blt : ∀ x, x ∈ bltN → mg x = none
  cns : ∀ x d, G.lookup x = some (.cl d) → L.has d = true ∧ mg x = some (.ref (L.C d)) ∧ PySem.W.keepIn K (.ref (L.C d)) = true
  exm : ∀ d e : Cn, L.has d = true → L.has e = true → d.isExc = true → e.isExc = true → PySem.W.exmOne K (.ref (L.C d)) (.ref (L.C e)) = some (d.under e)
  pex : ∀ d : Cn, L.has d = true → d.plainExc = true → PlainX K (L.C d)
  con : ∀ x y, G.lookup x = some (.con y) → ∃ d v u, L.T.con y = some d ∧ mg x = some u ∧ L2.RelV v u ∧ ∀ r H, Rv ⟨K, L.C, L.has⟩ r H d v
  ini : ∀ x d, G.lookup x = some (.mk d) → IniS L G K mg d
/-- a def of the text -/
def DefAt (L : Wl) (G : List (Str × Gn)) (K : PySem.W.Frag) (f : String) (a : Addr) (fd : FuncData) (ps : List Str) : Prop :=
  ∃ (g : Fn) (nm qual : Str) (st : Stmt) (N : List Str), L.T.fn f = some g ∧ Fun K nm qual st a fd ∧ fnB G g N st = true ∧ ps = (defArgs st).args.map (·.arg)
theorem DefAt.facts {L : Wl} {G : List (Str × Gn)} {K : PySem.W.Frag} {f : String} {a : Addr} {fd : FuncData} {ps : List Str} (d : DefAt L G K f a fd ps) :
    PySem.W.keepIn K (.ref a) = true ∧ Binds K fd ps [] ∧ (∀ us : List Value, us.length = ps.length → bindArgs fd ⟨us, []⟩ = pure (ps.zip us)) ∧ ∃ g, L.T.fn f = some g ∧ ps.length = g.np := by
  obtain ⟨g, nm, qual, st, N, h1, h3, h4, rfl⟩ := d
  obtain ⟨as, e1, e2, e3, e4, e5, e6⟩ := fnB_ok h4
  have ea : (defArgs st).args = as := by rw [e1]; rfl
  rw [ea]
  refine ⟨h3.kp, h3.binds fun kV doc pm an cdv ct us hl => bind_plain e1 rfl (by simpa using hl) e5, fun us hl => ?_, g, h1, by simpa using e2⟩
  obtain ⟨oc, od, kV, doc, pm, an, cdv, ct, osl, rfl, _, _⟩ := h3.ex
  exact bind_plain e1 rfl (by simpa using hl) e5
/-- a def behind the top -/
def DefOk (L : Wl) (G : List (Str × Gn)) (K : PySem.W.Frag) (mg : Str → Option Value) (x : Str) (f : String) : Prop := ∃ a fd ps, mg x = some (.ref a) ∧ DefAt L G K f a fd ps
/-- a method of a class -/
def MtOk (L : Wl) (G : List (Str × Gn)) (K : PySem.W.Frag) (c : Cn) (m f : String) : Prop := (L.has c = true ∧ c.isExc = false) ∧ ∃ a fd ps, Meth K (L.C c) (fN m) a ∧ DefAt L G K f a fd ps
theorem start_env {W : Wd} {r : List Addr} {H : Hp} {ds : List D} {vs : List V} (t : Rvs W r H ds vs) {n : Nat} {N : List Str} (hN : N.length = n) : EnvR W r H (start n ds) (L2.start N vs) := by
  have hl := t.length
  unfold start L2.start
  refine ⟨by simp [hl, hN], fun i d h => ?_⟩
  by_cases hi : i < ds.length
  · rw [List.getElem?_append_left (by simpa using hi), List.getElem?_map] at h
    cases q : ds[i]? with
    | none => rw [q] at h; cases h
    | some e =>
      rw [q] at h
      cases h
      obtain ⟨v, h1, h2⟩ := t.get q
      refine ⟨v, ?_, h2⟩
      rw [List.getElem?_append_left (by simp [hl]; exact hi), List.getElem?_map, h1]
      rfl
  · rw [List.getElem?_append_right (by simp; omega), List.getElem?_replicate] at h
    split at h
    · cases h
    · cases h
theorem call_some {T : Tab} {k : Nat} {f : String} {g : Fn} {ds : List D} {hs : Hs} (hg : T.fn f = some g) (h : call T (k + 1) f ds hs ≠ .bad) : ds.length = g.np ∧ call T (k + 1) f ds hs = (exB ⟨T, call T k⟩ g.body (start g.ns ds) hs).fin := by
  simp only [call, hg] at h ⊢
  split
  · rename_i h1; exact ⟨h1, rfl⟩
  · rename_i h1; rw [if_neg h1] at h; exact absurd rfl h
theorem Post.nb {α β : Type} {rel : List Addr → Hp → α → β → Prop} {W : Wd} {X : WX} {σ : L2.St} {r : List Addr} {H : Hp} {res : R α} {Q : β → Hp → Prop} (p : Post rel W X σ r H res Q) : res ≠ .bad := fun e => by rw [e] at p; exact p
theorem fns_ok {L : Wl} {G : List (Str × Gn)} {P : Program} {w : World} {K : PySem.W.Frag} {mg : Str → Option Value} {base : Heap} (S : SOk L G K mg) (D : ∀ x f, G.lookup x = some (.fn f) → DefOk L G K mg x f) (MM : ∀ c m f, L.T.meth c m = some f → MtOk L G K c m f) :
    ∀ (k : Nat) (f : String) (a : Addr) (fd : FuncData) (ps : List Str), DefAt L G K f a fd ps → FnOk P w K mg base (L2.CX P w) (k + 2) a fd ps (spF ⟨K, L.C, L.has⟩ L.T f k)
  | 0, f, a, fd, ps, _ => by
    have no : ∀ {vs H Q E}, ¬ spF ⟨K, L.C, L.has⟩ L.T f 0 vs H Q E := fun ⟨r, hs, ds, _, _, p⟩ => p
    exact ⟨fun vs H Q E h => (no h).elim, fun _ _ _ _ _ _ _ _ _ _ _ _ _ h => (no h).elim⟩
  | k + 1, f, a, fd, ps, d => by
    obtain ⟨g, nm, qual, st, N, h1, h3, h4, rfl⟩ := d
    obtain ⟨as, e1, e2, e3, e4, e5, e6⟩ := fnB_ok h4
    have ea : (defArgs st).args = as := by rw [e1]; rfl
    rw [ea]
    refine h3.okX e4 (fun vs H Q E h => ?_) fun cdv A outer s H vs Q E hr h => ?_
    · obtain ⟨r, hs, ds, m, t, p⟩ := h
      rw [t.length, (call_some h1 p.nb).1, List.length_map, e2]
    · obtain ⟨r, hs, ds, m, t, p⟩ := h
      obtain ⟨q1, q2⟩ := call_some h1 p.nb
      rw [q2] at p
      let X : Cx := cxOf (L2.CX P w) P w K mg base N qual (defScope st) a cdv A outer s H E
      have XO : XOk L k ⟨G, defScope st, N, fun _ => true, false⟩ X := {
        sc := rfl
        N := rfl
        nd := e4.nd
        fn := fun _ _ => rfl
        calm := fun _ => ⟨rfl, hr⟩
        un := by have := hr.un; show (A.deeper _).units + 160 < cLine; omega
        cls := S.cls
        noat := S.noat
        blt := S.blt
        fns := fun x f hf => by
          obtain ⟨a, fd, ps, q1, q⟩ := D x f hf
          obtain ⟨q2, q3, _⟩ := q.facts
          exact ⟨a, fd, ps, q1, q2, fns_ok S D MM k f a fd ps q, q3⟩
        mts := fun c m f hf => by
          obtain ⟨h0, a, fd, ps, q1, q⟩ := MM c m f hf
          obtain ⟨q2, q3, _⟩ := q.facts
          exact ⟨h0, a, fd, ps, q1, fns_ok S D MM k f a fd ps q, q3⟩
        ini := S.ini
        cns := S.cns
        exm := S.exm
        pex := S.pex
        con := S.con }
      have FO : FOk X := ⟨rfl, rfl, rfl, passes_of rfl⟩
      refine ⟨_, sB g.body _ X (fun cls d _ H => E cls d H) (defBody st) XO (fun _ => FO) (takes_of rfl rfl rfl rfl) e6, r, hs, start g.ns ds, m, start_env t e3, ?_⟩
      show PostS _ _ _ _ _ (exB ⟨L.T, call L.T k⟩ g.body (start g.ns ds) hs)
      cases q : exB ⟨L.T, call L.T k⟩ g.body (start g.ns ds) hs with
      | nx s2 h2 => rw [q] at p; exact fun r' H' σ x m' _ => p r' H' .non x m' .non
      | rt d h2 => rw [q] at p; exact p
      | bk s2 h2 => rw [q] at p; exact p.elim
      | ct s2 h2 => rw [q] at p; exact p.elim
      | exc d fs s2 h2 => rw [q] at p; exact fun r' H' σ cls dx x m' _ ex => p r' H' cls dx x m' ex
      | bad => rw [q] at p; exact p.elim
end Q

/-! the head: what stands behind the top -/
namespace Q
open PySem PySem.Spec PyProof.Rows L2

/-- the part of the heap that the names reach, without its lists -/
def frN (g : Addr → Option Obj) (as : List Addr) : PySem.W.Frag := (He.frG g as).filter fun p => decide (p.2.cls ≠ .type "list")
theorem lookup_mem {α β : Type} [BEq α] [LawfulBEq α] : ∀ {l : List (α × β)} {a : α} {b : β}, l.lookup a = some b → (a, b) ∈ l
  | [], _, _, h => by cases h
  | (x, y) :: l, a, b, h => by
    rw [List.lookup_cons] at h
    cases e : a == x with
    | true =>
      rw [e] at h
      cases h
      rw [beq_iff_eq.mp e]
      exact List.mem_cons_self
    | false =>
      rw [e] at h
      exact List.mem_cons_of_mem _ (lookup_mem h)
theorem frG_mem {g : Addr → Option Obj} {as : List Addr} {a : Addr} {o : Obj} (h : (a, o) ∈ He.frG g as) : g a = some o := by
  unfold He.frG at h
  obtain ⟨b, hb, e⟩ := List.mem_filterMap.mp h
  cases q : g b with
  | none => rw [q] at e; cases e
  | some ob => rw [q] at e; cases e; exact q
theorem frN_in {h : Heap} {as : List Addr} : (frN h.get? as).In h := fun a o e => frG_mem (List.mem_filter.mp (lookup_mem e)).1
theorem frN_nl {g : Addr → Option Obj} {as : List Addr} {a : Addr} {o : Obj} (e : (frN g as).lookup a = some o) : o.cls ≠ .type "list" := by
  have h := (List.mem_filter.mp (lookup_mem e)).2
  simpa using h
abbrev AlQ : Type := Bool × List He.FnV
def obsQ (ck : PySem.W.Frag → Bool) (fn : List He.FnD) (K : PySem.W.Frag) : AlQ := (ck K && fn.all fun d => (He.Fa.code d.at_ d.qual).ok K, fn.map fun d => He.fnObs K d.at_)
def valQ (fn : List He.FnD) : AlQ := (true, fn.map He.FnD.val)
def SaysQ (ck : PySem.W.Frag → Bool) (fn : List He.FnD) (K : PySem.W.Frag) : Prop := obsQ ck fn K = valQ fn
def obsQG (n : Nat) (ck : PySem.W.Frag → Bool) (fn : List He.FnD) (g : Addr → Option Obj) : AlQ := obsQ ck fn (frN g (He.asG g n ++ [cStatics]))
def hookQ (n : Nat) (ck : PySem.W.Frag → Bool) (fn : List He.FnD) : PySem.W.Hook where
  α := AlQ
  obs := fun s => obsQG n ck fn s.heap.get?
  val := fun _ => valQ fn
  says := fun _ h => ∃ K : PySem.W.Frag, K.In h ∧ (∀ a o, K.lookup a = some o → o.cls ≠ .type "list") ∧ SaysQ ck fn K
  of := fun _ _ e => ⟨_, frN_in, fun _ _ z => frN_nl z, e⟩
  keeps := fun _ _ _ ⟨K, hK, hl, c⟩ k => ⟨K, PySem.W.Frag.In.keeps hK k, hl, c⟩
theorem obsQG_eq {n : Nat} {ck : PySem.W.Frag → Bool} {fn : List He.FnD} {g : Addr → Option Obj} {s : Shared} (h : ∀ a, g a = s.heap.get? a) : obsQG n ck fn g = (hookQ n ck fn).obs s := by
  have e : g = s.heap.get? := funext h
  rw [e] <;> rfl
theorem SaysQ.ck {ck : PySem.W.Frag → Bool} {fn : List He.FnD} {K : PySem.W.Frag} (c : SaysQ ck fn K) : ck K = true :=
  (He.ba (show (ck K && fn.all fun d => (He.Fa.code d.at_ d.qual).ok K) = true from congrArg (fun z : AlQ => z.1) c)).1
theorem SaysQ.def_ {ck : PySem.W.Frag → Bool} {fn : List He.FnD} {K : PySem.W.Frag} (c : SaysQ ck fn K) {d : He.FnD} (h : d ∈ fn) :
    ∃ oc od osl kV doc pm an cdv ct, K.lookup (He.fAd K d.at_) = some ⟨oc, od, .func (PySem.W.fnOf d.name d.qual d.params d.body d.scope .none kV doc pm an cdv ct), osl⟩ ∧ PySem.W.codeIn K cdv d.qual = true := by
  have c2 := (He.ba (show (ck K && fn.all fun d => (He.Fa.code d.at_ d.qual).ok K) = true from congrArg (fun z : AlQ => z.1) c)).2
  have e : fn.map (fun d => He.fnObs K d.at_) = fn.map He.FnD.val := congrArg (fun z : AlQ => z.2) c
  exact He.fn_ok (List.map_inj_left.mp e d h) (List.all_eq_true.mp c2 d h)

/-! ### a law's data -/
def cA (K : PySem.W.Frag) (c : Cn) : Addr := He.ga K (Str.ofString c.name)
/-- the j-th statement of a class -/
def inCls (s : Stmt) (j : Nat) : Stmt := match s with
  | .ClassDef (body := b) .. => b.getD j (.Pass ⟨0, 0, 0, 0⟩)
  | s => s
/-- one def of the given text: x a global's name, m a method's of the class x -/
structure DD where
  x : String
  m : Option String
  nm : String
  qual : String
  st : Stmt
  key : String
  g : Fn
  N : List Str
/-- an __init__ of the class x -/
structure DI where
  x : String
  qual : String
  st : Stmt
  N : List Str
def DI.at_ (d : DI) : Str × Option Str := (Str.ofString d.x, some "__init__")
def DD.at_ (d : DD) : Str × Option Str := (Str.ofString d.x, d.m.map fN)
/-- a law's world: its defs, its classes, its constants, its __init__s, the classes that are made (by whose __init__), the methods of the classes -/
structure Lw where
  ds : List DD
  cs : List Cn
  ks : List (String × String × D)
  is : List DI
  im : List (Cn × Option String)
  mt : List (Cn × String × String)
  dic : String → Option (List (Str × D))
def Lw.G (l : Lw) : List (Str × Gn) := ((l.ds.filter fun d => d.m.isNone).map fun d => (Str.ofString d.x, Gn.fn d.key)) ++ ((l.cs.map fun c => (Str.ofString c.name, Gn.cl c)) ++ ((l.ks.map fun k => (Str.ofString k.1, Gn.con k.2.1)) ++ l.im.map fun p => (mkN p.1, Gn.mk p.1)))
def Lw.T (l : Lw) : Tab := ⟨fun f => (l.ds.find? fun d => d.key == f).map (·.g), fun c m => (l.mt.find? fun p => p.1 == c && p.2.1 == m).map (·.2.2), fun y => (l.ks.find? fun k => k.2.1 == y).map (·.2.2), l.dic⟩
def Lw.W (l : Lw) (K : PySem.W.Frag) : Wl := ⟨cA K, fun c => l.cs.contains c, l.T⟩
def Lw.fn (l : Lw) : List He.FnD := (l.ds.map fun d => ⟨d.at_, Str.ofString d.nm, Str.ofString d.qual, defArgs d.st, defBody d.st, defScope d.st⟩) ++ l.is.map fun d => ⟨d.at_, "__init__", Str.ofString d.qual, defArgs d.st, defBody d.st, defScope d.st⟩
mutual
def conB (K : PySem.W.Frag) : D → Value → Bool
  | .int i, .int j _ => i == j
  | .str x, .str y _ => x == y && PyData.strOk x
  | .bl b, .bool c => b == c
  | .tup ds, .ref a => (match K.lookup a with
    | some o => decide (o.cls = .type "tuple") && (match o.data with
      | .seq its n => decide (its.size ≤ 1000) && (!rowK ds && conBs K ds its.toList)
      | _ => false)
    | none => false)
  | _, _ => false
def conBs (K : PySem.W.Frag) : List D → List Value → Bool
  | [], [] => true
  | d :: ds, u :: us => conB K d u && conBs K ds us
  | _, _ => false
end
mutual
theorem conB_ok {W : Wd} : ∀ {d : D} {u : Value}, conB W.K d u = true → ∃ v, L2.RelV v u ∧ ∀ r H, Rv W r H d v
  | .int i, u, h => by
    cases u <;> first | (cases h; done) | skip
    simp only [conB, beq_iff_eq] at h
    subst h
    exact ⟨.int i, ⟨_, rfl⟩, fun _ _ => .int i⟩
  | .bl i, u, h => by
    cases u <;> first | (cases h; done) | skip
    simp only [conB, beq_iff_eq] at h
    subst h
    exact ⟨.bl i, rfl, fun _ _ => .bl i⟩
  | .str x, u, h => by
    cases u <;> first | (cases h; done) | skip
    simp only [conB, Bool.and_eq_true, beq_iff_eq] at h
    obtain ⟨h1, h2⟩ := h
    subst h1
    exact ⟨.str x, ⟨_, rfl⟩, fun _ _ => .str x h2⟩
  | .tup ds, u, h => by
    cases u <;> first | (cases h; done) | skip
    rename_i a
    simp only [conB] at h
    split at h
    · rename_i o ho
      rw [Bool.and_eq_true, decide_eq_true_eq] at h
      obtain ⟨h1, h2⟩ := h
      split at h2
      · rename_i its n hd
        rw [Bool.and_eq_true, Bool.and_eq_true, decide_eq_true_eq, Bool.not_eq_true'] at h2
        obtain ⟨vs, g1, g2⟩ := conBs_ok h2.2.2
        exact ⟨.ref a, rfl, fun r H => .tup (.inr ⟨⟨o, its, n, ho, h1, hd, by rw [sl_eq]; exact Nat.le_trans h2.1 (by decide), g1⟩, rowK_rowV (g2 r H) h2.2.1⟩) (g2 r H)⟩
      · cases h2
    · cases h
  | .non, u, h => by cases u <;> cases h
  | .obj _ _, u, h => by cases u <;> cases h
  | .ref _, u, h => by cases u <;> cases h
  | .lv _, u, h => by cases u <;> cases h
theorem conBs_ok {W : Wd} : ∀ {ds : List D} {us : List Value}, conBs W.K ds us = true → ∃ vs, Vals vs us ∧ ∀ r H, Rvs W r H ds vs
  | [], [], _ => ⟨[], .nil, fun _ _ => .nil⟩
  | [], _ :: _, h => nomatch h
  | _ :: _, [], h => nomatch h
  | d :: ds, u :: us, h => by
    simp only [conBs, Bool.and_eq_true] at h
    obtain ⟨v, g1, g2⟩ := conB_ok h.1
    obtain ⟨vs, f1, f2⟩ := conBs_ok h.2
    exact ⟨v :: vs, .cons g1 f1, fun r H => .cons (g2 r H) (f2 r H)⟩
end
def flds : List String := ["at", "word", "line", "name", "part", "one", "other", "kept"]
def baseTys : List Ty := [.tint, .tbool, .tstr, .ttuple, .tlist, .tval]
def tyB' (t : Ty) : Value := match t with
  | .tint => .type "int"
  | .tbool => .type "bool"
  | .tstr => .type "str"
  | .ttuple => .type "tuple"
  | .tlist => .type "list"
  | .tval => .type "ValueError"
  | .own _ => .none
def ckCls (K : PySem.W.Frag) (cs : List Cn) (c : Cn) : Bool :=
  (He.eqO (PySem.W.nsIn K mainGlobals (Str.ofString c.name)) (some (some (.ref (cA K c)))) && (PySem.W.keepIn K (.ref (cA K c)) && decide (PySem.W.mroIn K (cA K c) (.type "object") = some true))) &&
  ((He.eqO (PySem.W.findIn K (.ref (cA K c)) "__class__") (some (some (.builtin "object.__class__"))) && (if c.isExc then
    He.eqO (PySem.W.findIn K (.ref (cA K c)) "__getattribute__") (some (some (.builtin "BaseException.__getattribute__"))) && (He.eqO (PySem.W.findIn K (.ref (cA K c)) "__getattr__") (some none) && (decide (PySem.W.subIn K (.ref (cA K c)) (.type "BaseException") = some true) &&
      (PySem.W.hasDictIn K (cA K c) && (decide (PySem.W.typeIn K (.ref (cA K c)) = some (.type "type")) && ((!c.plainExc || PySem.W.excIn K (cA K c) He.veBase "ValueError.__new__") && cs.all fun d => !d.isExc || decide (PySem.W.exmOne K (.ref (cA K c)) (.ref (cA K d)) = some (c.under d)))))))
    else (He.Fa.cls (Str.ofString c.name)).ok K)) &&
  ((cs.all fun d => decide (PySem.W.kitOne K (.ref (cA K c)) (.ref (cA K d)) = some (c.under d))) && ((baseTys.all fun t => decide (PySem.W.kitOne K (.ref (cA K c)) (tyB' t) = some (isTyC c t))) &&
    ((tyN.all fun n => decide (PySem.W.kitOne K (.type n) (.ref (cA K c)) = some false)) && flds.all fun f => He.eqO (PySem.W.findIn K (.ref (cA K c)) (fN f)) (some none)))))
/-- what a class that is made must have -/
def ckIni (l : Lw) (K : PySem.W.Frag) (p : Cn × Option String) : Bool := l.cs.contains p.1 && (PySem.W.keepIn K (.ref (cA K p.1)) && (match p.2 with
  | none => (decide (p.1.flds = []) && !p.1.isExc) && (PySem.W.makesIn K (cA K p.1) && (He.eqO (PySem.W.findIn K (.ref (cA K p.1)) "__init__") (some (some (.builtin "object.__init__"))) && decide (PySem.W.mroIn K (cA K p.1) (.type "object") = some true)))
  | some x => match l.is.find? fun d => d.x == x with
    | none => false
    | some d => He.eqO (PySem.W.findIn K (.ref (cA K p.1)) "__init__") (some (some (.ref (He.fAd K d.at_)))) && (if p.1.isExc then (oexB K (cA K p.1) && (He.eqO (PySem.W.findIn K (.ref (cA K p.1)) "__setattr__") (some (some (.builtin "object.__setattr__"))) &&
        (decide (PySem.W.subIn K (.ref (cA K p.1)) (.type "BaseException") = some true) && decide (PySem.W.typeIn K (.ref (cA K p.1)) = some (.type "type"))))) && (decide (PySem.W.typeIn K (.ref (He.fAd K d.at_)) = some (.type "function")) && (l.cs.contains .SayError &&
        (decide (PySem.W.specialIn K (.ref (cA K .SayError)) "__getattribute__" = some (some (.builtin "type.__getattribute__"))) && (PySem.W.readsIn K (cA K .SayError) (.type "type") && (match PySem.W.findCls K (.ref (cA K .SayError)) (.type "type") "__init__" with
          | some (.val (.builtin i)) => i == "ValueError.__init__"
          | _ => false)))))
      else PySem.W.makesIn K (cA K p.1) && PySem.W.isFn K (.ref (He.fAd K d.at_)))))
def ckMt (l : Lw) (K : PySem.W.Frag) (p : Cn × String × String) : Bool := (l.cs.contains p.1 && !p.1.isExc) && (match l.ds.find? fun d => d.key == p.2.2 with
  | none => false
  | some d => He.eqO (PySem.W.findIn K (.ref (cA K p.1)) (fN p.2.1)) (some (some (.ref (He.fAd K d.at_)))) && (PySem.W.isFn K (.ref (He.fAd K d.at_)) && PySem.W.keepIn K (.ref (He.fAd K d.at_))))
def Lw.ck (l : Lw) (K : PySem.W.Frag) : Bool :=
  (bltN.all (fun x => He.eqO (PySem.W.nsIn K mainGlobals x) (some none)) && (decide (PySem.W.specialIn K (.builtin "object.__class__") "__get__" = some (some (.builtin "getset_descriptor.__get__"))) && decide (PySem.W.takesIn K (.builtin "object.__class__") = some true))) &&
  ((l.ds.all fun d => (d.m.isSome || He.eqO (PySem.W.nsIn K mainGlobals (Str.ofString d.x)) (some (some (.ref (He.ga K (Str.ofString d.x)))))) && PySem.W.keepIn K (.ref (He.fAd K d.at_))) &&
  (((l.cs.all fun c => ckCls K l.cs c) && ((l.is.all fun d => PySem.W.keepIn K (.ref (He.fAd K d.at_))) && ((l.im.all fun p => ckIni l K p) && l.mt.all fun p => ckMt l K p))) && l.ks.all fun k => match PySem.W.nsIn K mainGlobals (Str.ofString k.1) with
    | some (some u) => conB K k.2.2 u
    | _ => false))
/-- each def, checked -/
def Lw.fns (l : Lw) : Bool := (l.ds.all fun d => fnB l.G d.g d.N d.st) && l.im.all fun p => match p.2 with
  | none => true
  | some x => match l.is.find? fun d => d.x == x with
    | none => false
    | some d => if p.1.isExc then initXFn l.G p.1.flds d.N d.st else initFn p.1.flds d.N d.st
section
variable {l : Lw} {K : PySem.W.Frag} {h : Heap} {mg : Str → Option Value}
theorem has_mem {c : Cn} (hc : (l.W K).has c = true) : c ∈ l.cs := List.contains_iff_mem.mp hc
theorem ck_cls (c : l.ck K = true) {d : Cn} (hd : (l.W K).has d = true) : ckCls K l.cs d = true := by
  unfold Lw.ck at c
  simp only [Bool.and_eq_true] at c
  exact List.all_eq_true.mp c.2.2.1.1 d (has_mem hd)
theorem find_some' {α : Type} {p : α → Bool} {l : List α} {a : α} (h : l.find? p = some a) : a ∈ l ∧ p a = true := ⟨List.mem_of_find?_eq_some h, List.find?_some h⟩
theorem sOk (X : K.In h) (Gm : h.Ns mainGlobals mg) (cq : SaysQ l.ck l.fn K) (nd : (l.ks.map (·.2.1)).Nodup) (hf : l.fns = true) : SOk (l.W K) l.G K mg := by
  have c := cq.ck
  have c0 := c
  unfold Lw.ck at c0
  simp only [Bool.and_eq_true, decide_eq_true_eq] at c0
  obtain ⟨⟨b1, b2, b3⟩, b4, ⟨b5, b7, b8, b9⟩, b6⟩ := c0
  have at_ : ∀ {d : Cn}, (l.W K).has d = true → _ := fun {d} hd => ck_cls c hd
  refine { cls := { own := fun d hd he => ?_, spec := b2, tak := b3, exc := fun d hd he => ?_, kit := fun d t hd ht => ?_, kitT := fun d n hd hn => ?_ }, noat := fun d f hd hf => ?_, blt := fun x hx => ?_, cns := fun x d hx => ?_, exm := fun d e hd he h1 h2 => ?_, pex := fun d hd hp => ?_, con := fun x y hx => ?_, ini := fun x d hx => ?_ }
  · have q := at_ hd
    unfold ckCls at q
    simp only [Bool.and_eq_true, decide_eq_true_eq, he, Bool.false_eq_true, if_false] at q
    exact ⟨He.cls_ok q.2.1.2, He.eqO_ok q.2.1.1, q.1.2.2⟩
  · have q := at_ hd
    unfold ckCls at q
    simp only [Bool.and_eq_true, decide_eq_true_eq, he, if_true] at q
    obtain ⟨⟨q1, q2, q3⟩, ⟨q4, q5, q6, q7, q8, q9⟩, q10⟩ := q
    exact ⟨He.eqO_ok q5, He.eqO_ok q6, q7, q8, He.eqO_ok q4, b2, b3, q3⟩
  · have q := at_ hd
    unfold ckCls at q
    simp only [Bool.and_eq_true, List.all_eq_true, decide_eq_true_eq] at q
    obtain ⟨_, _, q1, q2, _⟩ := q
    cases t with
    | own e => exact q1 e (has_mem (K := K) ht)
    | tint => exact q2 .tint (by decide)
    | tbool => exact q2 .tbool (by decide)
    | tstr => exact q2 .tstr (by decide)
    | ttuple => exact q2 .ttuple (by decide)
    | tlist => exact q2 .tlist (by decide)
    | tval => exact q2 .tval (by decide)
  · have q := at_ hd
    unfold ckCls at q
    simp only [Bool.and_eq_true, List.all_eq_true, decide_eq_true_eq] at q
    exact q.2.2.2.2.1 n hn
  · have q := at_ hd
    unfold ckCls at q
    simp only [Bool.and_eq_true, List.all_eq_true] at q
    refine He.eqO_ok (q.2.2.2.2.2 f ?_)
    unfold fldKnown at hf
    exact List.contains_iff_mem.mp hf
  · exact PySem.W.mg_none_of X Gm (He.eqO_ok (List.all_eq_true.mp b1 x hx))
  · have m := PySem.mem_of_lookup hx
    unfold Lw.G at m
    simp only [List.mem_append, List.mem_map] at m
    rcases m with ⟨dd, _, e⟩ | ⟨cc, hc, e⟩ | ⟨kk, _, e⟩ | ⟨ii, _, e⟩
    · cases e
    · cases e
      have hh : (l.W K).has d = true := List.contains_iff_mem.mpr hc
      have q := at_ hh
      unfold ckCls at q
      simp only [Bool.and_eq_true] at q
      exact ⟨hh, PySem.W.mg_of X Gm (He.eqO_ok q.1.1), q.1.2.1⟩
    · cases e
    · cases e
  · have q := at_ hd
    unfold ckCls at q
    simp only [Bool.and_eq_true, decide_eq_true_eq, h1, if_true, List.all_eq_true] at q
    have q9 := q.2.1.2.2.2.2.2.2.2 e (has_mem (K := K) he)
    have q10 : PySem.W.exmOne K (.ref (cA K d)) (.ref (cA K e)) = some (d.under e) := by simpa [h2] using q9
    exact q10
  · have q := at_ hd
    have he := (plain_facts hp).1
    unfold ckCls at q
    simp only [Bool.and_eq_true, decide_eq_true_eq, he, if_true, hp, Bool.not_true, Bool.false_or] at q
    obtain ⟨_, ⟨_, _, _, q7, _, q9, q10, _⟩, _⟩ := q
    exact ⟨_, _, _, _, PySem.F.excBase_ValueError, q10, fun M h k => ⟨PySem.W.looks_subIn k q7, PySem.W.looks_typeIn k q9⟩⟩
  · have m := PySem.mem_of_lookup hx
    unfold Lw.G at m
    simp only [List.mem_append, List.mem_map] at m
    rcases m with ⟨dd, _, e⟩ | ⟨cc, hc, e⟩ | ⟨kk, hk, e⟩ | ⟨ii, _, e⟩
    · cases e
    · cases e
    · cases e
      have q := List.all_eq_true.mp b6 kk hk
      split at q
      · rename_i u hu
        obtain ⟨v, g1, g2⟩ := conB_ok (W := ⟨K, (l.W K).C, (l.W K).has⟩) q
        refine ⟨kk.2.2, v, u, ?_, PySem.W.mg_of X Gm hu, g1, g2⟩
        show ((l.ks.find? fun k => k.2.1 == kk.2.1).map (·.2.2)) = some kk.2.2
        rw [find_key nd hk]
        rfl
      · cases q
    · cases e
  · have m := PySem.mem_of_lookup hx
    unfold Lw.G at m
    simp only [List.mem_append, List.mem_map] at m
    rcases m with ⟨dd, _, e⟩ | ⟨cc, hc, e⟩ | ⟨kk, hk, e⟩ | ⟨p, hp, e⟩
    · cases e
    · cases e
    · cases e
    · cases e
      have q := List.all_eq_true.mp b8 p hp
      have hfi := hf
      unfold Lw.fns at hfi
      rw [Bool.and_eq_true] at hfi
      have qf := List.all_eq_true.mp hfi.2 p hp
      unfold ckIni at q
      rw [Bool.and_eq_true, Bool.and_eq_true] at q
      obtain ⟨q1, q0, q2⟩ := q
      refine ⟨q1, fun hx => ?_, fun hx => ?_⟩
      · cases hp2 : p.2 with
        | none =>
          rw [hp2] at q2
          simp only [Bool.and_eq_true, decide_eq_true_eq] at q2
          exact .inl ⟨q2.1.1, q2.2.1, He.eqO_ok q2.2.2.1, q2.2.2.2, q0⟩
        | some x =>
          rw [hp2] at q2 qf
          simp only at q2 qf
          split at q2
          · cases q2
          · rename_i d hd
            rw [hd] at qf
            simp only [hx, Bool.false_eq_true, if_false] at q2 qf
            simp only [Bool.and_eq_true] at q2
            obtain ⟨hm, hd2⟩ := find_some' hd
            obtain ⟨oc, od, osl, kV, doc, pm, an, cdv, ct, g1, g2⟩ := cq.def_ (d := ⟨d.at_, "__init__", Str.ofString d.qual, defArgs d.st, defBody d.st, defScope d.st⟩) (by unfold Lw.fn; exact List.mem_append_right _ (List.mem_map_of_mem hm))
            exact .inr ⟨_, _, _, _, d.st, d.N, ⟨q2.2.1, He.eqO_ok q2.1, q2.2.2, q0⟩, fun_mk g1 g2 (List.all_eq_true.mp b7 d hm), qf⟩
      · cases hp2 : p.2 with
        | none =>
          rw [hp2] at q2
          simp only [Bool.and_eq_true, decide_eq_true_eq, hx] at q2
          simp at q2
        | some x =>
          rw [hp2] at q2 qf
          simp only at q2 qf
          split at q2
          · cases q2
          · rename_i d hd
            rw [hd] at qf
            simp only [hx, if_true] at q2 qf
            simp only [Bool.and_eq_true, decide_eq_true_eq] at q2
            obtain ⟨hm, hd2⟩ := find_some' hd
            obtain ⟨oc, od, osl, kV, doc, pm, an, cdv, ct, g1, g2⟩ := cq.def_ (d := ⟨d.at_, "__init__", Str.ofString d.qual, defArgs d.st, defBody d.st, defScope d.st⟩) (by unfold Lw.fn; exact List.mem_append_right _ (List.mem_map_of_mem hm))
            obtain ⟨z1, ⟨z2, z3, z4, z5⟩, z6, z7, z8, z9, z10⟩ := q2
            refine ⟨_, _, _, _, d.st, d.N, ⟨oexB_ok z2, He.eqO_ok z3, z4, z5, q0⟩, He.eqO_ok z1, z6, fun_mk g1 g2 (List.all_eq_true.mp b7 d hm), qf, fun y hy => ?_⟩
            have hsay : (l.W K).has .SayError = true := z7
            have my : mg y = some (.ref (cA K .SayError)) := by
              have m := PySem.mem_of_lookup hy
              unfold Lw.G at m
              simp only [List.mem_append, List.mem_map] at m
              rcases m with ⟨dd, _, e⟩ | ⟨cc, hc, e⟩ | ⟨kk, hk, e⟩ | ⟨p, hp, e⟩
              · cases e
              · cases e
                have q := at_ hsay
                unfold ckCls at q
                simp only [Bool.and_eq_true] at q
                exact PySem.W.mg_of X Gm (He.eqO_ok q.1.1)
              · cases e
              · cases e
            refine ⟨my, z8, z9, ?_⟩
            split at z10
            · rename_i i hi
              rw [beq_iff_eq] at z10
              subst z10
              exact hi
            · cases z10
where
  find_key {α : Type} {f : α → String} : ∀ {ks : List α} {k : α}, (ks.map f).Nodup → k ∈ ks → (ks.find? fun z => f z == f k) = some k
    | [], _, _, h => nomatch h
    | z :: ks, k, nd, h => by
      rw [List.map_cons, List.nodup_cons] at nd
      rw [List.find?_cons]
      rcases List.mem_cons.mp h with e | e
      · subst e; simp
      · have : (f z == f k) = false := by
          rw [beq_eq_false_iff_ne]
          exact fun e2 => nd.1 (e2 ▸ List.mem_map_of_mem e)
        rw [this]
        exact find_key nd.2 e
theorem defAt_ok (c : SaysQ l.ck l.fn K) (nd : (l.ds.map (·.key)).Nodup) (hf : l.fns = true) {dd : DD} (hd : dd ∈ l.ds) : ∃ fd ps, DefAt (l.W K) l.G K dd.key (He.fAd K dd.at_) fd ps := by
  have ck := c.ck
  unfold Lw.ck at ck
  simp only [Bool.and_eq_true] at ck
  have q := List.all_eq_true.mp ck.2.1 dd hd
  rw [Bool.and_eq_true] at q
  unfold Lw.fns at hf
  rw [Bool.and_eq_true] at hf
  obtain ⟨oc, od, osl, kV, doc, pm, an, cdv, ct, g1, g2⟩ := c.def_ (d := ⟨dd.at_, Str.ofString dd.nm, Str.ofString dd.qual, defArgs dd.st, defBody dd.st, defScope dd.st⟩) (by unfold Lw.fn; exact List.mem_append_left _ (List.mem_map_of_mem hd))
  refine ⟨_, _, dd.g, Str.ofString dd.nm, Str.ofString dd.qual, dd.st, dd.N, ?_, fun_mk g1 g2 q.2, List.all_eq_true.mp hf.1 dd hd, rfl⟩
  show ((l.ds.find? fun d => d.key == dd.key).map (·.g)) = some dd.g
  rw [sOk.find_key nd hd]
  rfl
theorem defs_ok (X : K.In h) (Gm : h.Ns mainGlobals mg) (c : SaysQ l.ck l.fn K) (nd : (l.ds.map (·.key)).Nodup) (hf : l.fns = true) (x : Str) (f : String) (hx : l.G.lookup x = some (.fn f)) : DefOk (l.W K) l.G K mg x f := by
  have m := PySem.mem_of_lookup hx
  unfold Lw.G at m
  simp only [List.mem_append, List.mem_map] at m
  rcases m with ⟨dd, hd, e⟩ | ⟨cc, hc, e⟩ | ⟨kk, hk, e⟩ | ⟨p, hp, e⟩
  · cases e
    obtain ⟨hd, hn⟩ := List.mem_filter.mp hd
    obtain ⟨fd, ps, D⟩ := defAt_ok c nd hf hd
    have ck := c.ck
    unfold Lw.ck at ck
    simp only [Bool.and_eq_true] at ck
    have q := List.all_eq_true.mp ck.2.1 dd hd
    rw [Bool.and_eq_true] at q
    have em : dd.m = none := by simpa using hn
    have q1 := q.1
    rw [em] at q1
    simp only [Option.isSome_none, Bool.false_or] at q1
    refine ⟨_, fd, ps, ?_, D⟩
    have ea : He.fAd K dd.at_ = He.ga K (Str.ofString dd.x) := by unfold DD.at_; rw [em]; rfl
    rw [ea]
    exact PySem.W.mg_of X Gm (He.eqO_ok q1)
  · cases e
  · cases e
  · cases e
theorem mts_ok (c : SaysQ l.ck l.fn K) (nd : (l.ds.map (·.key)).Nodup) (hf : l.fns = true) (d : Cn) (m f : String) (hx : l.T.meth d m = some f) : MtOk (l.W K) l.G K d m f := by
  obtain ⟨p, hp, e⟩ := Option.map_eq_some_iff.mp hx
  obtain ⟨p1, p2⟩ := find_some' hp
  simp only [Bool.and_eq_true, beq_iff_eq] at p2
  obtain ⟨e1, e2⟩ := p2
  subst e1 e2 e
  have ck := c.ck
  unfold Lw.ck at ck
  simp only [Bool.and_eq_true] at ck
  have q := List.all_eq_true.mp ck.2.2.1.2.2.2 p p1
  unfold ckMt at q
  simp only [Bool.and_eq_true, Bool.not_eq_true'] at q
  obtain ⟨⟨q1, q2⟩, q3⟩ := q
  split at q3
  · cases q3
  · rename_i dd hd
    simp only [Bool.and_eq_true] at q3
    obtain ⟨h1, h2⟩ := find_some' hd
    obtain ⟨fd, ps, D⟩ := defAt_ok c nd hf h1
    rw [beq_iff_eq.mp h2] at D
    exact ⟨⟨q1, q2⟩, _, fd, ps, ⟨He.eqO_ok q3.1, q3.2.1, q3.2.2⟩, D⟩
end
/-- THE WALK: what mine computes at every script, the given law answers -/
theorem law_walk {l : PySem.W.OpenLaw} {q : Program} {loose : List Str} {XP : (Str → Option Value) → Heap → Prop} {d : DefRec} {n : Nat} (lw : Lw) (k : Nat)
    (hn : l.most = some 63) (hdf : d.params.defaults = []) (hr : Room (k + 2) callerA) (dn : d.name = ("law" : Str)) (nd : (lw.ds.map (·.key)).Nodup) (nk : (lw.ks.map (·.2.1)).Nodup) (hf : lw.fns = true) (hl : lw.G.lookup ("law" : Str) = some (.fn "law")) (hp : ∃ g, lw.T.fn "law" = some g ∧ g.np = 1)
    (hv : ∀ ns : List Int, ns.length ≤ 63 → (∀ z ∈ ns, Builtin.Int.intBits z ≤ 1048576) → ∃ h, Q.call lw.T k "law" [.ref 0] [.frz (ns.map D.int)] = .ok (.bl true) h) :
    PySem.W.WalkO q loose XP (hookQ n lw.ck lw.fn).says l.row.toRowW d [] (fun f vs => PySem.call f vs) := by
  refine Att.attach_callB hn hdf fun w s0 s1 mg mb fa o pm cd doc a vs ns G Yx ho hd hcd hmg hobj hints hlen hbits hg => ?_
  obtain ⟨K, KX, nl, c⟩ := Yx
  have S := sOk KX G.T.g c nk hf
  have DD := fun x f hx => defs_ok KX G.T.g c nd hf x f hx
  have MM := fun d m f hx => mts_ok c nd hf d m f hx
  obtain ⟨fa', fd, ps, m1, at_⟩ := DD "law" "law" hl
  obtain ⟨m2, _, m5, g, m6, m7⟩ := at_.facts
  rw [dn, m1] at hmg
  cases hmg
  obtain ⟨g', e1, e2⟩ := hp
  have e3 : g = g' := Option.some.inj (m6.symm.trans e1)
  subst e3
  have hlen1 : ps.length = 1 := m7.trans e2
  obtain ⟨x, rfl⟩ : ∃ x, ps = [x] := List.length_eq_one_iff.mp hlen1
  have base_ : ∀ base : Heap, K.In base → base.Ns mainGlobals mg → FnOk l.prog w K mg base (L2.CX l.prog w) (k + 2) fa fd [x] (spF ⟨K, (lw.W K).C, (lw.W K).has⟩ lw.T "law" k) := fun base _ _ => fns_ok S DD MM k "law" fa fd [x] at_
  refine law_call KX G.T.g G.T.b G.T.builtins G.T.nolimit hg hobj hints (Nat.le_trans hlen (by decide)) hr base_ (fun s u => L2.BindsTo.of_looks fun M => ?_) (fun H hO hS => ?_) fun H e s' z => ?_
  · rw [m5 [u] rfl]
    exact PySem.W.Looks.of_pure rfl
  · obtain ⟨h', hh⟩ := hv ns hlen hbits
    have hfz : ∃ ob, H a = some (.frz ob (.lst (ns.map V.int))) := by
      rcases hS with (hS | ⟨ob, hS⟩) | ⟨ob, its, n, hS, hc, _⟩
      · rcases hO a with z | ⟨o, xs, z⟩ <;> rw [z] at hS <;> cases hS
      · exact ⟨ob, hS⟩
      · exact absurd hc (nl _ _ hS)
    obtain ⟨ob, hfz⟩ := hfz
    have ints_rv : ∀ (r : List Addr) (H : Hp) (ns : List Int), Rvs ⟨K, (lw.W K).C, (lw.W K).has⟩ r H (ns.map D.int) (ns.map V.int) := fun r H ns => by
      induction ns with
      | nil => exact .nil
      | cons n ns ih => exact .cons (.int n) ih
    refine ⟨[a], [.frz (ns.map D.int)], [.ref 0], ⟨rfl, by simp, fun i b o h1 h2 => ?_⟩, .cons (.ref rfl) .nil, ?_⟩
    · cases i with
      | succ i => simp at h1
      | zero =>
        cases h1
        cases h2
        exact ⟨ob, _, hfz, ints_rv _ _ ns⟩
    · show Post _ _ _ _ _ _ (Q.call lw.T k "law" [.ref 0] [.frz (ns.map D.int)]) _
      rw [hh]
      intro r' H' v x m rv
      cases rv
      rfl
  · obtain ⟨_, _, _, _, _, _, _, _, _, _, _, _, z⟩ := z
    exact z
end Q

/-! my interpreter, step by step: frames without binders, for the simplifier -/
namespace Q
def getL : Ev → Nat → Option D
  | [], _ => none
  | x :: _, 0 => x
  | _ :: s, n + 1 => getL s n
theorem getL_eq : ∀ (s : Ev) (i : Nat), getL s i = (s[i]?).join
  | [], i => by simp [getL]
  | x :: s, 0 => by simp [getL]
  | x :: s, i + 1 => by simp only [getL, getL_eq s i, List.getElem?_cons_succ]
@[simp] theorem getL_zero (x : Option D) (s : Ev) : getL (x :: s) 0 = x := rfl
@[simp] theorem getL_succ (x : Option D) (s : Ev) (n : Nat) : getL (x :: s) (n + 1) = getL s n := rfl
def kVar (h : Hs) : Option D → R D
  | some d => .ok d h
  | none => .bad
@[simp] theorem kVar_some (h : Hs) (d : D) : kVar h (some d) = .ok d h := rfl
def kOpt (h : Hs) : Option D → R D
  | some d => .ok d h
  | none => .bad
@[simp] theorem kOpt_some (h : Hs) (d : D) : kOpt h (some d) = .ok d h := rfl
noncomputable section
variable (C : Cl) (s : Ev) (h : Hs)
def kTup : R (List D) → R D := fun r => r.bind fun ds h => .ok (.tup ds) h
def kLst : R (List D) → R D := fun r => r.bind fun ds h => .ok (.ref h.length) (h ++ [.lst ds])
def kDic (t : Bool) : R (List D) → R D := fun r => r.bind fun ds h => mkDic t ds h
def kBin1 (o : Bop) (b : Ex) : R D → R D := fun r => r.bind fun x h => (evE C b s h).bind fun y h => o.run x y h
def kBin2 (o : Bop) (x : D) : R D → R D := fun r => r.bind fun y h => o.run x y h
def kCmp1 (o : Cop) (b : Ex) : R D → R D := fun r => r.bind fun x h => (evE C b s h).bind fun y h => o.run x y h
def kCmp2 (o : Cop) (x : D) : R D → R D := fun r => r.bind fun y h => o.run x y h
def kChn1 (o p : Cop) (b c : Ex) : R D → R D := fun r => r.bind fun x h => (evE C b s h).bind fun y h => (o.run x y h).bind fun t h => chnD t (fun h => (evE C c s h).bind fun z h => p.run y z h) h
def kChn2 (o p : Cop) (x : D) (c : Ex) : R D → R D := fun r => r.bind fun y h => (o.run x y h).bind fun t h => chnD t (fun h => (evE C c s h).bind fun z h => p.run y z h) h
def kChn3 (p : Cop) (y : D) (c : Ex) : R D → R D := fun r => r.bind fun t h => chnD t (fun h => (evE C c s h).bind fun z h => p.run y z h) h
def kNeg : R D → R D := fun r => r.bind fun x h => negD x h
def kIsn (n : Bool) : R D → R D := fun r => r.bind fun x h => .ok (.bl (isN x != n)) h
def kIst (b n : Bool) : R D → R D := fun r => r.bind fun x h => .ok (.bl (isBl b x != n)) h
def kNot : R D → R D := fun r => r.bind fun x h => opt (tru h x) (fun c => .bl (!c)) h
def kNot2 (h : Hs) : Option Bool → R D := fun r => opt r (fun c => .bl (!c)) h
def kAnd (es : Exs) : R D → R D := fun r => r.bind fun x h => andD x (fun h => evAnd C es s h) h
def kOr (es : Exs) : R D → R D := fun r => r.bind fun x h => orD x (fun h => evOr C es s h) h
def kOrv (b : Ex) : R D → R D := fun r => r.bind fun x h => orvD x (fun h => evE C b s h) h
def kIte (a b : Ex) : R D → R D := fun r => r.bind fun x h => iteD x (fun h => evE C a s h) (fun h => evE C b s h) h
def kIte2 (a b : Ex) (h : Hs) : Option Bool → R D
  | some true => evE C a s h
  | some false => evE C b s h
  | none => .bad
def kSub1 (i : Ex) : R D → R D := fun r => r.bind fun x h => (evE C i s h).bind fun y h => getI x y h
def kSub2 (x : D) : R D → R D := fun r => r.bind fun y h => getI x y h
def kSlc1 (lo hi : Eo) : R D → R D := fun r => r.bind fun x h => (evO C lo s h).bind fun l h => (evO C hi s h).bind fun u h => slice x l u h
def kSlc2 (x : D) (hi : Eo) : R (Option Int) → R D := fun r => r.bind fun l h => (evO C hi s h).bind fun u h => slice x l u h
def kSlc3 (x : D) (l : Option Int) : R (Option Int) → R D := fun r => r.bind fun u h => slice x l u h
def kFld (f : String) : R D → R D := fun r => r.bind fun x h => fldD f x h
def kCall (f : String) : R (List D) → R D := fun r => r.bind fun ds h => C.call f ds h
def kMk (c : Cn) : R (List D) → R D := fun r => r.bind fun ds h => mkO c ds h
def kMth1 (m : String) (es : Exs) : R D → R D := fun r => r.bind fun x h => mthD C m x (fun f h => (evs C es s h).bind fun ds h => C.call f (x :: ds) h) h
def kMth2 (f : String) (x : D) : R (List D) → R D := fun r => r.bind fun ds h => C.call f (x :: ds) h
def kMthO (es : Exs) (x : D) (h : Hs) : Option String → R D
  | some f => kMth2 C f x (evs C es s h)
  | none => .bad
def kB (f : Bi) : R (List D) → R D := fun r => r.bind fun ds h => f.run ds h
def kBm1 (m : Bm) (es : Exs) : R D → R D := fun r => r.bind fun x h => bmD m x (fun h => (evs C es s h).bind fun ds h => m.run x ds h) h
def kBm2 (m : Bm) (x : D) (es : Exs) (h : Hs) (b : Bool) : R D := if b then (evs C es s h).bind fun ds h => m.run x ds h else .bad
def kBm3 (m : Bm) (x : D) : R (List D) → R D := fun r => r.bind fun ds h => m.run x ds h
def kIsi (ts : List Ty) : R D → R D := fun r => r.bind fun x h => opt (isTys h x ts) D.bl h
def kOptB (h : Hs) : Option Bool → R D := fun r => opt r D.bl h
def kJst : R (List D) → R D := fun r => r.bind fun ds h => jstD ds h
def kGget (x : String) : R D → R D := fun r => r.bind fun d h => gget C x d h
def kGin (x : String) (n : Bool) : R D → R D := fun r => r.bind fun d h => gin C x n d h
/-- a comprehension over what is walked -/
def kComp (e : Ex) (tg : Tg) (c : Eo) (own : List Nat) : R Walk → R D := fun r => r.bind fun w h => compE w (compG tg own (fun s h => evC C c s h) (fun s h => evE C e s h) s) h
def kCons1 (es : Exs) : R D → R (List D) := fun r => r.bind fun d h => (evs C es s h).bind fun ds h => .ok (d :: ds) h
def kCons2 (d : D) : R (List D) → R (List D) := fun r => r.bind fun ds h => .ok (d :: ds) h
def kTru : R D → R Bool := fun r => r.bind fun x h => truR x h
def kTru2 (h : Hs) : Option Bool → R Bool
  | some c => .ok c h
  | none => .bad
def kOptI : R D → R (Option Int) := fun r => r.bind fun d h => optI d h
variable {C s h}
@[simp] theorem evE_v (i : Nat) : evE C (.v i) s h = kVar h (getL s i) := by
  simp only [evE, getV, getL_eq]
  cases s[i]? with
  | none => rfl
  | some o => cases o <;> rfl
@[simp] theorem evE_k (d : D) : evE C (.k d) s h = .ok d h := by simp only [evE]
@[simp] theorem evE_g (x : String) : evE C (.g x) s h = kOpt h (C.T.con x) := by
  simp only [evE]
  cases C.T.con x <;> rfl
@[simp] theorem evE_tup (es : Exs) : evE C (.tup es) s h = kTup (evs C es s h) := by simp only [evE, kTup]
@[simp] theorem evE_lst (es : Exs) : evE C (.lst es) s h = kLst (evs C es s h) := by simp only [evE, kLst]
@[simp] theorem evE_dic (t : Bool) (es : Exs) : evE C (.dic t es) s h = kDic t (evs C es s h) := by simp only [evE, kDic]
@[simp] theorem evE_bin (o : Bop) (a b : Ex) : evE C (.bin o a b) s h = kBin1 C s o b (evE C a s h) := by simp only [evE, kBin1]
@[simp] theorem evE_neg (a : Ex) : evE C (.neg a) s h = kNeg (evE C a s h) := by simp only [evE, kNeg]
@[simp] theorem evE_cmp (o : Cop) (a b : Ex) : evE C (.cmp o a b) s h = kCmp1 C s o b (evE C a s h) := by simp only [evE, kCmp1]
@[simp] theorem evE_chn (o p : Cop) (a b c : Ex) : evE C (.chn o p a b c) s h = kChn1 C s o p b c (evE C a s h) := by simp only [evE, kChn1]
@[simp] theorem evE_isn (a : Ex) (n : Bool) : evE C (.isn a n) s h = kIsn n (evE C a s h) := by simp only [evE, kIsn]
@[simp] theorem evE_ist (a : Ex) (b n : Bool) : evE C (.ist a b n) s h = kIst b n (evE C a s h) := by simp only [evE, kIst]
@[simp] theorem evE_not (a : Ex) : evE C (.not a) s h = kNot (evE C a s h) := by simp only [evE, kNot]
@[simp] theorem evE_and (es : Exs) : evE C (.and es) s h = evAnd C es s h := by simp only [evE]
@[simp] theorem evE_or (es : Exs) : evE C (.or es) s h = evOr C es s h := by simp only [evE]
@[simp] theorem evAnd_one (e : Ex) : evAnd C (.cons e .nil) s h = evE C e s h := by simp only [evAnd]
@[simp] theorem evAnd_cons (e f : Ex) (es : Exs) : evAnd C (.cons e (.cons f es)) s h = kAnd C s (.cons f es) (evE C e s h) := by simp only [evAnd, kAnd]
@[simp] theorem evOr_one (e : Ex) : evOr C (.cons e .nil) s h = evE C e s h := by simp only [evOr]
@[simp] theorem evOr_cons (e f : Ex) (es : Exs) : evOr C (.cons e (.cons f es)) s h = kOr C s (.cons f es) (evE C e s h) := by simp only [evOr, kOr]
@[simp] theorem evE_orv (a b : Ex) : evE C (.orv a b) s h = kOrv C s b (evE C a s h) := by simp only [evE, kOrv]
@[simp] theorem evE_ite (c a b : Ex) : evE C (.ite c a b) s h = kIte C s a b (evE C c s h) := by simp only [evE, kIte]
@[simp] theorem evE_sub (a i : Ex) : evE C (.sub a i) s h = kSub1 C s i (evE C a s h) := by simp only [evE, kSub1]
@[simp] theorem evE_slc (a : Ex) (lo hi : Eo) : evE C (.slc a lo hi) s h = kSlc1 C s lo hi (evE C a s h) := by simp only [evE, kSlc1]
@[simp] theorem evE_fld (a : Ex) (f : String) : evE C (.fld a f) s h = kFld f (evE C a s h) := by simp only [evE, kFld]
@[simp] theorem evE_call (f : String) (es : Exs) : evE C (.call f es) s h = kCall C f (evs C es s h) := by simp only [evE, kCall]
@[simp] theorem evE_mk (c : Cn) (es : Exs) : evE C (.mk c es) s h = kMk c (evs C es s h) := by simp only [evE, kMk]
@[simp] theorem evE_mth (a : Ex) (m : String) (es : Exs) : evE C (.mth a m es) s h = kMth1 C s m es (evE C a s h) := by simp only [evE, kMth1]
@[simp] theorem evE_b (f : Bi) (es : Exs) : evE C (.b f es) s h = kB f (evs C es s h) := by simp only [evE, kB]
@[simp] theorem evE_bm (m : Bm) (a : Ex) (es : Exs) : evE C (.bm m a es) s h = kBm1 C s m es (evE C a s h) := by simp only [evE, kBm1]
@[simp] theorem evE_isi (a : Ex) (ts : List Ty) : evE C (.isi a ts) s h = kIsi ts (evE C a s h) := by simp only [evE, kIsi]
@[simp] theorem evE_gget (x : String) (a : Ex) : evE C (.gget x a) s h = kGget C x (evE C a s h) := by simp only [evE, kGget]
@[simp] theorem evE_gin (x : String) (a : Ex) (n : Bool) : evE C (.gin a x n) s h = kGin C x n (evE C a s h) := by simp only [evE, kGin]
@[simp] theorem evE_comp (e : Ex) (tg : Tg) (it : It) (c : Eo) (own : List Nat) : evE C (.comp e tg it c own) s h = kComp C s e tg c own (walk C it s h) := by simp only [evE, kComp]
@[simp] theorem evE_jst (es : Exs) : evE C (.jst es) s h = kJst (evs C es s h) := by simp only [evE, kJst]
@[simp] theorem evs_nil : evs C .nil s h = .ok [] h := by simp only [evs]
@[simp] theorem evs_cons (e : Ex) (es : Exs) : evs C (.cons e es) s h = kCons1 C s es (evE C e s h) := by simp only [evs, kCons1]
@[simp] theorem evO_none : evO C .none s h = .ok none h := by simp only [evO]
@[simp] theorem evO_some (e : Ex) : evO C (.some e) s h = kOptI (evE C e s h) := by simp only [evO, kOptI]
@[simp] theorem evC_none : evC C .none s h = .ok true h := by simp only [evC]
@[simp] theorem evC_some (e : Ex) : evC C (.some e) s h = kTru (evE C e s h) := by simp only [evC, kTru]
@[simp] theorem evT_eq (e : Ex) : evT C e s h = kTru (evE C e s h) := rfl
variable (x y : D) (ds : List D) (c : Cn) (fs : List D)
@[simp] theorem kTup_ok : kTup (.ok ds h) = .ok (.tup ds) h := rfl
@[simp] theorem kTup_exc : kTup (.exc c fs h) = .exc c fs h := rfl
@[simp] theorem kLst_ok : kLst (.ok ds h) = .ok (.ref h.length) (h ++ [.lst ds]) := rfl
@[simp] theorem kLst_exc : kLst (.exc c fs h) = .exc c fs h := rfl
@[simp] theorem kDic_ok (t : Bool) : kDic t (.ok ds h) = mkDic t ds h := rfl
@[simp] theorem kBin1_ok (o : Bop) (b : Ex) : kBin1 C s o b (.ok x h) = kBin2 o x (evE C b s h) := rfl
@[simp] theorem kBin1_exc (o : Bop) (b : Ex) : kBin1 C s o b (.exc c fs h) = .exc c fs h := rfl
@[simp] theorem kBin2_ok (o : Bop) : kBin2 o x (.ok y h) = o.run x y h := rfl
@[simp] theorem kBin2_exc (o : Bop) : kBin2 o x (.exc c fs h) = .exc c fs h := rfl
@[simp] theorem kCmp1_ok (o : Cop) (b : Ex) : kCmp1 C s o b (.ok x h) = kCmp2 o x (evE C b s h) := rfl
@[simp] theorem kCmp1_exc (o : Cop) (b : Ex) : kCmp1 C s o b (.exc c fs h) = .exc c fs h := rfl
@[simp] theorem kCmp2_ok (o : Cop) : kCmp2 o x (.ok y h) = o.run x y h := rfl
@[simp] theorem kCmp2_exc (o : Cop) : kCmp2 o x (.exc c fs h) = .exc c fs h := rfl
@[simp] theorem kChn1_ok (o p : Cop) (b e : Ex) : kChn1 C s o p b e (.ok x h) = kChn2 C s o p x e (evE C b s h) := rfl
@[simp] theorem kChn2_ok (o p : Cop) (e : Ex) : kChn2 C s o p x e (.ok y h) = kChn3 C s p y e (o.run x y h) := rfl
@[simp] theorem kChn3_t (p : Cop) (e : Ex) : kChn3 C s p y e (.ok (.bl true) h) = kCmp2 p y (evE C e s h) := rfl
@[simp] theorem kChn3_f (p : Cop) (e : Ex) : kChn3 C s p y e (.ok (.bl false) h) = .ok (.bl false) h := rfl
@[simp] theorem kNeg_ok (i : Int) : kNeg (.ok (.int i) h) = .ok (.int (-i)) h := rfl
@[simp] theorem kNeg_exc : kNeg (.exc c fs h) = .exc c fs h := rfl
@[simp] theorem kIsn_ok (n : Bool) : kIsn n (.ok x h) = .ok (.bl (isN x != n)) h := rfl
@[simp] theorem kIsn_exc (n : Bool) : kIsn n (.exc c fs h) = .exc c fs h := rfl
@[simp] theorem kIst_ok (b n : Bool) : kIst b n (.ok x h) = .ok (.bl (isBl b x != n)) h := rfl
@[simp] theorem kNot_ok : kNot (.ok x h) = kNot2 h (tru h x) := rfl
@[simp] theorem kNot_exc : kNot (.exc c fs h) = .exc c fs h := rfl
@[simp] theorem kNot2_some (b : Bool) : kNot2 h (some b) = .ok (.bl (!b)) h := rfl
@[simp] theorem kAnd_t (es : Exs) : kAnd C s es (.ok (.bl true) h) = evAnd C es s h := rfl
@[simp] theorem kAnd_f (es : Exs) : kAnd C s es (.ok (.bl false) h) = .ok (.bl false) h := rfl
theorem kAnd_b (es : Exs) (b : Bool) : kAnd C s es (.ok (.bl b) h) = if b = true then evAnd C es s h else .ok (.bl false) h := by cases b <;> rfl
@[simp] theorem kAnd_exc (es : Exs) : kAnd C s es (.exc c fs h) = .exc c fs h := rfl
@[simp] theorem kOr_t (es : Exs) : kOr C s es (.ok (.bl true) h) = .ok (.bl true) h := rfl
@[simp] theorem kOr_f (es : Exs) : kOr C s es (.ok (.bl false) h) = evOr C es s h := rfl
theorem kOr_b (es : Exs) (b : Bool) : kOr C s es (.ok (.bl b) h) = if b = true then .ok (.bl true) h else evOr C es s h := by cases b <;> rfl
@[simp] theorem kOr_exc (es : Exs) : kOr C s es (.exc c fs h) = .exc c fs h := rfl
@[simp] theorem kIte_ok (a b : Ex) : kIte C s a b (.ok x h) = kIte2 C s a b h (tru h x) := by
  show iteD x (fun h => evE C a s h) (fun h => evE C b s h) h = _
  unfold iteD
  cases tru h x with
  | none => rfl
  | some t => cases t <;> rfl
@[simp] theorem kIte2_t (a b : Ex) : kIte2 C s a b h (some true) = evE C a s h := rfl
@[simp] theorem kIte2_f (a b : Ex) : kIte2 C s a b h (some false) = evE C b s h := rfl
theorem kIte2_b (a b : Ex) (t : Bool) : kIte2 C s a b h (some t) = if t = true then evE C a s h else evE C b s h := by cases t <;> rfl
@[simp] theorem kSub1_ok (i : Ex) : kSub1 C s i (.ok x h) = kSub2 x (evE C i s h) := rfl
@[simp] theorem kSub1_exc (i : Ex) : kSub1 C s i (.exc c fs h) = .exc c fs h := rfl
@[simp] theorem kSub2_ok : kSub2 x (.ok y h) = getI x y h := rfl
@[simp] theorem kSub2_exc : kSub2 x (.exc c fs h) = .exc c fs h := rfl
@[simp] theorem kSlc1_ok (lo hi : Eo) : kSlc1 C s lo hi (.ok x h) = kSlc2 C s x hi (evO C lo s h) := rfl
@[simp] theorem kSlc2_ok (hi : Eo) (l : Option Int) : kSlc2 C s x hi (.ok l h) = kSlc3 x l (evO C hi s h) := rfl
@[simp] theorem kSlc3_ok (l u : Option Int) : kSlc3 x l (.ok u h) = slice x l u h := rfl
@[simp] theorem kFld_ok (f : String) : kFld f (.ok x h) = fldD f x h := rfl
@[simp] theorem kCall_ok (f : String) : kCall C f (.ok ds h) = C.call f ds h := rfl
@[simp] theorem kCall_exc (f : String) : kCall C f (.exc c fs h) = .exc c fs h := rfl
@[simp] theorem kMk_ok (d : Cn) : kMk d (.ok ds h) = mkO d ds h := rfl
@[simp] theorem kMth1_ok (m : String) (es : Exs) (d : Cn) : kMth1 C s m es (.ok (.obj d fs) h) = kMthO C s es (.obj d fs) h (C.T.meth d m) := by
  have q : kMth1 C s m es (.ok (.obj d fs) h) = (match C.T.meth d m with
      | some f => (evs C es s h).bind fun ds h => C.call f (D.obj d fs :: ds) h
      | none => .bad) := rfl
  rw [q]
  cases C.T.meth d m <;> rfl
@[simp] theorem kMthO_some (es : Exs) (f : String) : kMthO C s es x h (some f) = kMth2 C f x (evs C es s h) := rfl
@[simp] theorem kMth2_ok (f : String) : kMth2 C f x (.ok ds h) = C.call f (x :: ds) h := rfl
@[simp] theorem kMth2_exc (f : String) : kMth2 C f x (.exc c fs h) = .exc c fs h := rfl
@[simp] theorem kB_ok (f : Bi) : kB f (.ok ds h) = f.run ds h := rfl
@[simp] theorem kB_exc (f : Bi) : kB f (.exc c fs h) = .exc c fs h := rfl
@[simp] theorem kBm1_ok (m : Bm) (es : Exs) : kBm1 C s m es (.ok x h) = kBm2 C s m x es h (bmK m x h) := rfl
@[simp] theorem kBm2_t (m : Bm) (es : Exs) : kBm2 C s m x es h true = kBm3 m x (evs C es s h) := rfl
@[simp] theorem kBm3_ok (m : Bm) : kBm3 m x (.ok ds h) = m.run x ds h := rfl
@[simp] theorem kBm3_exc (m : Bm) : kBm3 m x (.exc c fs h) = .exc c fs h := rfl
@[simp] theorem kIsi_ok (ts : List Ty) : kIsi ts (.ok x h) = kOptB h (isTys h x ts) := rfl
@[simp] theorem kOptB_some (b : Bool) : kOptB h (some b) = .ok (.bl b) h := rfl
@[simp] theorem kJst_ok : kJst (.ok ds h) = jstD ds h := rfl
@[simp] theorem kGget_ok (z : String) : kGget C z (.ok x h) = gget C z x h := rfl
@[simp] theorem kGin_ok (z : String) (n : Bool) : kGin C z n (.ok x h) = gin C z n x h := rfl
@[simp] theorem kCons1_ok (es : Exs) : kCons1 C s es (.ok x h) = kCons2 x (evs C es s h) := rfl
@[simp] theorem kCons1_exc (es : Exs) : kCons1 C s es (.exc c fs h) = .exc c fs h := rfl
@[simp] theorem kCons2_ok : kCons2 x (.ok ds h) = .ok (x :: ds) h := rfl
@[simp] theorem kCons2_exc : kCons2 x (.exc c fs h) = .exc c fs h := rfl
@[simp] theorem kTru_ok : kTru (.ok x h) = kTru2 h (tru h x) := by
  show truR x h = _
  unfold truR
  cases tru h x <;> rfl
@[simp] theorem kTru_exc : kTru (.exc c fs h) = .exc c fs h := rfl
@[simp] theorem kTru2_some (b : Bool) : kTru2 h (some b) = .ok b h := rfl
@[simp] theorem kOptI_ok (i : Int) : kOptI (.ok (.int i) h) = .ok (some i) h := rfl
/-! operations -/
@[simp] theorem opt_some {α : Type} (a : α) (f : α → D) : opt (some a) f h = .ok (f a) h := rfl
@[simp] theorem run_add (i j : Int) : Bop.run .add (.int i) (.int j) h = .ok (.int (i + j)) h := rfl
@[simp] theorem run_sub (i j : Int) : Bop.run .sub (.int i) (.int j) h = .ok (.int (i - j)) h := rfl
@[simp] theorem run_lt (i j : Int) : Cop.run .lt (.int i) (.int j) h = .ok (.bl (decide (i < j))) h := rfl
@[simp] theorem run_le (i j : Int) : Cop.run .le (.int i) (.int j) h = .ok (.bl (decide (i ≤ j))) h := rfl
@[simp] theorem run_gt (i j : Int) : Cop.run .gt (.int i) (.int j) h = .ok (.bl (decide (j < i))) h := rfl
@[simp] theorem run_ge (i j : Int) : Cop.run .ge (.int i) (.int j) h = .ok (.bl (decide (j ≤ i))) h := rfl
@[simp] theorem run_eqI (i j : Int) : Cop.run .eq (.int i) (.int j) h = .ok (.bl (decide (i = j))) h := by
  have e : (i == j) = decide (i = j) := rfl
  simp [Cop.run, eqv, rsv, rsF, ddep, opt, deq, e]
@[simp] theorem run_neI (i j : Int) : Cop.run .ne (.int i) (.int j) h = .ok (.bl (!decide (i = j))) h := by
  have e : (i == j) = decide (i = j) := rfl
  simp [Cop.run, eqv, rsv, rsF, ddep, opt, deq, e]
@[simp] theorem run_eqS (i j : PySem.Str) : Cop.run .eq (.str i) (.str j) h = .ok (.bl (i == j)) h := by
  simp [Cop.run, eqv, rsv, rsF, ddep, opt, deq]
@[simp] theorem tru_bl (b : Bool) : tru h (.bl b) = some b := rfl
@[simp] theorem tru_int (i : Int) : tru h (.int i) = some (i != 0) := rfl
@[simp] theorem tru_non : tru h .non = some false := rfl
@[simp] theorem tru_tup (ds : List D) : tru h (.tup ds) = some (!ds.isEmpty) := rfl
theorem run_mul {i j : Int} (h1 : mulB i) (h2 : mulB j) : Bop.run .mul (.int i) (.int j) h = .ok (.int (i * j)) h := if_pos ⟨h1, h2⟩
theorem run_fdiv {i j : Int} (h1 : j ≠ 0) (h2 : divB j) : Bop.run .fdiv (.int i) (.int j) h = .ok (.int (i.fdiv j)) h := if_pos ⟨h1, h2⟩
theorem run_mod {i j : Int} (h1 : j ≠ 0) : Bop.run .mod (.int i) (.int j) h = .ok (.int (i.fmod j)) h := if_pos h1
theorem run_pow {i j : Int} (h1 : 0 ≤ j ∧ j ≤ 1000 ∧ i.natAbs < 1000) : Bop.run .pow (.int i) (.int j) h = .ok (.int (i ^ j.toNat)) h := if_pos h1
@[simp] theorem abs_int (i : Int) : Bi.run .abs [.int i] h = .ok (.int (if i < 0 then -i else i)) h := rfl
@[simp] theorem len_tup (ds : List D) : Bi.run .len [.tup ds] h = .ok (.int ds.length) h := rfl
@[simp] theorem isTys_nil : isTys h x [] = some false := rfl
end

/-! ### statements -/
noncomputable section
variable (C : Cl) (s : Ev) (h : Hs)
def kSet (i : Nat) : R D → SR := fun r => r.st s fun d h => .nx (s.set i (some d)) h
def kSetT (is : List Nat) : R D → SR := fun r => r.st s fun d h => setTR is d s h
def kPar1 (i j : Nat) (b : Ex) : R D → SR := fun r => r.st s fun x h => (evE C b s h).st s fun y h => .nx ((s.set i (some x)).set j (some y)) h
def kPar2 (i j : Nat) (x : D) : R D → SR := fun r => r.st s fun y h => .nx ((s.set i (some x)).set j (some y)) h
def kSetI1 (o i : Ex) : R D → SR := fun r => r.st s fun d h => (evE C o s h).st s fun x h => (evE C i s h).st s fun y h => setIR x y d s h
def kSetI2 (d : D) (i : Ex) : R D → SR := fun r => r.st s fun x h => (evE C i s h).st s fun y h => setIR x y d s h
def kSetI3 (d x : D) : R D → SR := fun r => r.st s fun y h => setIR x y d s h
def kEx : R D → SR := fun r => r.st s fun _ h => .nx s h
def kRet : R D → SR := fun r => r.st s fun d h => .rt d h
def kIf (a b : Bl) : R Bool → SR := fun r => r.st s fun t h => if t then exB C a s h else exB C b s h
/-- a while -/
def whE (c : Ex) (a : Bl) (s : Ev) (h : Hs) : SR := whU (fun s h => evT C c s h) (fun s h => exB C a s h) s h
/-- a for over things -/
def forE (tg : Tg) (a : Bl) (ok : Hs → Prop) (ds : List D) (s : Ev) (h : Hs) : SR := forL ok (forG tg (fun s h => exB C a s h)) ds s h
def kFor (tg : Tg) (a : Bl) : R Walk → SR := fun r => r.st s fun w h => forE C tg a w.ok w.items s h
def kRaise (c : Cn) : R (List D) → SR := fun r => r.st s fun ds h => raiseR c ds s h
def kTry (hs : Hds) : SR → SR := fun r => r.caught fun c fs s h => exH C hs c fs s h
def kThen (r : Bl) : SR → SR := fun x => x.then fun s h => exB C r s h
variable {C s h}
@[simp] theorem exS_pass : exS C .pass s h = .nx s h := by simp only [exS]
@[simp] theorem exS_brk : exS C .brk s h = .bk s h := by simp only [exS]
@[simp] theorem exS_cnt : exS C .cnt s h = .ct s h := by simp only [exS]
@[simp] theorem exS_retN : exS C .retN s h = .rt .non h := by simp only [exS]
@[simp] theorem exS_set (i : Nat) (e : Ex) : exS C (.set i e) s h = kSet s i (evE C e s h) := by simp only [exS, kSet]
@[simp] theorem exS_setT (is : List Nat) (e : Ex) : exS C (.setT is e) s h = kSetT s is (evE C e s h) := by simp only [exS, kSetT]
@[simp] theorem exS_par (i j : Nat) (a b : Ex) : exS C (.par i j a b) s h = kPar1 C s i j b (evE C a s h) := by simp only [exS, kPar1]
@[simp] theorem exS_setI (o i e : Ex) : exS C (.setI o i e) s h = kSetI1 C s o i (evE C e s h) := by simp only [exS, kSetI1]
@[simp] theorem exS_ex (e : Ex) : exS C (.ex e) s h = kEx s (evE C e s h) := by simp only [exS, kEx]
@[simp] theorem exS_ret (e : Ex) : exS C (.ret e) s h = kRet s (evE C e s h) := by simp only [exS, kRet]
@[simp] theorem exS_ite (c : Ex) (a b : Bl) : exS C (.ite c a b) s h = kIf C s a b (evT C c s h) := by simp only [exS, kIf]
@[simp] theorem exS_whl (c : Ex) (a : Bl) : exS C (.whl c a) s h = whE C c a s h := by simp only [exS, whE]
@[simp] theorem exS_for (tg : Tg) (it : It) (a : Bl) : exS C (.for tg it a) s h = kFor C s tg a (walk C it s h) := by simp only [exS, kFor, forE]
@[simp] theorem exS_raise (c : Cn) (es : Exs) : exS C (.raise c es) s h = kRaise s c (evs C es s h) := by simp only [exS, kRaise]
@[simp] theorem exS_try (a : Bl) (hs : Hds) : exS C (.try a hs) s h = kTry C hs (exB C a s h) := by simp only [exS, kTry]
@[simp] theorem exB_nil : exB C .nil s h = .nx s h := by simp only [exB]
@[simp] theorem exB_cons (x : Sm) (r : Bl) : exB C (.cons x r) s h = kThen C r (exS C x s h) := by simp only [exB, kThen]
variable (d x y : D) (ds : List D) (c : Cn) (fs : List D)
@[simp] theorem kSet_ok (i : Nat) : kSet s i (.ok d h) = .nx (s.set i (some d)) h := rfl
@[simp] theorem kSet_exc (i : Nat) : kSet s i (.exc c fs h) = .exc c fs s h := rfl
@[simp] theorem kSetT_ok (is : List Nat) : kSetT s is (.ok d h) = setTR is d s h := rfl
@[simp] theorem kPar1_ok (i j : Nat) (b : Ex) : kPar1 C s i j b (.ok x h) = kPar2 s i j x (evE C b s h) := rfl
@[simp] theorem kPar2_ok (i j : Nat) : kPar2 s i j x (.ok y h) = .nx ((s.set i (some x)).set j (some y)) h := rfl
@[simp] theorem kSetI1_ok (o i : Ex) : kSetI1 C s o i (.ok d h) = kSetI2 C s d i (evE C o s h) := rfl
@[simp] theorem kSetI2_ok (i : Ex) : kSetI2 C s d i (.ok x h) = kSetI3 s d x (evE C i s h) := rfl
@[simp] theorem kSetI3_ok : kSetI3 s d x (.ok y h) = setIR x y d s h := rfl
@[simp] theorem kEx_ok : kEx s (.ok d h) = .nx s h := rfl
@[simp] theorem kEx_exc : kEx s (.exc c fs h) = .exc c fs s h := rfl
@[simp] theorem kRet_ok : kRet s (.ok d h) = .rt d h := rfl
@[simp] theorem kRet_exc : kRet s (.exc c fs h) = .exc c fs s h := rfl
@[simp] theorem kIf_t (a b : Bl) : kIf C s a b (.ok true h) = exB C a s h := rfl
@[simp] theorem kIf_f (a b : Bl) : kIf C s a b (.ok false h) = exB C b s h := rfl
theorem kIf_b (a b : Bl) (t : Bool) : kIf C s a b (.ok t h) = if t = true then exB C a s h else exB C b s h := rfl
@[simp] theorem kIf_exc (a b : Bl) : kIf C s a b (.exc c fs h) = .exc c fs s h := rfl
@[simp] theorem kFor_ok (tg : Tg) (a : Bl) (w : Walk) : kFor C s tg a (.ok w h) = forE C tg a w.ok w.items s h := rfl
@[simp] theorem kRaise_ok : kRaise s c (.ok ds h) = raiseR c ds s h := rfl
@[simp] theorem kTry_nx (hs : Hds) : kTry C hs (.nx s h) = .nx s h := rfl
@[simp] theorem kTry_rt (hs : Hds) : kTry C hs (.rt d h) = .rt d h := rfl
@[simp] theorem kTry_bk (hs : Hds) : kTry C hs (.bk s h) = .bk s h := rfl
@[simp] theorem kTry_ct (hs : Hds) : kTry C hs (.ct s h) = .ct s h := rfl
@[simp] theorem kTry_exc (hs : Hds) : kTry C hs (.exc c fs s h) = exH C hs c fs s h := rfl
@[simp] theorem kThen_nx (r : Bl) : kThen C r (.nx s h) = exB C r s h := rfl
@[simp] theorem kThen_rt (r : Bl) : kThen C r (.rt d h) = .rt d h := rfl
@[simp] theorem kThen_bk (r : Bl) : kThen C r (.bk s h) = .bk s h := rfl
@[simp] theorem kThen_ct (r : Bl) : kThen C r (.ct s h) = .ct s h := rfl
@[simp] theorem kThen_exc (r : Bl) : kThen C r (.exc c fs s h) = .exc c fs s h := rfl
@[simp] theorem fin_nx : SR.fin (.nx s h) = .ok .non h := rfl
@[simp] theorem fin_rt : SR.fin (.rt d h) = .ok d h := rfl
@[simp] theorem fin_exc : SR.fin (.exc c fs s h) = .exc c fs h := rfl
/-- a while, once more -/
def kWh (C : Cl) (c : Ex) (a : Bl) (s : Ev) : R Bool → Prop := fun _ => True
theorem whE_f {e : Ex} {a : Bl} {h2 : Hs} (q : evT C e s h = .ok false h2) : whE C e a s h = .nx s h2 := by
  unfold whE; rw [whU_eq]; simp only [q]
theorem whE_t {e : Ex} {a : Bl} {h2 h3 : Hs} {s2 : Ev} (q : evT C e s h = .ok true h2) (q2 : exB C a s h2 = .nx s2 h3) : whE C e a s h = whE C e a s2 h3 := by
  unfold whE; rw [whU_eq]; simp only [q, q2]
theorem whE_ct {e : Ex} {a : Bl} {h2 h3 : Hs} {s2 : Ev} (q : evT C e s h = .ok true h2) (q2 : exB C a s h2 = .ct s2 h3) : whE C e a s h = whE C e a s2 h3 := by
  unfold whE; rw [whU_eq]; simp only [q, q2]
theorem whE_bk {e : Ex} {a : Bl} {h2 h3 : Hs} {s2 : Ev} (q : evT C e s h = .ok true h2) (q2 : exB C a s h2 = .bk s2 h3) : whE C e a s h = .nx s2 h3 := by
  unfold whE; rw [whU_eq]; simp only [q, q2]
theorem whE_rt {e : Ex} {a : Bl} {h2 h3 : Hs} {d : D} (q : evT C e s h = .ok true h2) (q2 : exB C a s h2 = .rt d h3) : whE C e a s h = .rt d h3 := by
  unfold whE; rw [whU_eq]; simp only [q, q2]
theorem forE_nil {tg : Tg} {a : Bl} {ok : Hs → Prop} (q : ok h) : forE C tg a ok [] s h = .nx s h := by
  unfold forE forL; rw [if_pos q]
theorem forE_nx {tg : Tg} {a : Bl} {ok : Hs → Prop} {d : D} {ds : List D} {s2 s3 : Ev} {h3 : Hs} (q : ok h) (q2 : asg tg d s = some s2) (q3 : exB C a s2 h = .nx s3 h3) : forE C tg a ok (d :: ds) s h = forE C tg a ok ds s3 h3 := by
  unfold forE; rw [forL, if_pos q]; simp only [forG, q2, q3]
theorem forE_ct {tg : Tg} {a : Bl} {ok : Hs → Prop} {d : D} {ds : List D} {s2 s3 : Ev} {h3 : Hs} (q : ok h) (q2 : asg tg d s = some s2) (q3 : exB C a s2 h = .ct s3 h3) : forE C tg a ok (d :: ds) s h = forE C tg a ok ds s3 h3 := by
  unfold forE; rw [forL, if_pos q]; simp only [forG, q2, q3]
theorem forE_bk {tg : Tg} {a : Bl} {ok : Hs → Prop} {d : D} {ds : List D} {s2 s3 : Ev} {h3 : Hs} (q : ok h) (q2 : asg tg d s = some s2) (q3 : exB C a s2 h = .bk s3 h3) : forE C tg a ok (d :: ds) s h = .nx s3 h3 := by
  unfold forE; rw [forL, if_pos q]; simp only [forG, q2, q3]
theorem forE_rt {tg : Tg} {a : Bl} {ok : Hs → Prop} {d : D} {ds : List D} {s2 : Ev} {h3 : Hs} {v : D} (q : ok h) (q2 : asg tg d s = some s2) (q3 : exB C a s2 h = .rt v h3) : forE C tg a ok (d :: ds) s h = .rt v h3 := by
  unfold forE; rw [forL, if_pos q]; simp only [forG, q2, q3]
end
theorem call_eq {T : Tab} {k : Nat} {f : String} {g : Fn} {ds : List D} {h : Hs} (hg : T.fn f = some g) (hn : ds.length = g.np) : call T (k + 1) f ds h = (exB ⟨T, call T k⟩ g.body (start g.ns ds) h).fin := by
  simp only [call, hg, hn, if_true]
end Q
namespace Q
noncomputable section
variable {h : Hs} {n : Nat} {xs : List D}
theorem len_frz (q : h[n]? = some (.frz xs)) : Bi.run .len [.ref n] h = .ok (.int xs.length) h := by simp only [Bi.run, q]
theorem len_lst (q : h[n]? = some (.lst xs)) : Bi.run .len [.ref n] h = .ok (.int xs.length) h := by simp only [Bi.run, q]
theorem getI_frz (q : h[n]? = some (.frz xs)) (i : Int) : getI (.ref n) (.int i) h = opt (atI xs i) id h := by simp only [getI, q]
theorem getI_lst (q : h[n]? = some (.lst xs)) (i : Int) : getI (.ref n) (.int i) h = opt (atI xs i) id h := by simp only [getI, q]
@[simp] theorem getI_tup (xs : List D) (i : Int) : getI (.tup xs) (.int i) h = opt (atI xs i) id h := rfl
theorem atI_nat {α : Type} {xs : List α} {i : Int} (h0 : 0 ≤ i) (h1 : i < xs.length) : atI xs i = some (xs[i.toNat]'(by omega)) := by
  unfold atI ixN
  rw [if_pos h0, if_pos h1]
  simp
@[simp] theorem atI_zero {α : Type} (x : α) (xs : List α) : atI (x :: xs) 0 = some x := by
  rw [atI_nat (by omega) (by simp <;> omega)]; rfl
@[simp] theorem atI_one {α : Type} (x y : α) (xs : List α) : atI (x :: y :: xs) 1 = some y := by
  rw [atI_nat (by omega) (by simp <;> omega)]; rfl
@[simp] theorem id_D (x : D) : (id x : D) = x := rfl
end
end Q
namespace Q
noncomputable section
/-! ### walks, comprehensions, clauses, lists -/
section
variable (C : Cl) (s : Ev) (h : Hs)
def kSq : R D → R Walk := fun r => r.bind fun d h => walkOf (walkSq h d) h
def kWalk (h : Hs) : Option Walk → R Walk
  | some w => .ok w h
  | none => .bad
def kR1 : R D → R Walk := fun r => r.bind fun x h => rng1 x h
def kR2 (b : Ex) : R D → R Walk := fun r => r.bind fun x h => (evE C b s h).bind fun y h => rng2 x y h
def kR2' (x : D) : R D → R Walk := fun r => r.bind fun y h => rng2 x y h
def kEnum : R D → R Walk := fun r => r.bind fun d h => walkOf (enumOf h d) h
def kZip1 (b : Ex) : R D → R Walk := fun r => r.bind fun x h => (evE C b s h).bind fun y h => walkOf (zipOf h x y) h
def kZip2 (x : D) : R D → R Walk := fun r => r.bind fun y h => walkOf (zipOf h x y) h
def kSui (i : Option Nat) : SR → SR
  | .nx s h => .nx (match i with
    | some i => s.set i none
    | none => s) h
  | .rt d h => .rt d h
  | _ => .bad
def putX (i : Option Nat) (d : D) (s : Ev) : Ev := match i with
  | some i => s.set i (some d)
  | none => s
def kH (i : Option Nat) (b : Bl) (r : Hds) (c : Cn) (fs : List D) (t : Bool) : SR := if t then kSui i (exB C b (putX i (.obj c fs) s) h) else exH C r c fs s h
variable {C s h}
@[simp] theorem walk_sq (e : Ex) : walk C (.sq e) s h = kSq (evE C e s h) := by simp only [walk, kSq]
@[simp] theorem walk_r1 (e : Ex) : walk C (.r1 e) s h = kR1 (evE C e s h) := by simp only [walk, kR1]
@[simp] theorem walk_r2 (a b : Ex) : walk C (.r2 a b) s h = kR2 C s b (evE C a s h) := by simp only [walk, kR2]
@[simp] theorem walk_enum (e : Ex) : walk C (.enum e) s h = kEnum (evE C e s h) := by simp only [walk, kEnum]
@[simp] theorem walk_zip (a b : Ex) : walk C (.zip a b) s h = kZip1 C s b (evE C a s h) := by simp only [walk, kZip1]
variable (x y : D) (c : Cn) (fs : List D)
@[simp] theorem kSq_ok : kSq (.ok x h) = kWalk h (walkSq h x) := by
  show walkOf (walkSq h x) h = _
  cases walkSq h x <;> rfl
@[simp] theorem kSq_exc : kSq (.exc c fs h) = .exc c fs h := rfl
@[simp] theorem kWalk_some (w : Walk) : kWalk h (some w) = .ok w h := rfl
@[simp] theorem kR1_ok : kR1 (.ok x h) = rng1 x h := by cases x <;> rfl
@[simp] theorem kR2_ok (b : Ex) : kR2 C s b (.ok x h) = kR2' x (evE C b s h) := rfl
@[simp] theorem kR2'_ok : kR2' x (.ok y h) = rng2 x y h := by cases y <;> rfl
@[simp] theorem kEnum_ok : kEnum (.ok x h) = kWalk h (enumOf h x) := by
  show walkOf (enumOf h x) h = _
  cases enumOf h x <;> rfl
@[simp] theorem kZip1_ok (b : Ex) : kZip1 C s b (.ok x h) = kZip2 x (evE C b s h) := rfl
@[simp] theorem kZip2_ok : kZip2 x (.ok y h) = kWalk h (zipOf h x y) := by
  show walkOf (zipOf h x y) h = _
  cases zipOf h x y <;> rfl
theorem walkSq_lst {n : Nat} {xs : List D} (q : h[n]? = some (.lst xs)) : walkSq h (.ref n) = some ⟨xs, fun h => h[n]? = some (.lst xs)⟩ := by simp only [walkSq, q]
theorem walkSq_frz {n : Nat} {xs : List D} (q : h[n]? = some (.frz xs)) : walkSq h (.ref n) = some ⟨xs, fun h => h[n]? = some (.frz xs)⟩ := by simp only [walkSq, q]
@[simp] theorem walkSq_tup (xs : List D) : walkSq h (.tup xs) = some ⟨xs, fun _ => True⟩ := rfl
theorem rng1_ok {j : Int} (q : small j) : rng1 (.int j) h = .ok ⟨rangeL 0 j.toNat, fun _ => True⟩ h := by simp only [rng1, q, if_true]
theorem rng2_ok {i j : Int} (q : small i) (q2 : small j) : rng2 (.int i) (.int j) h = .ok ⟨rangeL i (j - i).toNat, fun _ => True⟩ h := by simp only [rng2, q, q2, and_self, if_true]
@[simp] theorem exH_nil : exH C .nil c fs s h = .exc c fs s h := by simp only [exH]
@[simp] theorem exH_cons (d : Cn) (i : Option Nat) (b : Bl) (r : Hds) : exH C (.cons d i b r) c fs s h = kH C s h i b r c fs (c.under d) := by
  simp only [exH, kH, suite]
  split
  · cases i with
    | none =>
      simp only [putX]
      cases exB C b s h <;> rfl
    | some i =>
      simp only [putX]
      cases exB C b (s.set i (some (.obj c fs))) h <;> rfl
  · rfl
@[simp] theorem kH_t (i : Option Nat) (b : Bl) (r : Hds) : kH C s h i b r c fs true = kSui i (exB C b (putX i (.obj c fs) s) h) := rfl
@[simp] theorem kH_f (i : Option Nat) (b : Bl) (r : Hds) : kH C s h i b r c fs false = exH C r c fs s h := rfl
@[simp] theorem putX_some (i : Nat) (d : D) : putX (some i) d s = s.set i (some d) := rfl
@[simp] theorem putX_none (d : D) : putX none d s = s := rfl
@[simp] theorem kSui_some (i : Nat) : kSui (some i) (.nx s h) = .nx (s.set i none) h := rfl
@[simp] theorem kSui_none : kSui none (.nx s h) = .nx s h := rfl
@[simp] theorem kSui_rt (i : Option Nat) (d : D) : kSui i (.rt d h) = .rt d h := rfl
/-- a comprehension that changes nothing, without a condition -/
theorem kComp_map {e : Ex} {tg : Tg} {own : List Nat} {w : Walk} (f : D → D) (hok : w.ok h) (he : ∀ d ∈ w.items, ∃ s2, asg tg d (wipe s own) = some s2 ∧ evE C e s2 h = .ok (f d) h) (hl : w.items.length ≤ SZ) :
    kComp C s e tg .none own (.ok w h) = .ok (.ref h.length) (h ++ [.lst (w.items.map f)]) := by
  have go : ∀ l : List D, (∀ d ∈ l, ∃ s2, asg tg d (wipe s own) = some s2 ∧ evE C e s2 h = .ok (f d) h) → compL w.ok (compG tg own (fun s h => evC C .none s h) (fun s h => evE C e s h) s) l h = .ok (l.map f) h := by
    intro l
    induction l with
    | nil => intro _; unfold compL; rw [if_pos hok]; rfl
    | cons d l ih =>
      intro hd
      obtain ⟨s2, h1, h2⟩ := hd d List.mem_cons_self
      unfold compL
      rw [if_pos hok]
      have hg : compG tg own (fun s h => evC C .none s h) (fun s h => evE C e s h) s d h = .ok (some (f d)) h := by
        simp only [compG, h1, evC_none, h2]
      rw [hg]
      simp only
      rw [ih fun d hd' => hd d (List.mem_cons_of_mem _ hd')]
      rfl
  show compE w _ h = _
  unfold compE
  rw [go w.items he]
  simp only [hl, if_true]
/-- .. with a condition -/
theorem kComp_filter {e q : Ex} {tg : Tg} {own : List Nat} {w : Walk} (f : D → D) (p : D → Bool) (hok : w.ok h) (he : ∀ d ∈ w.items, ∃ s2, asg tg d (wipe s own) = some s2 ∧ evT C q s2 h = .ok (p d) h ∧ (p d = true → evE C e s2 h = .ok (f d) h)) (hl : w.items.length ≤ SZ) :
    kComp C s e tg (.some q) own (.ok w h) = .ok (.ref h.length) (h ++ [.lst ((w.items.filter p).map f)]) := by
  have go : ∀ l : List D, (∀ d ∈ l, ∃ s2, asg tg d (wipe s own) = some s2 ∧ evT C q s2 h = .ok (p d) h ∧ (p d = true → evE C e s2 h = .ok (f d) h)) → compL w.ok (compG tg own (fun s h => evC C (.some q) s h) (fun s h => evE C e s h) s) l h = .ok ((l.filter p).map f) h := by
    intro l
    induction l with
    | nil => intro _; unfold compL; rw [if_pos hok]; rfl
    | cons d l ih =>
      intro hd
      obtain ⟨s2, h1, h2, h3⟩ := hd d List.mem_cons_self
      have h2' : evC C (.some q) s2 h = .ok (p d) h := by simpa using h2
      unfold compL
      rw [if_pos hok]
      cases hp : p d with
      | true =>
        have hg : compG tg own (fun s h => evC C (.some q) s h) (fun s h => evE C e s h) s d h = .ok (some (f d)) h := by
          simp only [compG, h1, h2', hp, h3 hp]
        rw [hg]
        simp only
        rw [ih fun d hd' => hd d (List.mem_cons_of_mem _ hd')]
        simp [hp]
      | false =>
        have hg : compG tg own (fun s h => evC C (.some q) s h) (fun s h => evE C e s h) s d h = .ok none h := by
          simp only [compG, h1, h2', hp]
        rw [hg]
        simp only
        rw [ih fun d hd' => hd d (List.mem_cons_of_mem _ hd')]
        simp [hp]
  show compE w _ h = _
  unfold compE
  rw [go w.items he]
  simp only [hl, if_true]
theorem setI_lst {n : Nat} {xs : List D} {v : D} {i : Int} (q : h[n]? = some (.lst xs)) (i0 : 0 ≤ i) (i1 : i < xs.length) : setI (.ref n) (.int i) v h = some (h.set n (.lst (xs.set i.toNat v))) := by
  simp only [setI, q, ixN, i0, i1, if_true, Option.map_some]
theorem setIR_some {h2 : Hs} {v : D} (q : setI x y v h = some h2) : setIR x y v s h = .nx s h2 := by simp only [setIR, q]
theorem bmK_lst {n : Nat} {xs : List D} (f : Bm) (q : h[n]? = some (.lst xs)) : bmK f (.ref n) h = (f.rk == .l) := by simp only [bmK, q]
theorem append_lst {n : Nat} {xs : List D} {d : D} (q : h[n]? = some (.lst xs)) (l : xs.length < SZ) : Bm.run .append (.ref n) [d] h = .ok .non (h.set n (.lst (xs ++ [d]))) := by simp only [Bm.run, q, l, if_true]
theorem setTR_tup {is : List Nat} {ds : List D} (l : ds.length = is.length) : setTR is (.tup ds) s h = .nx (setAll s is ds) h := by
  simp only [setTR, unp, itemsOf, l, if_true]
theorem setTR_lst {is : List Nat} {n : Nat} {ds : List D} (q : h[n]? = some (.lst ds)) (l : ds.length = is.length) : setTR is (.ref n) s h = .nx (setAll s is ds) h := by
  simp only [setTR, unp, itemsOf, q, l, if_true]
@[simp] theorem rk_append : Bm.rk .append = .l := rfl
@[simp] theorem setAll_nil (ds : List D) : setAll s [] ds = s := by simp [setAll]
@[simp] theorem setAll_cons (i : Nat) (is : List Nat) (d : D) (ds : List D) : setAll s (i :: is) (d :: ds) = setAll (s.set i (some d)) is ds := rfl
theorem raise_plain {d : Cn} {m : PySem.Str} (q : d.plainExc = true) : raiseR d [.str m] s h = .exc d [] s h := by
  simp only [raiseR, excO, q, if_true]
end
end
end Q
namespace Q
@[simp] theorem cn_beq (a b : Cn) : (a == b) = decide (a = b) := rfl
@[simp] theorem ty_beq (a b : Ty) : (a == b) = decide (a = b) := rfl
@[simp] theorem rk_beq (a b : Rk) : (a == b) = decide (a = b) := rfl
end Q

/-! sizes of numbers, small laws of whole numbers -/
namespace Q
/-- a number of at most n bits -/
@[irreducible] def Bd (n : Nat) (i : Int) : Prop := i.natAbs < 2 ^ n
theorem Bd.def {n : Nat} {i : Int} : Bd n i ↔ i.natAbs < 2 ^ n := by unfold Bd; exact Iff.rfl
theorem Bd.mono {n m : Nat} {i : Int} (h : Bd n i) (l : n ≤ m) : Bd m i := by
  rw [Bd.def] at h ⊢
  exact Nat.lt_of_lt_of_le h (Nat.pow_le_pow_right (by decide) l)
theorem Bd.log {n : Nat} {i : Int} (h : Bd n i) (hn : 0 < n) : i.natAbs.log2 < n := by
  rw [Bd.def] at h
  by_cases e : i.natAbs = 0
  · rw [e]; simpa using hn
  · exact (Nat.log2_lt e).mpr h
theorem Bd.mulB {n : Nat} {i : Int} (h : Bd n i) (l : n ≤ 60000000) : mulB i := by
  unfold Q.mulB
  have := (h.mono (Nat.le_succ n)).log (Nat.succ_pos n)
  by_cases e : n = 0
  · subst e
    rw [Bd.def] at h
    have e0 : i.natAbs = 0 := by omega
    rw [e0]; decide
  · have := h.log (Nat.pos_of_ne_zero e); omega
theorem Bd.divB {n : Nat} {i : Int} (h : Bd n i) (l : n ≤ 9000) (h0 : 0 < n) : divB i := by
  unfold Q.divB
  have := h.log h0
  omega
theorem Bd.strB {n : Nat} {i : Int} (h : Bd n i) (l : n ≤ 1900) (h0 : 0 < n) : strB i := by
  unfold Q.strB
  have := h.log h0
  omega
theorem Bd.of {n : Nat} {i : Int} (h : i.natAbs < 2 ^ n) : Bd n i := Bd.def.mpr h
theorem Bd.mul {n m : Nat} {i j : Int} (a : Bd n i) (b : Bd m j) : Bd (n + m) (i * j) := by
  rw [Bd.def] at *
  rw [Int.natAbs_mul, Nat.pow_add]
  by_cases e : j.natAbs = 0
  · rw [e, Nat.mul_zero]; exact Nat.mul_pos (Nat.pow_pos (by decide)) (Nat.pow_pos (by decide))
  · calc i.natAbs * j.natAbs < 2 ^ n * j.natAbs := Nat.mul_lt_mul_of_pos_right a (Nat.pos_of_ne_zero e)
      _ ≤ 2 ^ n * 2 ^ m := Nat.mul_le_mul_left _ (Nat.le_of_lt b)
theorem Bd.add {n m : Nat} {i j : Int} (a : Bd n i) (b : Bd m j) : Bd (max n m + 1) (i + j) := by
  have a' := a.mono (Nat.le_max_left n m)
  have b' := b.mono (Nat.le_max_right n m)
  rw [Bd.def] at *
  rw [Nat.pow_succ]
  have := Int.natAbs_add_le i j
  omega
theorem Bd.neg {n : Nat} {i : Int} (a : Bd n i) : Bd n (-i) := by
  rw [Bd.def] at *
  rw [Int.natAbs_neg]; exact a
theorem Bd.sub {n m : Nat} {i j : Int} (a : Bd n i) (b : Bd m j) : Bd (max n m + 1) (i - j) := by
  rw [Int.sub_eq_add_neg]
  exact a.add b.neg
theorem Bd.le {n : Nat} {i j : Int} (a : Bd n i) (l : j.natAbs ≤ i.natAbs) : Bd n j := by
  rw [Bd.def] at *
  omega
theorem Bd.fmod {n : Nat} {j : Int} (i : Int) (a : Bd n j) (h : 0 < j) : Bd n (i.fmod j) := by
  have h1 := Int.fmod_nonneg_of_pos i h
  have h2 := Int.fmod_lt_of_pos i h
  exact a.le (by omega)
theorem natAbs_fdiv_le (i j : Int) (hj : 0 < j) : (i.fdiv j).natAbs ≤ i.natAbs := by
  rw [Int.fdiv_eq_ediv_of_nonneg _ (by omega)]
  exact Int.natAbs_ediv_le_natAbs i j
theorem Bd.fdiv {n : Nat} {i : Int} (a : Bd n i) {j : Int} (hj : 0 < j) : Bd n (i.fdiv j) := a.le (natAbs_fdiv_le i j hj)
theorem Bd.bits {i : Int} {n : Nat} (h : PySem.Builtin.Int.intBits i ≤ n) : Bd (n + 1) i := by
  unfold PySem.Builtin.Int.intBits at h
  apply Bd.of
  split at h
  · rename_i e
    have : i.natAbs = 0 := by first | omega | simpa using e
    rw [this]; exact Nat.pow_pos (by decide)
  · have : i.natAbs < 2 ^ (i.natAbs.log2 + 1) := Nat.lt_log2_self
    exact Nat.lt_of_lt_of_le this (Nat.pow_le_pow_right (by decide) (by omega))
end Q

namespace Q
def f__wall : Fn := ⟨1, 1, (.cons (.whl (.k (.bl true)) (.cons .pass .nil)) .nil)⟩
def f_sayings_put_in : Fn := ⟨3, 5, (.cons (.ite (.isi (.v 0) [.own .Letter]) (.cons (.ret (.ite (.cmp .eq (.fld (.v 0) "name") (.k (.str (S "p")))) (.v 1) (.v 2))) .nil) .nil) (.cons (.ite (.isi (.v 0) [.own .Not]) (.cons (.ret (.mk .Not (.cons (.call "sayings.put_in" (.cons (.fld (.v 0) "part") (.cons (.v 1) (.cons (.v 2) .nil)))) .nil))) .nil) .nil) (.cons (.ite (.isi (.v 0) [.own .Fold]) (.cons (.set 3 (.call "sayings.put_in" (.cons (.fld (.v 0) "one") (.cons (.v 1) (.cons (.v 2) .nil))))) (.cons (.set 4 (.call "sayings.put_in" (.cons (.fld (.v 0) "other") (.cons (.v 1) (.cons (.v 2) .nil))))) (.cons (.ite (.isi (.v 0) [.own .More]) (.cons (.ret (.mk .More (.cons (.v 3) (.cons (.v 4) .nil)))) .nil) .nil) (.cons (.ite (.isi (.v 0) [.own .Less]) (.cons (.ret (.mk .Less (.cons (.v 3) (.cons (.v 4) .nil)))) .nil) .nil) (.cons (.ite (.isi (.v 0) [.own .Greater]) (.cons (.ret (.mk .Greater (.cons (.v 3) (.cons (.v 4) .nil)))) .nil) .nil) (.cons (.ite (.isi (.v 0) [.own .Lesser]) (.cons (.ret (.mk .Lesser (.cons (.v 3) (.cons (.v 4) .nil)))) .nil) .nil) (.cons (.ret (.mk .Leads (.cons (.v 3) (.cons (.v 4) .nil)))) .nil))))))) .nil) (.cons (.ret (.v 0)) .nil))))⟩
def f__law_mixed : Fn := ⟨2, 6, (.cons (.set 2 (.and (.cons (.cmp .gt (.b .len (.cons (.v 0) .nil)) (.k (.int 0))) (.cons (.cmp .eq (.bin .mod (.sub (.v 0) (.k (.int 0))) (.k (.int 2))) (.k (.int 1))) .nil)))) (.cons (.set 3 (.lst .nil)) (.cons (.for (.one 4) (.r1 (.b .max (.cons (.bin .add (.v 1) (.k (.int 1))) (.cons (.b .min (.cons (.k (.int 63)) (.cons (.b .len (.cons (.v 0) .nil)) .nil))) .nil)))) (.cons (.set 5 (.k (.int 0))) (.cons (.ite (.cmp .lt (.v 4) (.b .len (.cons (.v 0) .nil))) (.cons (.set 5 (.sub (.v 0) (.v 4))) .nil) .nil) (.cons (.ite (.and (.cons (.v 2) (.cons (.chn .lt .lt (.k (.int 0)) (.v 4) (.b .len (.cons (.v 0) .nil))) .nil))) (.cons (.ex (.bm .append (.v 3) (.cons (.b .abs (.cons (.v 5) .nil)) .nil))) .nil) (.cons (.ex (.bm .append (.v 3) (.cons (.bin .mod (.bin .mul (.bin .mod (.bin .add (.bin .mul (.bin .mod (.v 5) (.bin .pow (.k (.int 10)) (.k (.int 18)))) (.k (.int 48271))) (.bin .mul (.k (.int 16807)) (.bin .add (.v 4) (.k (.int 1))))) (.k (.int 2147483647))) (.k (.int 69621))) (.k (.int 2147483629))) .nil))) .nil)) .nil)))) (.cons (.ret (.slc (.v 3) (.some (.b .int (.cons (.v 2) .nil))) .none)) .nil))))⟩
def f__law_next : Fn := ⟨1, 1, (.cons (.ite (.cmp .eq (.b .len (.cons (.v 0) .nil)) (.k (.int 0))) (.cons (.ret (.k (.int 0))) .nil) .nil) (.cons (.ret (.bm .popAt (.v 0) (.cons (.k (.int 0)) .nil))) .nil))⟩
def f__law_saying : Fn := ⟨3, 8, (.cons (.set 3 (.call "_law_next" (.cons (.v 0) .nil))) (.cons (.set 4 (.bin .fdiv (.v 3) (.k (.int 16)))) (.cons (.ite (.and (.cons (.cmp .gt (.v 1) (.k (.int 2))) (.cons (.cmp .gt (.bin .mod (.v 3) (.k (.int 16))) (.k (.int 3))) .nil))) (.cons (.set 5 (.bin .add (.k (.int 1)) (.bin .mod (.bin .fdiv (.v 4) (.k (.int 5))) (.bin .sub (.v 1) (.k (.int 2)))))) (.cons (.set 6 (.call "_law_saying" (.cons (.v 0) (.cons (.v 5) (.cons (.v 2) .nil))))) (.cons (.set 7 (.sub (.tup (.cons (.k (.str (S "more"))) (.cons (.k (.str (S "less"))) (.cons (.k (.str (S "greater"))) (.cons (.k (.str (S "lesser"))) (.cons (.k (.str (S "leads"))) .nil)))))) (.bin .mod (.v 4) (.k (.int 5))))) (.cons (.ret (.tup (.cons (.v 7) (.cons (.v 6) (.cons (.call "_law_saying" (.cons (.v 0) (.cons (.bin .sub (.bin .sub (.v 1) (.k (.int 1))) (.v 5)) (.cons (.v 2) .nil)))) .nil))))) .nil)))) .nil) (.cons (.ite (.and (.cons (.cmp .gt (.v 1) (.k (.int 1))) (.cons (.cmp .lt (.bin .mod (.v 3) (.k (.int 16))) (.k (.int 3))) .nil))) (.cons (.ret (.tup (.cons (.k (.str (S "not"))) (.cons (.call "_law_saying" (.cons (.v 0) (.cons (.bin .sub (.v 1) (.k (.int 1))) (.cons (.v 2) .nil)))) .nil)))) .nil) .nil) (.cons (.ite (.cmp .gt (.bin .mod (.v 4) (.k (.int 9))) (.k (.int 6))) (.cons (.ret (.tup (.cons (.sub (.tup (.cons (.k (.str (S "never"))) (.cons (.k (.str (S "always"))) .nil))) (.bin .sub (.bin .mod (.v 4) (.k (.int 9))) (.k (.int 7)))) .nil))) .nil) .nil) (.cons (.ret (.tup (.cons (.sub (.tup (.cons (.k (.str (S "p"))) (.cons (.k (.str (S "q"))) .nil))) (.bin .mul (.bin .mod (.v 4) (.k (.int 2))) (.b .int (.cons (.v 2) .nil)))) .nil))) .nil))))))⟩
def f__law_object_v2 : Fn := ⟨2, 3, (.cons (.ite (.isn (.v 1) false) (.cons (.ret (.call "_law_of_tree" (.cons (.v 0) (.cons (.k .non) .nil)))) .nil) .nil) (.cons (.set 2 (.call "_law_text" (.cons (.v 0) .nil))) (.cons (.ite (.cmp .notin (.v 2) (.v 1)) (.cons (.setI (.v 1) (.v 2) (.call "_law_of_tree" (.cons (.v 0) (.cons (.v 1) .nil)))) .nil) .nil) (.cons (.ret (.sub (.v 1) (.v 2))) .nil))))⟩
def f__law_of_tree : Fn := ⟨2, 4, (.cons (.ite (.cmp .eq (.sub (.v 0) (.k (.int 0))) (.k (.str (S "never")))) (.cons (.ret (.mk .Never .nil)) .nil) .nil) (.cons (.ite (.cmp .eq (.sub (.v 0) (.k (.int 0))) (.k (.str (S "always")))) (.cons (.ret (.mk .Always .nil)) .nil) .nil) (.cons (.ite (.cmp .isin (.sub (.v 0) (.k (.int 0))) (.tup (.cons (.k (.str (S "p"))) (.cons (.k (.str (S "q"))) .nil)))) (.cons (.ret (.mk .Letter (.cons (.sub (.v 0) (.k (.int 0))) .nil))) .nil) .nil) (.cons (.ite (.cmp .eq (.sub (.v 0) (.k (.int 0))) (.k (.str (S "not")))) (.cons (.ret (.mk .Not (.cons (.call "_law_object" (.cons (.sub (.v 0) (.k (.int 1))) (.cons (.v 1) .nil))) .nil))) .nil) .nil) (.cons (.set 2 (.call "_law_object" (.cons (.sub (.v 0) (.k (.int 1))) (.cons (.v 1) .nil)))) (.cons (.set 3 (.call "_law_object" (.cons (.sub (.v 0) (.k (.int 2))) (.cons (.v 1) .nil)))) (.cons (.ite (.cmp .eq (.sub (.v 0) (.k (.int 0))) (.k (.str (S "more")))) (.cons (.ret (.mk .More (.cons (.v 2) (.cons (.v 3) .nil)))) .nil) .nil) (.cons (.ite (.cmp .eq (.sub (.v 0) (.k (.int 0))) (.k (.str (S "less")))) (.cons (.ret (.mk .Less (.cons (.v 2) (.cons (.v 3) .nil)))) .nil) .nil) (.cons (.ite (.cmp .eq (.sub (.v 0) (.k (.int 0))) (.k (.str (S "greater")))) (.cons (.ret (.mk .Greater (.cons (.v 2) (.cons (.v 3) .nil)))) .nil) .nil) (.cons (.ite (.cmp .eq (.sub (.v 0) (.k (.int 0))) (.k (.str (S "lesser")))) (.cons (.ret (.mk .Lesser (.cons (.v 2) (.cons (.v 3) .nil)))) .nil) .nil) (.cons (.ret (.mk .Leads (.cons (.v 2) (.cons (.v 3) .nil)))) .nil)))))))))))⟩
def f__law_text : Fn := ⟨1, 1, (.cons (.ite (.cmp .eq (.b .len (.cons (.v 0) .nil)) (.k (.int 1))) (.cons (.ret (.sub (.v 0) (.k (.int 0)))) .nil) .nil) (.cons (.ite (.cmp .eq (.sub (.v 0) (.k (.int 0))) (.k (.str (S "not")))) (.cons (.ret (.bin .add (.k (.str (S "not "))) (.call "_law_text" (.cons (.sub (.v 0) (.k (.int 1))) .nil)))) .nil) .nil) (.cons (.ret (.bin .add (.bin .add (.bin .add (.bin .add (.bin .add (.bin .add (.k (.str (S "( "))) (.call "_law_text" (.cons (.sub (.v 0) (.k (.int 1))) .nil))) (.k (.str (S " ")))) (.sub (.v 0) (.k (.int 0)))) (.k (.str (S " ")))) (.call "_law_text" (.cons (.sub (.v 0) (.k (.int 2))) .nil))) (.k (.str (S " )"))))) .nil)))⟩
def f__law_fold : Fn := ⟨4, 4, (.cons (.ite (.cmp .eq (.v 0) (.k (.str (S "more")))) (.cons (.ret (.b .min (.cons (.v 1) (.cons (.bin .add (.v 2) (.v 3)) .nil)))) .nil) .nil) (.cons (.ite (.cmp .eq (.v 0) (.k (.str (S "less")))) (.cons (.ret (.b .max (.cons (.k (.int 0)) (.cons (.bin .sub (.bin .add (.v 2) (.v 3)) (.v 1)) .nil)))) .nil) .nil) (.cons (.ite (.cmp .eq (.v 0) (.k (.str (S "greater")))) (.cons (.ret (.b .max (.cons (.v 2) (.cons (.v 3) .nil)))) .nil) .nil) (.cons (.ite (.cmp .eq (.v 0) (.k (.str (S "lesser")))) (.cons (.ret (.b .min (.cons (.v 2) (.cons (.v 3) .nil)))) .nil) .nil) (.cons (.ret (.b .min (.cons (.v 1) (.cons (.bin .add (.bin .sub (.v 1) (.v 2)) (.v 3)) .nil)))) .nil)))))⟩
def f__law_worth : Fn := ⟨4, 4, (.cons (.ite (.cmp .isin (.sub (.v 0) (.k (.int 0))) (.tup (.cons (.k (.str (S "never"))) (.cons (.k (.str (S "always"))) .nil)))) (.cons (.ret (.bin .mul (.v 1) (.b .int (.cons (.cmp .eq (.sub (.v 0) (.k (.int 0))) (.k (.str (S "always")))) .nil)))) .nil) .nil) (.cons (.ite (.cmp .isin (.sub (.v 0) (.k (.int 0))) (.tup (.cons (.k (.str (S "p"))) (.cons (.k (.str (S "q"))) .nil)))) (.cons (.ret (.sub (.lst (.cons (.v 2) (.cons (.v 3) .nil))) (.b .int (.cons (.cmp .eq (.sub (.v 0) (.k (.int 0))) (.k (.str (S "q")))) .nil)))) .nil) .nil) (.cons (.ite (.cmp .eq (.sub (.v 0) (.k (.int 0))) (.k (.str (S "not")))) (.cons (.ret (.bin .sub (.v 1) (.call "_law_worth" (.cons (.sub (.v 0) (.k (.int 1))) (.cons (.v 1) (.cons (.v 2) (.cons (.v 3) .nil))))))) .nil) .nil) (.cons (.ret (.call "_law_fold" (.cons (.sub (.v 0) (.k (.int 0))) (.cons (.v 1) (.cons (.call "_law_worth" (.cons (.sub (.v 0) (.k (.int 1))) (.cons (.v 1) (.cons (.v 2) (.cons (.v 3) .nil))))) (.cons (.call "_law_worth" (.cons (.sub (.v 0) (.k (.int 2))) (.cons (.v 1) (.cons (.v 2) (.cons (.v 3) .nil))))) .nil)))))) .nil))))⟩
def f__law_whole : Fn := ⟨1, 1, (.cons (.ret (.and (.cons (.isi (.v 0) [.tint]) (.cons (.not (.isi (.v 0) [.tbool])) .nil)))) .nil)⟩
def f__law_point : Fn := ⟨2, 3, (.cons (.set 2 (.bin .add (.k (.int 1)) (.bin .mod (.v 0) (.k (.int 12))))) (.cons (.ite (.cmp .eq (.bin .mod (.bin .fdiv (.v 0) (.k (.int 12))) (.k (.int 3))) (.k (.int 1))) (.cons (.set 2 (.bin .add (.k (.int 1)) (.bin .mod (.bin .mul (.v 0) (.v 1)) (.bin .pow (.k (.int 10)) (.k (.int 20)))))) .nil) .nil) (.cons (.ret (.tup (.cons (.v 2) (.cons (.bin .mod (.v 1) (.bin .add (.v 2) (.k (.int 1)))) (.cons (.bin .mod (.bin .mul (.bin .fdiv (.v 1) (.k (.int 7))) (.bin .add (.v 0) (.k (.int 1)))) (.bin .add (.v 2) (.k (.int 1)))) .nil))))) .nil)))⟩
def f__law_put : Fn := ⟨3, 4, (.cons (.ite (.cmp .isin (.sub (.v 0) (.k (.int 0))) (.tup (.cons (.k (.str (S "p"))) (.cons (.k (.str (S "q"))) .nil)))) (.cons (.ret (.sub (.lst (.cons (.v 1) (.cons (.v 2) .nil))) (.b .int (.cons (.cmp .eq (.sub (.v 0) (.k (.int 0))) (.k (.str (S "q")))) .nil)))) .nil) .nil) (.cons (.ret (.bin .add (.slc (.v 0) .none (.some (.k (.int 1)))) (.b .tuple (.cons (.comp (.call "_law_put" (.cons (.v 3) (.cons (.v 1) (.cons (.v 2) .nil)))) (.one 3) (.sq (.slc (.v 0) (.some (.k (.int 1))) .none)) .none [3]) .nil)))) .nil))⟩
def f_law_v4 : Fn := ⟨1, 15, (.cons (.set 1 (.call "_law_mixed" (.cons (.v 0) (.cons (.k (.int 50)) .nil)))) (.cons (.setT [2, 3, 4] (.call "_law_point" (.cons (.call "_law_next" (.cons (.v 1) .nil)) (.cons (.call "_law_next" (.cons (.v 1) .nil)) .nil)))) (.cons (.set 5 (.comp (.call "_law_saying" (.cons (.v 1) (.cons (.bin .add (.k (.int 1)) (.bin .mod (.call "_law_next" (.cons (.v 1) .nil)) (.v 12))) (.cons (.k (.bl true)) .nil)))) (.one 12) (.sq (.tup (.cons (.k (.int 12)) (.cons (.k (.int 8)) (.cons (.k (.int 8)) .nil))))) .none [12])) (.cons (.set 6 (.sub (.lst (.cons (.k .non) (.cons (.dic false .nil) .nil))) (.bin .mod (.v 2) (.k (.int 2))))) (.cons (.set 7 (.comp (.call "_law_object" (.cons (.v 13) (.cons (.v 6) .nil))) (.one 13) (.sq (.v 5)) .none [13])) (.cons (.set 8 (.call "sayings.put_in" (.cons (.sub (.v 7) (.k (.int 0))) (.cons (.sub (.v 7) (.k (.int 1))) (.cons (.sub (.v 7) (.k (.int 2))) .nil))))) (.cons (.set 9 (.call "_law_put" (.cons (.sub (.v 5) (.k (.int 0))) (.cons (.sub (.v 5) (.k (.int 1))) (.cons (.sub (.v 5) (.k (.int 2))) .nil))))) (.cons (.ite (.or (.cons (.cmp .ne (.mth (.v 8) "told" .nil) (.call "_law_text" (.cons (.v 9) .nil))) (.cons (.cmp .ne (.comp (.mth (.v 14) "told" .nil) (.one 14) (.sq (.v 7)) .none [14]) (.comp (.call "_law_text" (.cons (.v 13) .nil)) (.one 13) (.sq (.v 5)) .none [13])) .nil))) (.cons (.ret (.k (.bl false))) .nil) .nil) (.cons (.set 10 (.mth (.v 8) "out_of" (.cons (.v 2) (.cons (.v 3) (.cons (.v 4) .nil))))) (.cons (.set 11 (.comp (.call "_law_worth" (.cons (.v 13) (.cons (.v 2) (.cons (.v 3) (.cons (.v 4) .nil))))) (.one 13) (.sq (.slc (.v 5) (.some (.k (.int 1))) .none)) .none [13])) (.cons (.ret (.and (.cons (.call "_law_whole" (.cons (.v 10) .nil)) (.cons (.cmp .eq (.v 10) (.call "_law_worth" (.cons (.sub (.v 5) (.k (.int 0))) (.cons (.v 2) (.cons (.sub (.v 11) (.k (.int 0))) (.cons (.sub (.v 11) (.k (.int 1))) .nil)))))) .nil)))) .nil)))))))))))⟩
def f_Never_told : Fn := ⟨1, 1, (.cons (.ret (.k (.str (S "never")))) .nil)⟩
def f_Never_out_of : Fn := ⟨4, 4, (.cons (.ret (.k (.int 0))) .nil)⟩
def f_Always_told : Fn := ⟨1, 1, (.cons (.ret (.k (.str (S "always")))) .nil)⟩
def f_Always_out_of : Fn := ⟨4, 4, (.cons (.ret (.v 1)) .nil)⟩
def f_Letter_told : Fn := ⟨1, 1, (.cons (.ret (.fld (.v 0) "name")) .nil)⟩
def f_Letter_out_of : Fn := ⟨4, 4, (.cons (.ite (.cmp .eq (.fld (.v 0) "name") (.k (.str (S "p")))) (.cons (.ret (.v 2)) .nil) .nil) (.cons (.ret (.v 3)) .nil))⟩
def f_Not_told : Fn := ⟨1, 1, (.cons (.ret (.bin .add (.k (.str (S "not "))) (.mth (.fld (.v 0) "part") "told" .nil))) .nil)⟩
def f_Not_out_of : Fn := ⟨4, 4, (.cons (.ret (.bin .sub (.v 1) (.mth (.fld (.v 0) "part") "out_of" (.cons (.v 1) (.cons (.v 2) (.cons (.v 3) .nil)))))) .nil)⟩
def f_Fold_told : Fn := ⟨1, 1, (.cons (.ret (.bin .add (.bin .add (.bin .add (.bin .add (.bin .add (.bin .add (.k (.str (S "( "))) (.mth (.fld (.v 0) "one") "told" .nil)) (.k (.str (S " ")))) (.mth (.v 0) "sign" .nil)) (.k (.str (S " ")))) (.mth (.fld (.v 0) "other") "told" .nil)) (.k (.str (S " )"))))) .nil)⟩
def f_Fold_out_of : Fn := ⟨4, 4, (.cons (.ret (.mth (.v 0) "made_of" (.cons (.v 1) (.cons (.mth (.fld (.v 0) "one") "out_of" (.cons (.v 1) (.cons (.v 2) (.cons (.v 3) .nil)))) (.cons (.mth (.fld (.v 0) "other") "out_of" (.cons (.v 1) (.cons (.v 2) (.cons (.v 3) .nil)))) .nil))))) .nil)⟩
def f_More_sign : Fn := ⟨1, 1, (.cons (.ret (.k (.str (S "more")))) .nil)⟩
def f_More_made_of : Fn := ⟨4, 4, (.cons (.ret (.b .min (.cons (.v 1) (.cons (.bin .add (.v 2) (.v 3)) .nil)))) .nil)⟩
def f_Less_sign : Fn := ⟨1, 1, (.cons (.ret (.k (.str (S "less")))) .nil)⟩
def f_Less_made_of : Fn := ⟨4, 4, (.cons (.ret (.b .max (.cons (.k (.int 0)) (.cons (.bin .sub (.bin .add (.v 2) (.v 3)) (.v 1)) .nil)))) .nil)⟩
def f_Greater_sign : Fn := ⟨1, 1, (.cons (.ret (.k (.str (S "greater")))) .nil)⟩
def f_Greater_made_of : Fn := ⟨4, 4, (.cons (.ret (.b .max (.cons (.v 2) (.cons (.v 3) .nil)))) .nil)⟩
def f_Lesser_sign : Fn := ⟨1, 1, (.cons (.ret (.k (.str (S "lesser")))) .nil)⟩
def f_Lesser_made_of : Fn := ⟨4, 4, (.cons (.ret (.b .min (.cons (.v 2) (.cons (.v 3) .nil)))) .nil)⟩
def f_Leads_sign : Fn := ⟨1, 1, (.cons (.ret (.k (.str (S "leads")))) .nil)⟩
def f_Leads_made_of : Fn := ⟨4, 4, (.cons (.ret (.b .min (.cons (.v 1) (.cons (.bin .add (.bin .sub (.v 1) (.v 2)) (.v 3)) .nil)))) .nil)⟩
def f__law_cell : Fn := ⟨2, 5, (.cons (.ite (.and (.cons (.cmp .gt (.b .len (.cons (.v 0) .nil)) (.k (.int 0))) (.cons (.cmp .eq (.bin .mod (.sub (.v 0) (.k (.int 0))) (.k (.int 2))) (.k (.int 1))) .nil))) (.cons (.ite (.cmp .eq (.v 1) (.k (.int 0))) (.cons (.ret (.bin .fdiv (.sub (.v 0) (.k (.int 0))) (.k (.int 2)))) .nil) .nil) (.cons (.ite (.cmp .lt (.v 1) (.b .len (.cons (.v 0) .nil))) (.cons (.ret (.sub (.v 0) (.v 1))) .nil) .nil) (.cons (.ret (.k (.int 0))) .nil))) .nil) (.cons (.set 2 (.k (.int 0))) (.cons (.ite (.cmp .gt (.b .len (.cons (.v 0) .nil)) (.k (.int 0))) (.cons (.set 2 (.bin .mod (.sub (.v 0) (.bin .mod (.v 1) (.b .len (.cons (.v 0) .nil)))) (.bin .pow (.k (.int 10)) (.k (.int 18))))) .nil) .nil) (.cons (.set 3 (.bin .mod (.bin .mul (.bin .add (.bin .add (.bin .add (.v 2) (.bin .mul (.bin .mul (.k (.int 7)) (.v 1)) (.v 1))) (.bin .mul (.k (.int 13)) (.v 1))) (.k (.int 5))) (.k (.int 48271))) (.k (.int 2147483647)))) (.cons (.set 4 (.bin .mod (.bin .add (.bin .mul (.v 3) (.v 3)) (.v 1)) (.k (.int 1000000007)))) (.cons (.ret (.bin .mod (.bin .add (.bin .mul (.v 4) (.k (.int 69621))) (.v 3)) (.k (.int 2147483629)))) .nil))))))⟩
def f_rows_word_of : Fn := ⟨1, 1, (.cons (.ite (.isi (.v 0) [.own .More]) (.cons (.ret (.k (.str (S "more")))) .nil) .nil) (.cons (.ite (.isi (.v 0) [.own .Less]) (.cons (.ret (.k (.str (S "less")))) .nil) .nil) (.cons (.ite (.isi (.v 0) [.own .Greater]) (.cons (.ret (.k (.str (S "greater")))) .nil) .nil) (.cons (.ite (.isi (.v 0) [.own .Lesser]) (.cons (.ret (.k (.str (S "lesser")))) .nil) .nil) (.cons (.ite (.isi (.v 0) [.own .Leads]) (.cons (.ret (.k (.str (S "leads")))) .nil) .nil) (.cons (.ret (.k (.str (S "fold")))) .nil))))))⟩
def f_rows_place_of : Fn := ⟨3, 3, (.cons (.ite (.cmp .notin (.v 0) (.v 2)) (.cons (.setI (.v 2) (.v 0) (.b .len (.cons (.v 1) .nil))) (.cons (.ex (.bm .append (.v 1) (.cons (.v 0) .nil))) .nil)) .nil) (.cons (.ret (.sub (.v 2) (.v 0))) .nil))⟩
def f_rows_put_rows : Fn := ⟨3, 5, (.cons (.ite (.isi (.v 0) [.own .Never]) (.cons (.set 3 (.tup (.cons (.k (.str (S "never"))) .nil))) .nil) (.cons (.ite (.isi (.v 0) [.own .Always]) (.cons (.set 3 (.tup (.cons (.k (.str (S "always"))) .nil))) .nil) (.cons (.ite (.isi (.v 0) [.own .Letter]) (.cons (.set 3 (.tup (.cons (.fld (.v 0) "name") .nil))) .nil) (.cons (.ite (.isi (.v 0) [.own .Not]) (.cons (.set 3 (.tup (.cons (.k (.str (S "not"))) (.cons (.call "rows.put_rows" (.cons (.fld (.v 0) "part") (.cons (.v 1) (.cons (.v 2) .nil)))) .nil)))) .nil) (.cons (.set 4 (.call "rows.put_rows" (.cons (.fld (.v 0) "one") (.cons (.v 1) (.cons (.v 2) .nil))))) (.cons (.set 3 (.tup (.cons (.call "rows.word_of" (.cons (.v 0) .nil)) (.cons (.v 4) (.cons (.call "rows.put_rows" (.cons (.fld (.v 0) "other") (.cons (.v 1) (.cons (.v 2) .nil)))) .nil))))) .nil))) .nil)) .nil)) .nil)) (.cons (.ret (.call "rows.place_of" (.cons (.v 3) (.cons (.v 1) (.cons (.v 2) .nil))))) .nil))⟩
def f_rows_rows_of : Fn := ⟨1, 2, (.cons (.set 1 (.lst .nil)) (.cons (.ex (.call "rows.put_rows" (.cons (.v 0) (.cons (.v 1) (.cons (.dic true .nil) .nil))))) (.cons (.ret (.v 1)) .nil)))⟩
def f__law_object : Fn := ⟨1, 3, (.cons (.ite (.cmp .eq (.sub (.v 0) (.k (.int 0))) (.k (.str (S "never")))) (.cons (.ret (.mk .Never .nil)) .nil) .nil) (.cons (.ite (.cmp .eq (.sub (.v 0) (.k (.int 0))) (.k (.str (S "always")))) (.cons (.ret (.mk .Always .nil)) .nil) .nil) (.cons (.ite (.cmp .isin (.sub (.v 0) (.k (.int 0))) (.tup (.cons (.k (.str (S "p"))) (.cons (.k (.str (S "q"))) .nil)))) (.cons (.ret (.mk .Letter (.cons (.sub (.v 0) (.k (.int 0))) .nil))) .nil) .nil) (.cons (.ite (.cmp .eq (.sub (.v 0) (.k (.int 0))) (.k (.str (S "not")))) (.cons (.ret (.mk .Not (.cons (.call "_law_object" (.cons (.sub (.v 0) (.k (.int 1))) .nil)) .nil))) .nil) .nil) (.cons (.set 1 (.call "_law_object" (.cons (.sub (.v 0) (.k (.int 1))) .nil))) (.cons (.set 2 (.call "_law_object" (.cons (.sub (.v 0) (.k (.int 2))) .nil))) (.cons (.ite (.cmp .eq (.sub (.v 0) (.k (.int 0))) (.k (.str (S "more")))) (.cons (.ret (.mk .More (.cons (.v 1) (.cons (.v 2) .nil)))) .nil) .nil) (.cons (.ite (.cmp .eq (.sub (.v 0) (.k (.int 0))) (.k (.str (S "less")))) (.cons (.ret (.mk .Less (.cons (.v 1) (.cons (.v 2) .nil)))) .nil) .nil) (.cons (.ite (.cmp .eq (.sub (.v 0) (.k (.int 0))) (.k (.str (S "greater")))) (.cons (.ret (.mk .Greater (.cons (.v 1) (.cons (.v 2) .nil)))) .nil) .nil) (.cons (.ite (.cmp .eq (.sub (.v 0) (.k (.int 0))) (.k (.str (S "lesser")))) (.cons (.ret (.mk .Lesser (.cons (.v 1) (.cons (.v 2) .nil)))) .nil) .nil) (.cons (.ret (.mk .Leads (.cons (.v 1) (.cons (.v 2) .nil)))) .nil)))))))))))⟩
def f__law_size : Fn := ⟨1, 2, (.cons (.ret (.bin .add (.k (.int 1)) (.b .sum (.cons (.comp (.call "_law_size" (.cons (.v 1) .nil)) (.one 1) (.sq (.slc (.v 0) (.some (.k (.int 1))) .none)) .none [1]) .nil)))) .nil)⟩
def f__law_saying_v2 : Fn := ⟨1, 3, (.cons (.ite (.cmp .eq (.sub (.v 0) (.k (.int 0))) (.k (.str (S "never")))) (.cons (.ret (.mk .Never .nil)) .nil) .nil) (.cons (.ite (.cmp .eq (.sub (.v 0) (.k (.int 0))) (.k (.str (S "always")))) (.cons (.ret (.mk .Always .nil)) .nil) .nil) (.cons (.ite (.cmp .isin (.sub (.v 0) (.k (.int 0))) (.tup (.cons (.k (.str (S "p"))) (.cons (.k (.str (S "q"))) .nil)))) (.cons (.ret (.mk .Letter (.cons (.sub (.v 0) (.k (.int 0))) .nil))) .nil) .nil) (.cons (.set 1 (.call "_law_saying" (.cons (.sub (.v 0) (.k (.int 1))) .nil))) (.cons (.ite (.cmp .eq (.sub (.v 0) (.k (.int 0))) (.k (.str (S "not")))) (.cons (.ret (.mk .Not (.cons (.v 1) .nil))) .nil) .nil) (.cons (.set 2 (.call "_law_saying" (.cons (.sub (.v 0) (.k (.int 2))) .nil))) (.cons (.ite (.cmp .eq (.sub (.v 0) (.k (.int 0))) (.k (.str (S "more")))) (.cons (.ret (.mk .More (.cons (.v 1) (.cons (.v 2) .nil)))) .nil) .nil) (.cons (.ite (.cmp .eq (.sub (.v 0) (.k (.int 0))) (.k (.str (S "less")))) (.cons (.ret (.mk .Less (.cons (.v 1) (.cons (.v 2) .nil)))) .nil) .nil) (.cons (.ite (.cmp .eq (.sub (.v 0) (.k (.int 0))) (.k (.str (S "greater")))) (.cons (.ret (.mk .Greater (.cons (.v 1) (.cons (.v 2) .nil)))) .nil) .nil) (.cons (.ite (.cmp .eq (.sub (.v 0) (.k (.int 0))) (.k (.str (S "lesser")))) (.cons (.ret (.mk .Lesser (.cons (.v 1) (.cons (.v 2) .nil)))) .nil) .nil) (.cons (.ret (.mk .Leads (.cons (.v 1) (.cons (.v 2) .nil)))) .nil)))))))))))⟩
def f_Saying_parts : Fn := ⟨1, 2, (.cons (.ret (.bin .add (.k (.int 1)) (.b .sum (.cons (.comp (.mth (.v 1) "parts" .nil) (.one 1) (.sq (.mth (.v 0) "inner" .nil)) .none [1]) .nil)))) .nil)⟩
def f_Saying_inner : Fn := ⟨1, 1, (.cons (.ret (.lst .nil)) .nil)⟩
def f_Not_inner : Fn := ⟨1, 1, (.cons (.ret (.lst (.cons (.fld (.v 0) "part") .nil))) .nil)⟩
def f_Fold_inner : Fn := ⟨1, 1, (.cons (.ret (.lst (.cons (.fld (.v 0) "one") (.cons (.fld (.v 0) "other") .nil)))) .nil)⟩
def f_points_is_point : Fn := ⟨1, 5, (.cons (.ite (.or (.cons (.not (.isi (.v 0) [.ttuple])) (.cons (.cmp .ne (.b .len (.cons (.v 0) .nil)) (.k (.int 3))) .nil))) (.cons (.ret (.k (.bl false))) .nil) .nil) (.cons (.for (.one 1) (.sq (.v 0)) (.cons (.ite (.or (.cons (.not (.isi (.v 1) [.tint])) (.cons (.isi (.v 1) [.tbool]) .nil))) (.cons (.ret (.k (.bl false))) .nil) .nil) .nil)) (.cons (.setT [2, 3, 4] (.v 0)) (.cons (.ret (.and (.cons (.cmp .ge (.v 2) (.k (.int 1))) (.cons (.chn .le .le (.k (.int 0)) (.v 3) (.v 2)) (.cons (.chn .le .le (.k (.int 0)) (.v 4) (.v 2)) .nil))))) .nil))))⟩
def f_points_worth : Fn := ⟨2, 2, (.cons (.ite (.not (.call "points.is_point" (.cons (.v 1) .nil))) (.cons (.raise .NoPoint (.cons (.k (.str (S "no point"))) .nil)) .nil) .nil) (.cons (.ret (.mth (.v 0) "out_of" (.cons (.sub (.v 1) (.k (.int 0))) (.cons (.sub (.v 1) (.k (.int 1))) (.cons (.sub (.v 1) (.k (.int 2))) .nil))))) .nil))⟩
def f_law_v5 : Fn := ⟨1, 11, (.cons (.set 1 (.call "_law_mixed" (.cons (.v 0) (.cons (.k (.int 40)) .nil)))) (.cons (.setT [2, 3, 4] (.call "_law_point" (.cons (.call "_law_next" (.cons (.v 1) .nil)) (.cons (.call "_law_next" (.cons (.v 1) .nil)) .nil)))) (.cons (.set 5 (.bin .add (.k (.int 1)) (.bin .mod (.call "_law_next" (.cons (.v 1) .nil)) (.k (.int 1000))))) (.cons (.set 6 (.call "_law_saying" (.cons (.v 1) (.cons (.bin .add (.k (.int 1)) (.bin .mod (.call "_law_next" (.cons (.v 1) .nil)) (.k (.int 24)))) (.cons (.k (.bl true)) .nil))))) (.cons (.set 7 (.call "_law_object" (.cons (.v 6) (.cons (.sub (.lst (.cons (.k .non) (.cons (.dic false .nil) .nil))) (.bin .mod (.v 5) (.k (.int 2)))) .nil)))) (.cons (.set 8 (.call "_law_worth" (.cons (.v 6) (.cons (.v 2) (.cons (.v 3) (.cons (.v 4) .nil)))))) (.cons (.for (.one 9) (.r1 (.k (.int 2))) (.cons (.set 10 (.call "points.worth" (.cons (.v 7) (.cons (.tup (.cons (.v 2) (.cons (.v 3) (.cons (.v 4) .nil)))) .nil)))) (.cons (.ite (.or (.cons (.not (.call "_law_whole" (.cons (.v 10) .nil))) (.cons (.cmp .ne (.v 10) (.v 8)) (.cons (.cmp .ne (.mth (.v 7) "out_of" (.cons (.v 2) (.cons (.v 3) (.cons (.v 4) .nil)))) (.v 8)) .nil)))) (.cons (.ret (.k (.bl false))) .nil) .nil) .nil))) (.cons (.ite (.or (.cons (.cmp .ne (.call "points.worth" (.cons (.mk .Not (.cons (.v 7) .nil)) (.cons (.tup (.cons (.v 2) (.cons (.v 3) (.cons (.v 4) .nil)))) .nil))) (.bin .sub (.v 2) (.v 8))) (.cons (.ist (.call "points.is_point" (.cons (.tup (.cons (.v 2) (.cons (.v 3) (.cons (.v 4) .nil)))) .nil)) true true) .nil))) (.cons (.ret (.k (.bl false))) .nil) .nil) (.cons (.ret (.cmp .eq (.call "points.worth" (.cons (.v 7) (.cons (.tup (.cons (.bin .mul (.v 5) (.v 2)) (.cons (.bin .mul (.v 5) (.v 3)) (.cons (.bin .mul (.v 5) (.v 4)) .nil)))) .nil))) (.bin .mul (.v 5) (.v 8)))) .nil)))))))))⟩
end Q

/-! the numbers of a script, as a law takes them -/
namespace Q
/-- the script's numbers are of bounded size -/
structure Scr (ns : List Int) : Prop where
  len : ns.length ≤ 63
  bits : ∀ z ∈ ns, PySem.Builtin.Int.intBits z ≤ 1048576
def mixV (ns : List Int) (j : Int) : Int := if h : 0 < ns.length then (ns[(j.fmod ns.length).toNat]'(by
  have h1 := Int.fmod_nonneg_of_pos j (show (0 : Int) < ns.length by omega)
  have h2 := Int.fmod_lt_of_pos j (show (0 : Int) < ns.length by omega)
  omega)).fmod (10 ^ 18) else 0
def mix1 (c j : Int) : Int := ((c + 7 * j * j + 13 * j + 5) * 48271).fmod 2147483647
def mix2 (a j : Int) : Int := (((a * a + j).fmod 1000000007) * 69621 + a).fmod 2147483629
def odd0 (ns : List Int) : Bool := match ns with
  | [] => false
  | z :: _ => decide (z.fmod 2 = 1)
def cellV (ns : List Int) (j : Int) : Int := if odd0 ns = true then (if j = 0 then (ns.headD 0).fdiv 2 else if j < ns.length then ns.getD j.toNat 0 else 0) else mix2 (mix1 (mixV ns j) j) j
theorem mixV_bd (ns : List Int) (j : Int) : Bd 60 (mixV ns j) := by
  unfold mixV
  split
  · exact Bd.fmod _ (Bd.of (by decide)) (by decide)
  · exact Bd.of (by decide)
theorem cellV_bd {ns : List Int} (S : Scr ns) (j : Int) : Bd 1048577 (cellV ns j) := by
  unfold cellV
  split
  · split
    · cases ns with
      | nil => exact Bd.of (Nat.pow_pos (by decide))
      | cons z zs => exact (Bd.bits (S.bits z (by simp))).fdiv (by decide)
    · split
      · rename_i h1 h2 h3
        by_cases h4 : j.toNat < ns.length
        · rw [List.getD_eq_getElem?_getD, List.getElem?_eq_getElem h4]
          exact Bd.bits (S.bits _ (List.getElem_mem h4))
        · rw [List.getD_eq_getElem?_getD, List.getElem?_eq_none (by omega)]
          exact Bd.of (Nat.pow_pos (by decide))
      · exact Bd.of (Nat.pow_pos (by decide))
  · exact (Bd.fmod _ (show Bd 31 2147483629 from Bd.of (by decide)) (by decide)).mono (by decide)
theorem cell_ok {T : Tab} (hT : T.fn "_law_cell" = some f__law_cell) {h : Hs} {ns : List Int} (h0 : h[0]? = some (.frz (ns.map .int))) (S : Scr ns) (k : Nat) (j : Int) (j0 : 0 ≤ j) (j1 : Bd 40 j) :
    call T (k + 1) "_law_cell" [.ref 0, .int j] h = .ok (.int (cellV ns j)) h := by
  rw [call_eq hT rfl]
  have b7 : Bd 3 7 := Bd.of (by decide)
  have b13 : Bd 4 13 := Bd.of (by decide)
  have b5 : Bd 3 5 := Bd.of (by decide)
  have f1 : mulB 7 := b7.mulB (by decide)
  have f2 : mulB j := j1.mulB (by decide)
  have f3 : mulB (7 * j) := (b7.mul j1).mulB (by decide)
  have f4 : mulB 13 := b13.mulB (by decide)
  have p1 : Bd 90 (mixV ns j + 7 * j * j + 13 * j + 5) := ((((mixV_bd ns j).add ((b7.mul j1).mul j1)).add (b13.mul j1)).add b5).mono (by decide)
  have f5 := p1.mulB (by decide)
  have f6 : mulB 48271 := by decide
  have f7 : mulB 69621 := by decide
  have m1 : Bd 31 (mix1 (mixV ns j) j) := (Bd.fmod _ (Bd.of (by decide)) (by decide))
  have f8 := m1.mulB (by decide)
  have f9 : mulB ((mix1 (mixV ns j) j * mix1 (mixV ns j) j + j).fmod 1000000007) := (show Bd 31 _ from (Bd.fmod _ (Bd.of (by decide)) (by decide))).mulB (by decide)
  have d2 : divB 2 := by decide
  cases ns with
  | nil =>
    have e : mixV [] j = 0 := rfl
    rw [e] at f5 f8 f9
    simp only [mix1] at f8 f9
    simp at f5 f8 f9
    simp [f__law_cell, start, List.replicate_succ, len_frz h0, run_mul, run_mod, f1, f2, f3, f4, f5, f6, f7, f8, f9]
    simp [cellV, odd0, mix2, mix1, e]
  | cons z zs =>
    have hl : (0 : Int) < (zs.length : Int) + 1 := by omega
    have hl2 : ((zs.length : Int) + 1) ≠ 0 := by omega
    have hg : ∀ i : Int, 0 ≤ i → i < (zs.length : Int) + 1 → getI (.ref 0) (.int i) h = .ok (.int ((z :: zs).getD i.toNat 0)) h := by
      intro i i0 i1
      have hi : i.toNat < (z :: zs).length := by simp; omega
      rw [getI_frz h0, atI_nat i0 (by simpa using i1)]
      simp only [List.getElem_map, opt_some, id_D, List.getD_eq_getElem?_getD, List.getElem?_eq_getElem hi, Option.getD_some]
    have h00 : getI (.ref 0) (.int 0) h = .ok (.int z) h := by rw [hg 0 (by omega) hl]; rfl
    by_cases ho : z.fmod 2 = 1
    · by_cases hj : j = 0
      · subst hj
        simp [f__law_cell, start, List.replicate_succ, len_frz h0, run_mod, run_fdiv, d2, ho, hl, h00]
        simp [cellV, odd0, ho]
      · by_cases hj2 : j < (zs.length : Int) + 1
        · simp [f__law_cell, start, List.replicate_succ, len_frz h0, run_mod, run_fdiv, d2, ho, hl, h00, hj, hj2, hg j j0 hj2]
          simp [cellV, odd0, ho, hj, hj2]
        · simp [f__law_cell, start, List.replicate_succ, len_frz h0, run_mod, run_fdiv, d2, ho, hl, h00, hj, hj2]
          simp [cellV, odd0, ho, hj, hj2]
    · have r1 := Int.fmod_nonneg_of_pos j hl
      have r2 := Int.fmod_lt_of_pos j hl
      have e : ((z :: zs).getD (j.fmod ((zs.length : Int) + 1)).toNat 0).fmod 1000000000000000000 = mixV (z :: zs) j := by
        unfold mixV
        rw [dif_pos (by simp)]
        simp [List.getD_eq_getElem?_getD]
        rw [List.getElem?_eq_getElem (by simp; omega)]
        rfl
      have hg2 := hg _ r1 r2
      have ec : cellV (z :: zs) j = mix2 (mix1 (mixV (z :: zs) j) j) j := by simp [cellV, odd0, ho]
      rw [ec]
      generalize (z :: zs).getD (j.fmod ((zs.length : Int) + 1)).toNat 0 = w at hg2 e
      generalize mixV (z :: zs) j = v at e f5 f8 f9 m1 p1
      simp only [mix1] at f8 f9
      simp [f__law_cell, start, List.replicate_succ, len_frz h0, run_mod, run_pow, ho, hl, hl2, h00, hg2, run_mul, f1, f2, f3, f4, f5, f6, f7, f8, f9, e]
      simp [mix2, mix1]
end Q

/-! more of my interpreter's steps: loops over given things, texts -/
namespace Q
noncomputable section
variable (C : Cl) (s : Ev) (h : Hs)
def kForR (tg : Tg) (a : Bl) (ok : Hs → Prop) (ds : List D) : SR → SR
  | .nx s h => forE C tg a ok ds s h
  | .ct s h => forE C tg a ok ds s h
  | .bk s h => .nx s h
  | r => r
def kForA (tg : Tg) (a : Bl) (ok : Hs → Prop) (ds : List D) (h : Hs) : Option Ev → SR
  | some s => kForR C tg a ok ds (exB C a s h)
  | none => .bad
variable {C s h}
theorem forE_cons {tg : Tg} {a : Bl} {ok : Hs → Prop} {d : D} {ds : List D} (q : ok h) : forE C tg a ok (d :: ds) s h = kForA C tg a ok ds h (asg tg d s) := by
  unfold forE
  rw [forL, if_pos q]
  simp only [forG, kForA]
  cases asg tg d s with
  | none => rfl
  | some s2 =>
    simp only [kForR, forE]
    all_goals (cases exB C a s2 h <;> rfl)
theorem forE_nil' {tg : Tg} {a : Bl} {ok : Hs → Prop} (q : ok h) : forE C tg a ok [] s h = .nx s h := forE_nil q
variable (tg : Tg) (a : Bl) (ok : Hs → Prop) (d : D) (ds : List D) (c : Cn) (fs : List D)
@[simp] theorem kForA_some : kForA C tg a ok ds h (some s) = kForR C tg a ok ds (exB C a s h) := rfl
@[simp] theorem kForR_nx : kForR C tg a ok ds (.nx s h) = forE C tg a ok ds s h := rfl
@[simp] theorem kForR_ct : kForR C tg a ok ds (.ct s h) = forE C tg a ok ds s h := rfl
@[simp] theorem kForR_bk : kForR C tg a ok ds (.bk s h) = .nx s h := rfl
@[simp] theorem kForR_rt : kForR C tg a ok ds (.rt d h) = .rt d h := rfl
@[simp] theorem kForR_exc : kForR C tg a ok ds (.exc c fs s h) = .exc c fs s h := rfl
@[simp] theorem asg_one (i : Nat) : asg (.one i) d s = some (s.set i (some d)) := rfl
@[simp] theorem asg_two (i j : Nat) (x y : D) : asg (.many [i, j]) (.tup [x, y]) s = some ((s.set i (some x)).set j (some y)) := rfl
@[simp] theorem asg_three (i j k : Nat) (x y z : D) : asg (.many [i, j, k]) (.tup [x, y, z]) s = some (((s.set i (some x)).set j (some y)).set k (some z)) := rfl
@[simp] theorem run_neB (x y : Bool) : Cop.run .ne (.bl x) (.bl y) h = .ok (.bl (!(x == y))) h := by
  simp [Cop.run, eqv, rsv, rsF, ddep, opt, deq]
@[simp] theorem run_eqB (x y : Bool) : Cop.run .eq (.bl x) (.bl y) h = .ok (.bl (x == y)) h := by
  simp [Cop.run, eqv, rsv, rsF, ddep, opt, deq]
@[simp] theorem run_neS (x y : PySem.Str) : Cop.run .ne (.str x) (.str y) h = .ok (.bl (!(x == y))) h := by
  simp [Cop.run, eqv, rsv, rsF, ddep, opt, deq]
@[simp] theorem atI_two {α : Type} (x y z : α) (xs : List α) : atI (x :: y :: z :: xs) 2 = some z := by
  rw [atI_nat (by omega) (by simp <;> omega)]; rfl
@[simp] theorem atI_three {α : Type} (x y z u : α) (xs : List α) : atI (x :: y :: z :: u :: xs) 3 = some u := by
  rw [atI_nat (by omega) (by simp <;> omega)]; rfl
@[simp] theorem atI_four {α : Type} (x y z u v : α) (xs : List α) : atI (x :: y :: z :: u :: v :: xs) 4 = some v := by
  rw [atI_nat (by omega) (by simp <;> omega)]; rfl
theorem run_addS {x y : PySem.Str} (l : x.length + y.length ≤ SZ) : Bop.run .add (.str x) (.str y) h = .ok (.str (x ++ y)) h := if_pos l
end
/-! ### texts of numbers -/
theorem strOk_S (s : String) : PySem.PyData.strOk (S s) = true := by
  unfold S PySem.PyData.strOk
  rw [PySem.Str.ofString_eq_toList]
  rw [Array.all_eq_true]
  intro i hi
  simp only [List.size_toArray, List.length_map] at hi
  simp only [List.getElem_toArray, List.getElem_map, decide_eq_true_eq]
  have v := (s.toList[i]).valid
  rcases v with v | ⟨_, v⟩
  · exact Nat.lt_trans v (by decide)
  · exact v
theorem toStr_len {i : Int} (q : strB i) : (toStr i).length ≤ 1901 := by
  unfold toStr S
  rw [PySem.ofString_length]
  exact PySem.int_text_length_le (k := 1900) (by decide) q
theorem str_int {i : Int} {h : Hs} (q : strB i) : Bi.run .str [.int i] h = .ok (.str (toStr i)) h := by
  simp only [Bi.run]
  rw [if_pos ⟨q, strOk_S _⟩]
theorem len_S (s : String) : (S s).length = s.length := PySem.ofString_length s
theorem len_app (x y : PySem.Str) : (x ++ y).length = x.length + y.length := PySem.strLen_append x y
end Q

/-! loops with an invariant, heaps that grow -/
namespace Q
/-- the heap h, with more behind it -/
def Gr (h h' : Hs) : Prop := ∃ G, h' = h ++ G
theorem Gr.refl (h : Hs) : Gr h h := ⟨[], by simp⟩
theorem Gr.trans {a b c : Hs} (x : Gr a b) (y : Gr b c) : Gr a c := by
  obtain ⟨g, rfl⟩ := x
  obtain ⟨k, rfl⟩ := y
  exact ⟨g ++ k, by simp⟩
theorem Gr.push {a b : Hs} (x : Gr a b) (o : O) : Gr a (b ++ [o]) := x.trans ⟨[o], rfl⟩
theorem Gr.app (h G : Hs) : Gr h (h ++ G) := ⟨G, rfl⟩
theorem Gr.at {a b : Hs} (x : Gr a b) {n : Nat} {o : O} (h : a[n]? = some o) : b[n]? = some o := by
  obtain ⟨g, rfl⟩ := x
  have := List.getElem?_eq_some_iff.mp h
  obtain ⟨l, e⟩ := this
  rw [List.getElem?_append_left l]; exact h
theorem Gr.len {a b : Hs} (x : Gr a b) : a.length ≤ b.length := by
  obtain ⟨g, rfl⟩ := x
  simp
noncomputable section
variable {C : Cl} {s : Ev} {h : Hs}
theorem forE_inv {tg : Tg} {a : Bl} {ok : Hs → Prop} (P : Ev → Hs → Prop) (hok : ∀ s h, P s h → ok h) : ∀ {ds : List D} {s : Ev} {h : Hs},
    (∀ d ∈ ds, ∀ s h, P s h → ∃ s2 s3 h3, asg tg d s = some s2 ∧ (exB C a s2 h = .nx s3 h3 ∨ exB C a s2 h = .ct s3 h3) ∧ P s3 h3) → P s h → ∃ s' h', forE C tg a ok ds s h = .nx s' h' ∧ P s' h'
  | [], s, h, _, p => ⟨s, h, forE_nil (hok s h p), p⟩
  | d :: ds, s, h, st, p => by
    obtain ⟨s2, s3, h3, e1, e2, p3⟩ := st d List.mem_cons_self s h p
    obtain ⟨s', h', e, p'⟩ := forE_inv P hok (fun d hd => st d (List.mem_cons_of_mem _ hd)) p3
    refine ⟨s', h', ?_, p'⟩
    rcases e2 with e2 | e2
    · rw [forE_nx (hok s h p) e1 e2]; exact e
    · rw [forE_ct (hok s h p) e1 e2]; exact e
/-- .. told by how many turns are done -/
theorem forE_ix {tg : Tg} {a : Bl} {ok : Hs → Prop} (P : Nat → Ev → Hs → Prop) (hok : ∀ i s h, P i s h → ok h) : ∀ {ds : List D} {n : Nat} {s : Ev} {h : Hs},
    (∀ i d, ds[i]? = some d → ∀ s h, P (n + i) s h → ∃ s2 s3 h3, asg tg d s = some s2 ∧ (exB C a s2 h = .nx s3 h3 ∨ exB C a s2 h = .ct s3 h3) ∧ P (n + i + 1) s3 h3) → P n s h → ∃ s' h', forE C tg a ok ds s h = .nx s' h' ∧ P (n + ds.length) s' h'
  | [], n, s, h, _, p => ⟨s, h, forE_nil (hok n s h p), p⟩
  | d :: ds, n, s, h, st, p => by
    obtain ⟨s2, s3, h3, e1, e2, p3⟩ := st 0 d rfl s h p
    obtain ⟨s', h', e, p'⟩ := forE_ix (ds := ds) (n := n + 1) P hok (fun i d hd s h q => by
      have := st (i + 1) d (by simpa using hd) s h (by rw [show n + (i + 1) = n + 1 + i by omega]; exact q)
      rw [show n + 1 + i + 1 = n + (i + 1) + 1 by omega]
      exact this) p3
    refine ⟨s', h', ?_, by rw [List.length_cons, show n + (ds.length + 1) = n + 1 + ds.length by omega]; exact p'⟩
    rcases e2 with e2 | e2
    · rw [forE_nx (hok n s h p) e1 e2]; exact e
    · rw [forE_ct (hok n s h p) e1 e2]; exact e
theorem rangeL_mem : ∀ {n : Nat} {lo : Int} {d : D}, d ∈ rangeL lo n → ∃ i : Nat, i < n ∧ d = .int (lo + i)
  | 0, lo, d, h => by cases h
  | n + 1, lo, d, h => by
    unfold rangeL at h
    rcases List.mem_cons.mp h with rfl | h
    · exact ⟨0, by omega, by simp⟩
    · obtain ⟨i, hi, rfl⟩ := rangeL_mem h
      exact ⟨i + 1, by omega, by congr 1; omega⟩
theorem rangeC_mem : ∀ {n : Nat} {lo c : Int} {d : D}, d ∈ rangeC lo c n → ∃ i : Nat, i < n ∧ d = .int (lo + i * c)
  | 0, lo, c, d, h => by cases h
  | n + 1, lo, c, d, h => by
    unfold rangeC at h
    rcases List.mem_cons.mp h with rfl | h
    · exact ⟨0, by omega, by simp⟩
    · obtain ⟨i, hi, rfl⟩ := rangeC_mem h
      refine ⟨i + 1, by omega, ?_⟩
      congr 1
      have : ((i + 1 : Nat) : Int) * c = i * c + c := by rw [Int.natCast_succ, Int.add_mul, Int.one_mul]
      omega
theorem rng3_ok {i j c : Int} (q : small i ∧ small j ∧ 0 < c ∧ c < 1000) : rng3 (.int i) (.int j) (.int c) h = .ok ⟨rangeC i c ((j - i + c - 1) / c).toNat, fun _ => True⟩ h := by simp only [rng3, q, and_self, if_true]
/-- a comprehension whose heap grows -/
theorem kComp_inv {e : Ex} {tg : Tg} {own : List Nat} {w : Walk} (f : D → D) (P : Hs → Prop) (hok : ∀ h, P h → w.ok h)
    (he : ∀ d ∈ w.items, ∀ h, P h → ∃ s2 h', asg tg d (wipe s own) = some s2 ∧ evE C e s2 h = .ok (f d) h' ∧ P h') (hl : w.items.length ≤ SZ) (hp : P h) :
    ∃ h', P h' ∧ kComp C s e tg .none own (.ok w h) = .ok (.ref h'.length) (h' ++ [.lst (w.items.map f)]) := by
  have go : ∀ (l : List D) (h : Hs), P h → (∀ d ∈ l, ∀ h, P h → ∃ s2 h', asg tg d (wipe s own) = some s2 ∧ evE C e s2 h = .ok (f d) h' ∧ P h') → ∃ h', P h' ∧ compL w.ok (compG tg own (fun s h => evC C .none s h) (fun s h => evE C e s h) s) l h = .ok (l.map f) h' := by
    intro l
    induction l with
    | nil => intro h p _; refine ⟨h, p, ?_⟩; unfold compL; rw [if_pos (hok h p)]; rfl
    | cons d l ih =>
      intro h p hd
      obtain ⟨s2, h2, e1, e2, p2⟩ := hd d List.mem_cons_self h p
      obtain ⟨h3, p3, e3⟩ := ih h2 p2 fun d hd' => hd d (List.mem_cons_of_mem _ hd')
      refine ⟨h3, p3, ?_⟩
      unfold compL
      rw [if_pos (hok h p)]
      have hg : compG tg own (fun s h => evC C .none s h) (fun s h => evE C e s h) s d h = .ok (some (f d)) h2 := by
        simp only [compG, e1, evC_none, e2]
      rw [hg]
      simp only
      rw [e3]
      rfl
  obtain ⟨h', p', e'⟩ := go w.items h hp he
  refine ⟨h', p', ?_⟩
  show compE w _ h = _
  unfold compE
  rw [e']
  simp only [hl, if_true]
variable (C s h)
def kR31 (b c : Ex) : R D → R Walk := fun r => r.bind fun x h => (evE C b s h).bind fun y h => (evE C c s h).bind fun z h => rng3 x y z h
def kR32 (x : D) (c : Ex) : R D → R Walk := fun r => r.bind fun y h => (evE C c s h).bind fun z h => rng3 x y z h
def kR33 (x y : D) : R D → R Walk := fun r => r.bind fun z h => rng3 x y z h
variable {C s h} (x y z : D)
@[simp] theorem walk_r3 (a b c : Ex) : walk C (.r3 a b c) s h = kR31 C s b c (evE C a s h) := by simp only [walk, kR31]
@[simp] theorem kR31_ok (b c : Ex) : kR31 C s b c (.ok x h) = kR32 C s x c (evE C b s h) := rfl
@[simp] theorem kR32_ok (c : Ex) : kR32 C s x c (.ok y h) = kR33 x y (evE C c s h) := rfl
@[simp] theorem kR33_ok : kR33 x y (.ok z h) = rng3 x y z h := by cases z <;> rfl
@[simp] theorem max_int (i j : Int) : Bi.run .max [.int i, .int j] h = .ok (.int (if j > i then j else i)) h := rfl
@[simp] theorem min_int (i j : Int) : Bi.run .min [.int i, .int j] h = .ok (.int (if j < i then j else i)) h := rfl
@[simp] theorem int_int (i : Int) : Bi.run .int [.int i] h = .ok (.int i) h := rfl
@[simp] theorem int_bl (b : Bool) : Bi.run .int [.bl b] h = .ok (.int (b2i b)) h := rfl
theorem all_lst {n : Nat} {xs : List D} {bs : List Bool} (q : h[n]? = some (.lst xs)) (e : boolsL xs = some bs) : Bi.run .all [.ref n] h = .ok (.bl (bs.all id)) h := by
  simp only [Bi.run, listOf, q, Option.bind_some, e, opt_some]
theorem any_lst {n : Nat} {xs : List D} {bs : List Bool} (q : h[n]? = some (.lst xs)) (e : boolsL xs = some bs) : Bi.run .any [.ref n] h = .ok (.bl (bs.any id)) h := by
  simp only [Bi.run, listOf, q, Option.bind_some, e, opt_some]
theorem boolsL_map {α : Type} (f : α → Bool) : ∀ l : List α, boolsL (l.map fun a => .bl (f a)) = some (l.map f)
  | [] => rfl
  | a :: l => by simp [boolsL, boolsL_map f l]
end
end Q

/-! sayings drawn by the numbers of a script -/
namespace Q
/-! ### texts by their signs -/
theorem chars_inj' : ∀ {a b : List Char}, a.map Char.toNat = b.map Char.toNat → a = b
  | [], [], _ => rfl
  | [], _ :: _, h => by simp at h
  | _ :: _, [], h => by simp at h
  | a :: as, b :: bs, h => by
    simp only [List.map_cons, List.cons.injEq] at h
    have e : a = b := Char.ext (UInt32.toNat_inj.mp h.1)
    rw [e, chars_inj' h.2]
theorem S_inj {a b : String} (h : S a = S b) : a = b := by
  unfold S at h
  rw [PySem.Str.ofString_eq_toList, PySem.Str.ofString_eq_toList] at h
  injection h with h
  have e : a.toList.map Char.toNat = b.toList.map Char.toNat := by
    have := congrArg Array.toList h
    simpa using this
  exact String.ext (by have := chars_inj' e; simpa using this)
@[simp] theorem S_eq (a b : String) : (S a == S b) = decide (a = b) := by
  by_cases h : a = b
  · subst h; simp
  · rw [decide_eq_false h, beq_eq_false_iff_ne]
    exact fun e => h (S_inj e)
noncomputable section
variable {h : Hs}
theorem in2_S (x a b : PySem.Str) : Cop.run .isin (.str x) (.tup [.str a, .str b]) h = .ok (.bl (a == x || b == x)) h := by
  simp [Cop.run, isIn, inSeq, eqv, rsv, rsF, ddep, deq, opt]
@[simp] theorem and_tt (C : Cl) (s : Ev) (es : Exs) : evAnd C (.cons (.k (.bl true)) es) s h = (match es with
    | .nil => .ok (.bl true) h
    | es => evAnd C es s h) := by
  cases es <;> simp
theorem popAt_cons {n : Nat} {x : D} {xs : List D} (q : h[n]? = some (.lst (x :: xs))) : Bm.run .popAt (.ref n) [.int 0] h = .ok x (h.set n (.lst xs)) := by
  simp only [Bm.run, q, if_true]
theorem slice_lst {n : Nat} {xs : List D} (q : h[n]? = some (.lst xs)) (lo hi : Option Int) : slice (.ref n) lo hi h = .ok (.ref h.length) (h ++ [.lst (cut xs lo hi)]) := by
  simp only [slice, q]
end
theorem cut_map {α β : Type} (f : α → β) (xs : List α) (lo hi : Option Int) : cut (xs.map f) lo hi = (cut xs lo hi).map f := by
  simp only [cut, List.length_map, List.map_take, List.map_drop]
theorem cut_mem {α : Type} {xs : List α} {lo hi : Option Int} {x : α} (h : x ∈ cut xs lo hi) : x ∈ xs := List.mem_of_mem_drop (List.mem_of_mem_take h)
theorem cut_len {α : Type} (xs : List α) (lo hi : Option Int) : (cut xs lo hi).length ≤ xs.length := by
  simp only [cut, List.length_take, List.length_drop]
  omega
theorem rangeL_len' : ∀ (lo : Int) (n : Nat), (rangeL lo n).length = n
  | _, 0 => rfl
  | lo, n + 1 => by rw [rangeL, List.length_cons, rangeL_len' (lo + 1) n]
/-- the cells of a law: not below nought, of bounded size -/
def Cells (cs : List Int) : Prop := ∀ c ∈ cs, 0 ≤ c ∧ Bd 1048577 c
theorem len_and (ns : List Int) (h : Hs) (h0 : h[0]? = some (.frz (ns.map .int))) (C : Cl) (s : Ev) (hs : getL s 0 = some (.ref 0)) :
    evAnd C (.cons (.cmp .gt (.b .len (.cons (.v 0) .nil)) (.k (.int 0))) (.cons (.cmp .eq (.bin .mod (.sub (.v 0) (.k (.int 0))) (.k (.int 2))) (.k (.int 1))) .nil)) s h = .ok (.bl (odd0 ns)) h := by
  cases ns with
  | nil => simp [hs, len_frz h0, odd0]
  | cons z zs =>
    have hl : (0 : Int) < (zs.length : Int) + 1 := by omega
    have hg : getI (.ref 0) (.int 0) h = .ok (.int z) h := by
      rw [getI_frz h0, atI_nat (by omega) (by simp <;> omega)]
      rfl
    simp [hs, len_frz h0, hl, hg, run_mod, odd0]
def mixBody : Bl := match f__law_mixed.body with
  | .cons _ (.cons _ (.cons (.for _ _ b) _)) => b
  | _ => .nil
theorem mixed_turn {C : Cl} {h : Hs} {ns : List Int} (h0 : h[0]? = some (.frz (ns.map .int))) (S : Scr ns) (l : Option D) (ms : List Int) (hm : Cells ms) (hl : ms.length < 100) (j : Int) (j0 : 0 ≤ j) (j1 : j < 100) (v : Option D) :
    ∃ c w, (0 ≤ c ∧ Bd 1048577 c) ∧ exB C mixBody [some (.ref 0), l, some (.bl (odd0 ns)), some (.ref h.length), some (.int j), v] (h ++ [.lst (ms.map .int)]) = .nx [some (.ref 0), l, some (.bl (odd0 ns)), some (.ref h.length), some (.int j), w] (h ++ [.lst ((ms ++ [c]).map .int)]) := by
  have g0 : (h ++ [.lst (ms.map .int)])[0]? = some (.frz (ns.map .int)) := (Gr.app h _).at h0
  have bk : bmK .append (.ref h.length) (h ++ [.lst (ms.map .int)]) = true := bmK_lst (xs := ms.map .int) .append (by simp)
  have ap : ∀ d, Bm.run .append (.ref h.length) [d] (h ++ [.lst (ms.map .int)]) = .ok .non (h ++ [.lst (ms.map .int ++ [d])]) := fun d => by
    rw [append_lst (xs := ms.map .int) (by simp) (by simp [SZ]; omega)]
    simp
  have ln := len_frz g0
  rw [List.length_map] at ln
  obtain ⟨c, bc, hc⟩ : ∃ c, Bd 1048577 c ∧ (j < ns.length → getI (.ref 0) (.int j) (h ++ [.lst (ms.map .int)]) = .ok (.int c) (h ++ [.lst (ms.map .int)])) ∧ (¬ j < ns.length → c = 0) := by
    by_cases hj : j < ns.length
    · refine ⟨ns[j.toNat]'(by omega), Bd.bits (S.bits _ (List.getElem_mem _)), fun _ => ?_, fun z => absurd hj z⟩
      rw [getI_frz g0, atI_nat j0 (by simpa using hj)]
      simp
    · exact ⟨0, Bd.of (Nat.pow_pos (by decide)), fun z => absurd z hj, fun _ => rfl⟩
  have ba : 0 ≤ (c.natAbs : Int) ∧ Bd 1048577 (c.natAbs : Int) := ⟨by omega, bc.le (by omega)⟩
  have nz : (10 ^ 18 : Int) ≠ 0 := by decide
  have b1 : Bd 60 (c.fmod (10 ^ 18)) := Bd.fmod _ (Bd.of (by decide)) (by decide)
  have m1 := b1.mulB (by decide)
  have m2 : mulB 48271 := by decide
  have m3 : mulB 16807 := by decide
  have m4 : mulB (j + 1) := (show Bd 10 (j + 1) from Bd.of (by omega)).mulB (by decide)
  have m5 : mulB 69621 := by decide
  generalize hN : (10 ^ 18 : Int) = N at *
  have m6 : mulB ((c.fmod N * 48271 + 16807 * (j + 1)).fmod 2147483647) := (show Bd 31 _ from Bd.fmod _ (Bd.of (by decide)) (by decide)).mulB (by decide)
  have bm : 0 ≤ ((c.fmod N * 48271 + 16807 * (j + 1)).fmod 2147483647 * 69621).fmod 2147483629 ∧ Bd 1048577 (((c.fmod N * 48271 + 16807 * (j + 1)).fmod 2147483647 * 69621).fmod 2147483629) :=
    ⟨Int.fmod_nonneg_of_pos _ (by decide), (show Bd 31 _ from Bd.fmod _ (Bd.of (by decide)) (by decide)).mono (by decide)⟩
  by_cases hj : j < ns.length
  · have hg := hc.1 hj
    by_cases ho : odd0 ns = true
    · by_cases hp : 0 < j
      · refine ⟨_, some (.int c), ba, ?_⟩
        simp [mixBody, f__law_mixed, ln, hj, hg, ho, hp, bk, ap]
        omega
      · refine ⟨_, some (.int c), bm, ?_⟩
        simp [mixBody, f__law_mixed, ln, hj, hg, ho, hp, bk, ap, run_mod, run_mul, run_pow, hN, nz, m1, m2, m3, m4, m5, m6]
    · have ho' : odd0 ns = false := by simpa using ho
      refine ⟨_, some (.int c), bm, ?_⟩
      simp [mixBody, f__law_mixed, ln, hj, hg, ho', bk, ap, run_mod, run_mul, run_pow, hN, nz, m1, m2, m3, m4, m5, m6]
  · have ec := hc.2 hj
    subst ec
    have z1 : mulB 0 := by decide
    have z6 : mulB ((16807 * (j + 1)).fmod 2147483647) := (show Bd 31 _ from Bd.fmod _ (Bd.of (by decide)) (by decide)).mulB (by decide)
    by_cases ho : odd0 ns = true
    · refine ⟨_, some (.int 0), bm, ?_⟩
      by_cases hp : 0 < j
      · simp [mixBody, f__law_mixed, ln, hj, ho, hp, bk, ap, run_mod, run_mul, run_pow, hN, nz, m2, m3, m4, m5, z1, z6]
      · simp [mixBody, f__law_mixed, ln, hj, ho, hp, bk, ap, run_mod, run_mul, run_pow, hN, nz, m2, m3, m4, m5, z1, z6]
    · have ho' : odd0 ns = false := by simpa using ho
      refine ⟨_, some (.int 0), bm, ?_⟩
      simp [mixBody, f__law_mixed, ln, hj, ho', bk, ap, run_mod, run_mul, run_pow, hN, nz, m2, m3, m4, m5, z1, z6]
theorem mixed_ok {T : Tab} (hT : T.fn "_law_mixed" = some f__law_mixed) {h : Hs} {ns : List Int} (h0 : h[0]? = some (.frz (ns.map .int))) (S : Scr ns) (k : Nat) (least : Int) (l0 : 0 ≤ least) (l1 : least < 62) :
    ∃ (cs : List Int) (o : O), Cells cs ∧ cs.length < 100 ∧ call T (k + 1) "_law_mixed" [.ref 0, .int least] h = .ok (.ref (h.length + 1)) (h ++ [o, .lst (cs.map .int)]) := by
  have hl := S.len
  generalize hm : (if least + 1 < (if (ns.length : Int) < 63 then (ns.length : Int) else 63) then (if (ns.length : Int) < 63 then (ns.length : Int) else 63) else least + 1) = m
  have m1 : 0 ≤ m ∧ m ≤ 63 := by rw [← hm]; split <;> split <;> omega
  have r := rng1_ok (h := h ++ [.lst []]) (j := m) ⟨by omega, by omega⟩
  obtain ⟨s', h', e, ms, w, v, es, eh, cm, lm⟩ := forE_ix (C := ⟨T, call T k⟩) (tg := .one 4) (a := mixBody) (ok := fun _ => True)
    (fun i s H => ∃ ms w v, s = [some (.ref 0), some (.int least), some (.bl (odd0 ns)), some (.ref h.length), w, v] ∧ H = h ++ [.lst (ms.map .int)] ∧ Cells ms ∧ ms.length = i) (fun _ _ _ _ => trivial)
    (ds := rangeL 0 m.toNat) (n := 0) (s := [some (.ref 0), some (.int least), some (.bl (odd0 ns)), some (.ref h.length), none, none]) (h := h ++ [.lst []])
    (fun i d hd s H ⟨ms, w, v, es, eh, cm, lm⟩ => by
      obtain ⟨j, hj, rfl⟩ := rangeL_mem (List.mem_of_getElem? hd)
      have hi : i < m.toNat := by
        have := (List.getElem?_eq_some_iff.mp hd).1
        rwa [rangeL_len'] at this
      obtain ⟨c, w', bc, e⟩ := mixed_turn (C := ⟨T, call T k⟩) h0 S (some (.int least)) ms cm (by omega) (0 + j) (by omega) (by omega) v
      subst es eh
      exact ⟨_, _, _, rfl, .inl e, ms ++ [c], _, _, rfl, rfl, fun x hx => by
        rcases List.mem_append.mp hx with hx | hx
        · exact cm x hx
        · rw [List.mem_singleton.mp hx]; exact bc, by simp [lm]⟩) ⟨[], _, _, rfl, by simp, fun x hx => by simp at hx, rfl⟩
  subst es eh
  rw [rangeL_len'] at lm
  refine ⟨cut ms (some (b2i (odd0 ns))) none, .lst (ms.map .int), fun x hx => cm x (cut_mem hx), Nat.lt_of_le_of_lt (cut_len _ _ _) (by omega), ?_⟩
  rw [call_eq hT rfl]
  have ea := len_and ns h h0 ⟨T, call T k⟩ [some (.ref 0), some (.int least), none, none, none, none] rfl
  have ln := len_frz (h := h ++ [.lst []]) ((Gr.app h _).at h0)
  rw [List.length_map] at ln
  have sl := slice_lst (h := h ++ [.lst (ms.map .int)]) (n := h.length) (xs := ms.map .int) (by simp) (some (b2i (odd0 ns))) none
  rw [cut_map] at sl
  simp only [mixBody, f__law_mixed] at e
  simp [f__law_mixed, start, List.replicate_succ] at ea ⊢
  simp [ea, ln, hm, r, e, sl]
theorem set_same {h : Hs} {n : Nat} {o : O} (q : h[n]? = some o) : h.set n o = h := by
  apply List.ext_getElem?
  intro i
  by_cases e : i = n
  · subst e
    have l := (List.getElem?_eq_some_iff.mp q).1
    rw [List.getElem?_set_self l, q]
  · rw [List.getElem?_set_ne (Ne.symm e)]
theorem at_set {h : Hs} {n : Nat} {o o' : O} (q : h[n]? = some o) : (h.set n o')[n]? = some o' := List.getElem?_set_self (List.getElem?_eq_some_iff.mp q).1
theorem next_ok {T : Tab} (hT : T.fn "_law_next" = some f__law_next) (k : Nat) {h : Hs} {n : Nat} {cs : List Int} (hn : h[n]? = some (.lst (cs.map .int))) (C : Cells cs) :
    ∃ c cs', (0 ≤ c ∧ Bd 1048577 c) ∧ Cells cs' ∧ cs'.length ≤ cs.length ∧ call T (k + 1) "_law_next" [.ref n] h = .ok (.int c) (h.set n (.lst (cs'.map .int))) := by
  rw [call_eq hT rfl]
  cases cs with
  | nil =>
    refine ⟨0, [], ⟨by decide, Bd.of (Nat.pow_pos (by decide))⟩, C, by simp, ?_⟩
    rw [set_same hn]
    simp [f__law_next, start, len_lst hn]
  | cons c cs =>
    refine ⟨c, cs, C c List.mem_cons_self, fun x hx => C x (List.mem_cons_of_mem _ hx), by simp, ?_⟩
    have bk : bmK .popAt (.ref n) h = true := bmK_lst (xs := (c :: cs).map .int) .popAt hn
    have pp : Bm.run .popAt (.ref n) [.int 0] h = .ok (.int c) (h.set n (.lst (cs.map .int))) := popAt_cons hn
    have e : ¬ ((cs.length : Int) + 1 = 0) := by omega
    have ln : Bi.run .len [.ref n] h = .ok (.int ((cs.length : Int) + 1)) h := by
      rw [len_lst hn]; simp
    simp [f__law_next, start, ln, e, bk, pp]
/-! ### trees of sayings -/
inductive Wo where | more | less | greater | lesser | leads
  deriving DecidableEq
inductive Tr where
  | nev | alw | lt (q : Bool) | nt (t : Tr) | fd (w : Wo) (a b : Tr)
  deriving DecidableEq
def Wo.s : Wo → String
  | .more => "more" | .less => "less" | .greater => "greater" | .lesser => "lesser" | .leads => "leads"
def Wo.of (i : Int) : Wo := if i = 0 then .more else if i = 1 then .less else if i = 2 then .greater else if i = 3 then .lesser else .leads
def Tr.size : Tr → Nat
  | .nev | .alw | .lt _ => 1
  | .nt t => 1 + t.size
  | .fd _ a b => 1 + a.size + b.size
def Tr.dep : Tr → Nat
  | .nev | .alw | .lt _ => 1
  | .nt t => 1 + t.dep
  | .fd _ a b => 1 + max a.dep b.dep
theorem Tr.dep_size : ∀ t : Tr, t.dep ≤ t.size
  | .nev | .alw | .lt _ => Nat.le_refl _
  | .nt t => by have := t.dep_size; simp only [Tr.dep, Tr.size]; omega
  | .fd _ a b => by have := a.dep_size; have := b.dep_size; simp only [Tr.dep, Tr.size]; omega
theorem Tr.dep_pos : ∀ t : Tr, 1 ≤ t.dep
  | .nev | .alw | .lt _ => Nat.le_refl _
  | .nt t => by simp only [Tr.dep]; omega
  | .fd _ a b => by simp only [Tr.dep]; omega
def Tr.ls (q : Bool) : String := if q = true then "q" else "p"
/-- the law's tuples -/
def Tr.d : Tr → D
  | .nev => .tup [.str (S "never")]
  | .alw => .tup [.str (S "always")]
  | .lt q => .tup [.str (S (Tr.ls q))]
  | .nt t => .tup [.str (S "not"), t.d]
  | .fd w a b => .tup [.str (S w.s), a.d, b.d]
theorem fmod_ofNat_range (a m : Int) (h : 0 < m) : ∃ i : Nat, a.fmod m = i ∧ (i : Int) < m := by
  have q1 := Int.fmod_nonneg_of_pos a h
  have q2 := Int.fmod_lt_of_pos a h
  exact ⟨(a.fmod m).toNat, by omega, by omega⟩
theorem words_at (i : Int) (h0 : 0 ≤ i) (h1 : i < 5) : atI [D.str (S "more"), D.str (S "less"), D.str (S "greater"), D.str (S "lesser"), D.str (S "leads")] i = some (.str (S (Wo.of i).s)) := by
  have : i = 0 ∨ i = 1 ∨ i = 2 ∨ i = 3 ∨ i = 4 := by omega
  rcases this with rfl | rfl | rfl | rfl | rfl <;> simp [Wo.of, Wo.s]
theorem saying_ok {T : Tab} (hT : T.fn "_law_saying" = some f__law_saying) (hN : T.fn "_law_next" = some f__law_next) (two : Bool) (k : Nat) : ∀ (m : Nat) (room : Int), 1 ≤ room → room ≤ m → ∀ {h : Hs} {n : Nat} {cs : List Int}, h[n]? = some (.lst (cs.map .int)) → Cells cs →
    ∃ (t : Tr) (cs' : List Int), (t.size : Int) ≤ room ∧ Cells cs' ∧ cs'.length ≤ cs.length ∧ call T (k + 1 + m) "_law_saying" [.ref n, .int room, .bl two] h = .ok t.d (h.set n (.lst (cs'.map .int)))
  | 0, room, h1, h2, _, _, _, _, _ => by omega
  | m + 1, room, h1, h2, h, n, cs, hn, C => by
    obtain ⟨c, c1, bc, C1, l1, e1⟩ := next_ok hN (k + m) hn C
    rw [show k + 1 + (m + 1) = k + 1 + m + 1 by omega, call_eq hT rfl]
    rw [show k + m + 1 = k + 1 + m by omega] at e1
    have hn1 : (h.set n (.lst (c1.map .int)))[n]? = some (.lst (c1.map .int)) := at_set hn
    have d16 : divB 16 := by decide
    have d5 : divB 5 := by decide
    have q1 := Int.fmod_nonneg_of_pos c (show (0 : Int) < 16 by decide)
    have w1 := Int.fmod_nonneg_of_pos (c.fdiv 16) (show (0 : Int) < 5 by decide)
    have w2 := Int.fmod_lt_of_pos (c.fdiv 16) (show (0 : Int) < 5 by decide)
    by_cases hr : 2 < room ∧ 3 < c.fmod 16
    · have v1 := Int.fmod_nonneg_of_pos ((c.fdiv 16).fdiv 5) (show (0 : Int) < room - 2 by omega)
      have v2 := Int.fmod_lt_of_pos ((c.fdiv 16).fdiv 5) (show (0 : Int) < room - 2 by omega)
      have nz : room - 2 ≠ 0 := by omega
      generalize hlf : 1 + ((c.fdiv 16).fdiv 5).fmod (room - 2) = lf
      obtain ⟨a, c2, sa, C2, l2, e2⟩ := saying_ok hT hN two k m lf (by omega) (by omega) hn1 C1
      have hn2 : ((h.set n (.lst (c1.map .int))).set n (.lst (c2.map .int)))[n]? = some (.lst (c2.map .int)) := at_set hn1
      obtain ⟨b, c3, sb, C3, l3, e3⟩ := saying_ok hT hN two k m (room - 1 - lf) (by omega) (by omega) hn2 C2
      rw [List.set_set] at e2 hn2 e3
      rw [List.set_set] at e3
      refine ⟨.fd (Wo.of ((c.fdiv 16).fmod 5)) a b, c3, by simp only [Tr.size]; omega, C3, by omega, ?_⟩
      have wa := words_at _ w1 w2
      have hh1 := hr.1
      have hh2 := hr.2
      simp [f__law_saying, start, List.replicate_succ, e1, run_fdiv, run_mod, d16, d5, hh1, hh2, nz, hlf, e2, e3, wa, Tr.d]
    · by_cases hr2 : 1 < room ∧ c.fmod 16 < 3
      · obtain ⟨a, c2, sa, C2, l2, e2⟩ := saying_ok hT hN two k m (room - 1) (by omega) (by omega) hn1 C1
        rw [List.set_set] at e2
        refine ⟨.nt a, c2, by simp only [Tr.size]; omega, C2, by omega, ?_⟩
        have hh1 := hr2.1
        have hh2 := hr2.2
        have hh3 : ¬ (3 < c.fmod 16) := by omega
        by_cases hh4 : 2 < room
        · simp [f__law_saying, start, List.replicate_succ, e1, run_fdiv, run_mod, d16, hh1, hh2, hh3, hh4, e2, Tr.d]
        · simp [f__law_saying, start, List.replicate_succ, e1, run_fdiv, run_mod, d16, hh1, hh2, hh4, e2, Tr.d]
      · have z1 := Int.fmod_nonneg_of_pos (c.fdiv 16) (show (0 : Int) < 9 by decide)
        have z2 := Int.fmod_lt_of_pos (c.fdiv 16) (show (0 : Int) < 9 by decide)
        have y1 := Int.fmod_nonneg_of_pos (c.fdiv 16) (show (0 : Int) < 2 by decide)
        have y2 := Int.fmod_lt_of_pos (c.fdiv 16) (show (0 : Int) < 2 by decide)
        have m1 : mulB ((c.fdiv 16).fmod 2) := (show Bd 3 _ from Bd.of (by omega)).mulB (by decide)
        have m2 : mulB (b2i two) := by cases two <;> decide
        -- the head's two questions are both no
        have red : ∀ t : Tr, (t.d = if 6 < (c.fdiv 16).fmod 9 then (if (c.fdiv 16).fmod 9 - 7 = 0 then Tr.nev.d else Tr.alw.d) else Tr.d (.lt (decide ((c.fdiv 16).fmod 2 * b2i two = 1)))) →
            (exB ⟨T, call T (k + 1 + m)⟩ f__law_saying.body (start f__law_saying.ns [.ref n, .int room, .bl two]) h).fin = .ok t.d (h.set n (.lst (c1.map .int))) := by
          intro t ht
          have ix : (c.fdiv 16).fmod 2 * b2i two = 0 ∨ (c.fdiv 16).fmod 2 * b2i two = 1 := by
            cases two
            · exact .inl (by simp [b2i])
            · have : (c.fdiv 16).fmod 2 = 0 ∨ (c.fdiv 16).fmod 2 = 1 := by omega
              simpa [b2i] using this
          by_cases g1 : 2 < room
          · have g2 : ¬ (3 < c.fmod 16) := fun z => hr ⟨g1, z⟩
            have g3 : 1 < room := by omega
            have g4 : ¬ (c.fmod 16 < 3) := fun z => hr2 ⟨g3, z⟩
            by_cases g5 : 6 < (c.fdiv 16).fmod 9
            · have : (c.fdiv 16).fmod 9 - 7 = 0 ∨ (c.fdiv 16).fmod 9 - 7 = 1 := by omega
              rw [if_pos g5] at ht
              rcases this with g6 | g6
              · rw [if_pos g6] at ht
                simp [f__law_saying, start, List.replicate_succ, e1, run_fdiv, run_mod, d16, g1, g2, g3, g4, g5, g6, ht, Tr.d]
              · rw [if_neg (by omega)] at ht
                simp [f__law_saying, start, List.replicate_succ, e1, run_fdiv, run_mod, d16, g1, g2, g3, g4, g5, g6, ht, Tr.d]
            · rw [if_neg g5] at ht
              rcases ix with ix | ix
              · simp [f__law_saying, start, List.replicate_succ, e1, run_fdiv, run_mod, d16, g1, g2, g3, g4, g5, run_mul, m1, m2, ix, ht, Tr.d, Tr.ls]
              · simp [f__law_saying, start, List.replicate_succ, e1, run_fdiv, run_mod, d16, g1, g2, g3, g4, g5, run_mul, m1, m2, ix, ht, Tr.d, Tr.ls]
          · by_cases g3 : 1 < room
            · have g4 : ¬ (c.fmod 16 < 3) := fun z => hr2 ⟨g3, z⟩
              by_cases g5 : 6 < (c.fdiv 16).fmod 9
              · have : (c.fdiv 16).fmod 9 - 7 = 0 ∨ (c.fdiv 16).fmod 9 - 7 = 1 := by omega
                rw [if_pos g5] at ht
                rcases this with g6 | g6
                · rw [if_pos g6] at ht
                  simp [f__law_saying, start, List.replicate_succ, e1, run_fdiv, run_mod, d16, g1, g3, g4, g5, g6, ht, Tr.d]
                · rw [if_neg (by omega)] at ht
                  simp [f__law_saying, start, List.replicate_succ, e1, run_fdiv, run_mod, d16, g1, g3, g4, g5, g6, ht, Tr.d]
              · rw [if_neg g5] at ht
                rcases ix with ix | ix
                · simp [f__law_saying, start, List.replicate_succ, e1, run_fdiv, run_mod, d16, g1, g3, g4, g5, run_mul, m1, m2, ix, ht, Tr.d, Tr.ls]
                · simp [f__law_saying, start, List.replicate_succ, e1, run_fdiv, run_mod, d16, g1, g3, g4, g5, run_mul, m1, m2, ix, ht, Tr.d, Tr.ls]
            · by_cases g5 : 6 < (c.fdiv 16).fmod 9
              · have : (c.fdiv 16).fmod 9 - 7 = 0 ∨ (c.fdiv 16).fmod 9 - 7 = 1 := by omega
                rw [if_pos g5] at ht
                rcases this with g6 | g6
                · rw [if_pos g6] at ht
                  simp [f__law_saying, start, List.replicate_succ, e1, run_fdiv, run_mod, d16, g1, g3, g5, g6, ht, Tr.d]
                · rw [if_neg (by omega)] at ht
                  simp [f__law_saying, start, List.replicate_succ, e1, run_fdiv, run_mod, d16, g1, g3, g5, g6, ht, Tr.d]
              · rw [if_neg g5] at ht
                rcases ix with ix | ix
                · simp [f__law_saying, start, List.replicate_succ, e1, run_fdiv, run_mod, d16, g1, g3, g5, run_mul, m1, m2, ix, ht, Tr.d, Tr.ls]
                · simp [f__law_saying, start, List.replicate_succ, e1, run_fdiv, run_mod, d16, g1, g3, g5, run_mul, m1, m2, ix, ht, Tr.d, Tr.ls]
        by_cases g5 : 6 < (c.fdiv 16).fmod 9
        · by_cases g6 : (c.fdiv 16).fmod 9 - 7 = 0
          · exact ⟨.nev, c1, by simp only [Tr.size]; omega, C1, l1, red _ (by rw [if_pos g5, if_pos g6])⟩
          · exact ⟨.alw, c1, by simp only [Tr.size]; omega, C1, l1, red _ (by rw [if_pos g5, if_neg g6])⟩
        · exact ⟨.lt (decide ((c.fdiv 16).fmod 2 * b2i two = 1)), c1, by simp only [Tr.size]; omega, C1, l1, red _ (by rw [if_neg g5])⟩
end Q

/-! trees of sayings: texts, worths, objects -/
namespace Q
/-! ### texts -/
def Tr.tx : Tr → PySem.Str
  | .nev => S "never"
  | .alw => S "always"
  | .lt q => S (Tr.ls q)
  | .nt t => S "not " ++ t.tx
  | .fd w a b => S "( " ++ a.tx ++ S " " ++ S w.s ++ S " " ++ b.tx ++ S " )"
theorem tl_app (x y : PySem.Str) : (x ++ y).cps.toList = x.cps.toList ++ y.cps.toList := by
  show (x.cps ++ y.cps).toList = _
  simp
theorem c_never : (S "never").cps.toList = [110, 101, 118, 101, 114] := by decide +kernel
theorem c_always : (S "always").cps.toList = [97, 108, 119, 97, 121, 115] := by decide +kernel
theorem c_p : (S "p").cps.toList = [112] := by decide +kernel
theorem c_q : (S "q").cps.toList = [113] := by decide +kernel
theorem c_not : (S "not ").cps.toList = [110, 111, 116, 32] := by decide +kernel
theorem c_op : (S "( ").cps.toList = [40, 32] := by decide +kernel
theorem c_cl : (S " )").cps.toList = [32, 41] := by decide +kernel
theorem c_sp : (S " ").cps.toList = [32] := by decide +kernel
theorem c_more : (S "more").cps.toList = [109, 111, 114, 101] := by decide +kernel
theorem c_less : (S "less").cps.toList = [108, 101, 115, 115] := by decide +kernel
theorem c_greater : (S "greater").cps.toList = [103, 114, 101, 97, 116, 101, 114] := by decide +kernel
theorem c_lesser : (S "lesser").cps.toList = [108, 101, 115, 115, 101, 114] := by decide +kernel
theorem c_leads : (S "leads").cps.toList = [108, 101, 97, 100, 115] := by decide +kernel
theorem word_inj (w v : Wo) (r s : List Nat) (h : (S w.s).cps.toList ++ 32 :: r = (S v.s).cps.toList ++ 32 :: s) : w = v ∧ r = s := by
  cases w <;> cases v <;> simp [Wo.s, c_more, c_less, c_greater, c_lesser, c_leads] at h ⊢ <;> exact h
theorem tx_inj' : ∀ (t u : Tr) (r s : List Nat), t.tx.cps.toList ++ r = u.tx.cps.toList ++ s → t = u ∧ r = s
  | .nev, u, r, s, h => by
    cases u with
    | lt q => cases q <;> simp [Tr.tx, Tr.ls, tl_app, c_never, c_p, c_q] at h
    | nev => simpa [Tr.tx] using h
    | _ => simp [Tr.tx, tl_app, c_never, c_always, c_not, c_op] at h
  | .alw, u, r, s, h => by
    cases u with
    | lt q => cases q <;> simp [Tr.tx, Tr.ls, tl_app, c_always, c_p, c_q] at h
    | alw => simpa [Tr.tx] using h
    | _ => simp [Tr.tx, tl_app, c_never, c_always, c_not, c_op] at h
  | .lt q, u, r, s, h => by
    cases u with
    | lt q' => cases q <;> cases q' <;> simp [Tr.tx, Tr.ls, tl_app, c_p, c_q] at h ⊢ <;> exact h
    | _ => cases q <;> simp [Tr.tx, Tr.ls, tl_app, c_never, c_always, c_not, c_op, c_p, c_q] at h
  | .nt t, u, r, s, h => by
    cases u with
    | nt u =>
      simp [Tr.tx, tl_app, c_not] at h
      obtain ⟨e1, e2⟩ := tx_inj' t u r s h
      exact ⟨by rw [e1], e2⟩
    | lt q => cases q <;> simp [Tr.tx, Tr.ls, tl_app, c_not, c_p, c_q] at h
    | _ => simp [Tr.tx, tl_app, c_never, c_always, c_not, c_op] at h
  | .fd w a b, u, r, s, h => by
    cases u with
    | fd v c d =>
      simp only [Tr.tx, tl_app, c_op, c_sp, c_cl, List.append_assoc, List.cons_append, List.nil_append, List.cons.injEq, true_and] at h
      obtain ⟨e1, e2⟩ := tx_inj' a c _ _ h
      simp only [List.cons.injEq, true_and] at e2
      obtain ⟨e3, e4⟩ := word_inj w v _ _ e2
      obtain ⟨e5, e6⟩ := tx_inj' b d _ _ e4
      simp only [List.cons.injEq, true_and] at e6
      exact ⟨by rw [e1, e3, e5], e6⟩
    | lt q => cases q <;> simp [Tr.tx, Tr.ls, tl_app, c_op, c_p, c_q] at h
    | _ => simp [Tr.tx, tl_app, c_never, c_always, c_not, c_op] at h
theorem tx_inj {t u : Tr} (h : t.tx = u.tx) : t = u := (tx_inj' t u [] [] (by rw [h])).1
theorem tx_len : ∀ t : Tr, t.tx.length ≤ 20 * t.size
  | .nev => by simp only [Tr.tx, len_S, Tr.size]; decide
  | .alw => by simp only [Tr.tx, len_S, Tr.size]; decide
  | .lt q => by cases q <;> simp only [Tr.tx, Tr.ls, len_S, Tr.size] <;> decide
  | .nt t => by
    have := tx_len t
    have e : ("not " : String).length = 4 := rfl
    simp only [Tr.tx, len_app, len_S, Tr.size, e]; omega
  | .fd w a b => by
    have := tx_len a
    have := tx_len b
    have e1 : ("( " : String).length = 2 := rfl
    have e2 : (" " : String).length = 1 := rfl
    have e3 : (" )" : String).length = 2 := rfl
    have e4 : w.s.length ≤ 7 := by cases w <;> decide
    simp only [Tr.tx, len_app, len_S, Tr.size, e1, e2, e3]; omega
theorem in2_SS (x a b : String) (h : Hs) : Cop.run .isin (.str (S x)) (.tup [.str (S a), .str (S b)]) h = .ok (.bl (decide (a = x) || decide (b = x))) h := by
  rw [in2_S, S_eq, S_eq]
theorem text_ok {T : Tab} (hT : T.fn "_law_text" = some f__law_text) : ∀ (t : Tr) (m : Nat) (h : Hs), t.dep ≤ m → t.size ≤ 1000 → call T m "_law_text" [t.d] h = .ok (.str t.tx) h
  | .nev, 0, h, hm, hs => by simp [Tr.dep] at hm
  | .alw, 0, h, hm, hs => by simp [Tr.dep] at hm
  | .lt q, 0, h, hm, hs => by simp [Tr.dep] at hm
  | .nt t, 0, h, hm, hs => by simp [Tr.dep] at hm
  | .fd w a b, 0, h, hm, hs => by simp [Tr.dep] at hm
  | .nev, m + 1, h, hm, hs => by
    rw [call_eq hT rfl]
    simp [f__law_text, start, Tr.d, Tr.tx]
  | .alw, m + 1, h, hm, hs => by
    rw [call_eq hT rfl]
    simp [f__law_text, start, Tr.d, Tr.tx]
  | .lt q, m + 1, h, hm, hs => by
    rw [call_eq hT rfl]
    simp [f__law_text, start, Tr.d, Tr.tx]
  | .nt t, m + 1, h, hm, hs => by
    simp only [Tr.dep] at hm
    simp only [Tr.size] at hs
    have ih := text_ok hT t m h (by omega) (by omega)
    have l := tx_len t
    have e : ("not " : String).length = 4 := rfl
    have ad := run_addS (x := S "not ") (y := t.tx) (h := h) (by rw [len_S, e]; unfold SZ; omega)
    rw [call_eq hT rfl]
    simp [f__law_text, start, Tr.d, Tr.tx, ih, ad]
  | .fd w a b, m + 1, h, hm, hs => by
    simp only [Tr.dep] at hm
    simp only [Tr.size] at hs
    have i1 := text_ok hT a m h (by omega) (by omega)
    have i2 := text_ok hT b m h (by omega) (by omega)
    have l1 := tx_len a
    have l2 := tx_len b
    have e1 : ("( " : String).length = 2 := rfl
    have e2 : (" " : String).length = 1 := rfl
    have e3 : (" )" : String).length = 2 := rfl
    have e4 : w.s.length ≤ 7 := by cases w <;> decide
    have nw : ¬ (w.s = "not") := by cases w <;> decide
    have a1 := run_addS (x := S "( ") (y := a.tx) (h := h) (by simp only [len_app, len_S, e1, e2, e3]; unfold SZ; omega)
    have a2 := run_addS (x := S "( " ++ a.tx) (y := S " ") (h := h) (by simp only [len_app, len_S, e1, e2, e3]; unfold SZ; omega)
    have a3 := run_addS (x := S "( " ++ a.tx ++ S " ") (y := S w.s) (h := h) (by simp only [len_app, len_S, e1, e2, e3]; unfold SZ; omega)
    have a4 := run_addS (x := S "( " ++ a.tx ++ S " " ++ S w.s) (y := S " ") (h := h) (by simp only [len_app, len_S, e1, e2, e3]; unfold SZ; omega)
    have a5 := run_addS (x := S "( " ++ a.tx ++ S " " ++ S w.s ++ S " ") (y := b.tx) (h := h) (by simp only [len_app, len_S, e1, e2, e3]; unfold SZ; omega)
    have a6 := run_addS (x := S "( " ++ a.tx ++ S " " ++ S w.s ++ S " " ++ b.tx) (y := S " )") (h := h) (by simp only [len_app, len_S, e1, e2, e3]; unfold SZ; omega)
    rw [call_eq hT rfl]
    simp [f__law_text, start, Tr.d, Tr.tx, i1, i2, a1, a2, a3, a4, a5, a6, nw]
/-! ### worths -/
def Wo.wo (w : Wo) (n a b : Int) : Int := match w with
  | .more => if a + b < n then a + b else n
  | .less => if a + b - n > 0 then a + b - n else 0
  | .greater => if b > a then b else a
  | .lesser => if b < a then b else a
  | .leads => if n - a + b < n then n - a + b else n
def Tr.wo (n x y : Int) : Tr → Int
  | .nev => 0
  | .alw => n
  | .lt q => if q = true then y else x
  | .nt t => n - t.wo n x y
  | .fd w a b => w.wo n (a.wo n x y) (b.wo n x y)
theorem Wo.range (w : Wo) {n a b : Int} (ha : 0 ≤ a ∧ a ≤ n) (hb : 0 ≤ b ∧ b ≤ n) : 0 ≤ w.wo n a b ∧ w.wo n a b ≤ n := by
  cases w <;> simp only [Wo.wo] <;> split <;> omega
theorem Tr.range {n x y : Int} (hx : 0 ≤ x ∧ x ≤ n) (hy : 0 ≤ y ∧ y ≤ n) : ∀ t : Tr, 0 ≤ t.wo n x y ∧ t.wo n x y ≤ n
  | .nev => by simp only [Tr.wo]; omega
  | .alw => by simp only [Tr.wo]; omega
  | .lt q => by cases q <;> simp [Tr.wo] <;> omega
  | .nt t => by have := Tr.range hx hy t; simp only [Tr.wo]; omega
  | .fd w a b => w.range (Tr.range hx hy a) (Tr.range hx hy b)
theorem mul_lt_iff {c a b : Int} (hc : 0 < c) : c * a < c * b ↔ a < b := by
  constructor
  · intro h
    exact Int.lt_of_mul_lt_mul_left h (by omega)
  · intro h
    exact Int.mul_lt_mul_of_pos_left h hc
theorem Wo.scale (w : Wo) {c : Int} (hc : 0 < c) (n a b : Int) : w.wo (c * n) (c * a) (c * b) = c * w.wo n a b := by
  cases w <;> simp only [Wo.wo, gt_iff_lt]
  · rw [← Int.mul_add]
    by_cases h : a + b < n
    · rw [if_pos h, if_pos ((mul_lt_iff hc).mpr h)]
    · rw [if_neg h, if_neg (fun z => h ((mul_lt_iff hc).mp z))]
  · rw [← Int.mul_add, ← Int.mul_sub]
    have e : (0 < c * (a + b - n)) ↔ 0 < a + b - n := by
      have := mul_lt_iff (a := 0) (b := a + b - n) hc
      rwa [Int.mul_zero] at this
    by_cases h : 0 < a + b - n
    · rw [if_pos h, if_pos (e.mpr h)]
    · rw [if_neg h, if_neg (fun z => h (e.mp z)), Int.mul_zero]
  · by_cases h : a < b
    · rw [if_pos h, if_pos ((mul_lt_iff hc).mpr h)]
    · rw [if_neg h, if_neg (fun z => h ((mul_lt_iff hc).mp z))]
  · by_cases h : b < a
    · rw [if_pos h, if_pos ((mul_lt_iff hc).mpr h)]
    · rw [if_neg h, if_neg (fun z => h ((mul_lt_iff hc).mp z))]
  · rw [← Int.mul_sub, ← Int.mul_add]
    by_cases h : n - a + b < n
    · rw [if_pos h, if_pos ((mul_lt_iff hc).mpr h)]
    · rw [if_neg h, if_neg (fun z => h ((mul_lt_iff hc).mp z))]
theorem Tr.scale {c : Int} (hc : 0 < c) (n x y : Int) : ∀ t : Tr, t.wo (c * n) (c * x) (c * y) = c * t.wo n x y
  | .nev => by simp [Tr.wo]
  | .alw => rfl
  | .lt q => by cases q <;> simp [Tr.wo]
  | .nt t => by simp only [Tr.wo]; rw [Tr.scale hc n x y t, Int.mul_sub]
  | .fd w a b => by simp only [Tr.wo]; rw [Tr.scale hc n x y a, Tr.scale hc n x y b, w.scale hc]
/-! ### objects -/
def Wo.c : Wo → Cn
  | .more => .More | .less => .Less | .greater => .Greater | .lesser => .Lesser | .leads => .Leads
def Tr.c : Tr → Cn
  | .nev => .Never | .alw => .Always | .lt _ => .Letter | .nt _ => .Not | .fd w _ _ => w.c
def Tr.f : Tr → List D
  | .nev | .alw => []
  | .lt q => [.str (S (Tr.ls q))]
  | .nt t => [.obj t.c t.f]
  | .fd _ a b => [.obj a.c a.f, .obj b.c b.f]
abbrev Tr.o (t : Tr) : D := .obj t.c t.f
def Tr.okey : Tr → String
  | .nev => "Never.out_of" | .alw => "Always.out_of" | .lt _ => "Letter.out_of" | .nt _ => "Not.out_of" | .fd _ _ _ => "Fold.out_of"
def Wo.mkey : Wo → String
  | .more => "More.made_of" | .less => "Less.made_of" | .greater => "Greater.made_of" | .lesser => "Lesser.made_of" | .leads => "Leads.made_of"
structure KOut (T : Tab) : Prop where
  m1 : T.meth .Never "out_of" = some "Never.out_of"
  m2 : T.meth .Always "out_of" = some "Always.out_of"
  m3 : T.meth .Letter "out_of" = some "Letter.out_of"
  m4 : T.meth .Not "out_of" = some "Not.out_of"
  m5 : T.meth .More "out_of" = some "Fold.out_of"
  m6 : T.meth .Less "out_of" = some "Fold.out_of"
  m7 : T.meth .Greater "out_of" = some "Fold.out_of"
  m8 : T.meth .Lesser "out_of" = some "Fold.out_of"
  m9 : T.meth .Leads "out_of" = some "Fold.out_of"
  n5 : T.meth .More "made_of" = some "More.made_of"
  n6 : T.meth .Less "made_of" = some "Less.made_of"
  n7 : T.meth .Greater "made_of" = some "Greater.made_of"
  n8 : T.meth .Lesser "made_of" = some "Lesser.made_of"
  n9 : T.meth .Leads "made_of" = some "Leads.made_of"
  f1 : T.fn "Never.out_of" = some f_Never_out_of
  f2 : T.fn "Always.out_of" = some f_Always_out_of
  f3 : T.fn "Letter.out_of" = some f_Letter_out_of
  f4 : T.fn "Not.out_of" = some f_Not_out_of
  f5 : T.fn "Fold.out_of" = some f_Fold_out_of
  g5 : T.fn "More.made_of" = some f_More_made_of
  g6 : T.fn "Less.made_of" = some f_Less_made_of
  g7 : T.fn "Greater.made_of" = some f_Greater_made_of
  g8 : T.fn "Lesser.made_of" = some f_Lesser_made_of
  g9 : T.fn "Leads.made_of" = some f_Leads_made_of
theorem KOut.mo {T : Tab} (K : KOut T) (t : Tr) : T.meth t.c "out_of" = some t.okey := by
  cases t with
  | nev => exact K.m1
  | alw => exact K.m2
  | lt q => exact K.m3
  | nt t => exact K.m4
  | fd w a b => cases w <;> first | exact K.m5 | exact K.m6 | exact K.m7 | exact K.m8 | exact K.m9
theorem KOut.mm {T : Tab} (K : KOut T) (w : Wo) : T.meth w.c "made_of" = some w.mkey := by
  cases w <;> first | exact K.n5 | exact K.n6 | exact K.n7 | exact K.n8 | exact K.n9
theorem made_ok {T : Tab} (K : KOut T) (w : Wo) (k : Nat) (h : Hs) (d : D) (n a b : Int) : call T (k + 1) w.mkey [d, .int n, .int a, .int b] h = .ok (.int (w.wo n a b)) h := by
  cases w <;> simp only [Wo.mkey, Wo.wo]
  · rw [call_eq K.g5 rfl]; simp [f_More_made_of, start]
  · rw [call_eq K.g6 rfl]; simp [f_Less_made_of, start]
  · rw [call_eq K.g7 rfl]; simp [f_Greater_made_of, start]
  · rw [call_eq K.g8 rfl]; simp [f_Lesser_made_of, start]
  · rw [call_eq K.g9 rfl]; simp [f_Leads_made_of, start]
theorem fld_one (w : Wo) (x y : D) (h : Hs) : fldD "one" (.obj w.c [x, y]) h = .ok x h := by
  cases w <;> rfl
theorem fld_other (w : Wo) (x y : D) (h : Hs) : fldD "other" (.obj w.c [x, y]) h = .ok y h := by
  cases w <;> rfl
theorem out_ok {T : Tab} (K : KOut T) (n x y : Int) : ∀ (t : Tr) (m : Nat) (h : Hs), 2 * t.dep ≤ m → call T m t.okey [t.o, .int n, .int x, .int y] h = .ok (.int (t.wo n x y)) h
  | t, 0, h, hm => by have := t.dep_pos; omega
  | .nev, m + 1, h, hm => by
    simp only [Tr.okey]
    rw [call_eq K.f1 rfl]
    simp [f_Never_out_of, start, Tr.wo]
  | .alw, m + 1, h, hm => by
    simp only [Tr.okey]
    rw [call_eq K.f2 rfl]
    simp [f_Always_out_of, start, Tr.wo]
  | .lt q, m + 1, h, hm => by
    simp only [Tr.okey]
    rw [call_eq K.f3 rfl]
    have e : fldD "name" (Tr.lt q).o h = .ok (.str (S (Tr.ls q))) h := rfl
    cases q <;> simp only [Tr.ls, if_true, if_false, Bool.false_eq_true] at e <;> simp [f_Letter_out_of, start, Tr.wo, e]
  | .nt t, m + 1, h, hm => by
    simp only [Tr.dep] at hm
    simp only [Tr.okey]
    have ih := out_ok K n x y t m h (by omega)
    have e : fldD "part" (Tr.nt t).o h = .ok t.o h := rfl
    rw [call_eq K.f4 rfl]
    simp [f_Not_out_of, start, Tr.wo, e, K.mo t, ih]
  | .fd w a b, m + 1, h, hm => by
    simp only [Tr.dep] at hm
    simp only [Tr.okey]
    have i1 := out_ok K n x y a m h (by omega)
    have i2 := out_ok K n x y b m h (by omega)
    have mm : 0 < m := by have := a.dep_pos; omega
    obtain ⟨m', rfl⟩ : ∃ m', m = m' + 1 := ⟨m - 1, by omega⟩
    have mk := made_ok K w m' h (Tr.fd w a b).o n (a.wo n x y) (b.wo n x y)
    have e1 : fldD "one" (Tr.fd w a b).o h = .ok a.o h := fld_one w a.o b.o h
    have e2 : fldD "other" (Tr.fd w a b).o h = .ok b.o h := fld_other w a.o b.o h
    have e3 : T.meth (Tr.fd w a b).c "made_of" = some w.mkey := K.mm w
    rw [call_eq K.f5 rfl]
    simp [f_Fold_out_of, start, Tr.wo, e1, e2, K.mo a, K.mo b, e3, i1, i2, mk]
end Q

/-! plain data compared; comprehensions and loops over mapped lists -/
namespace Q
mutual
/-- numbers, texts, truths, None, tuples of such -/
def flat : D → Bool
  | .tup xs => flats xs
  | .obj _ _ | .ref _ | .lv _ => false
  | _ => true
def flats : List D → Bool
  | [] => true
  | x :: xs => flat x && flats xs
end
mutual
theorem rsF_flat (f : Nat → Option D) : ∀ d : D, flat d = true → rsF f d = some d
  | .non, _ => rfl
  | .bl _, _ => rfl
  | .int _, _ => rfl
  | .str _, _ => rfl
  | .tup xs, h => by
    simp only [flat] at h
    simp only [rsF, rsFs_flat f xs h, Option.map_some]
  | .obj _ _, h => by simp [flat] at h
  | .ref _, h => by simp [flat] at h
  | .lv _, h => by simp [flat] at h
theorem rsFs_flat (f : Nat → Option D) : ∀ xs : List D, flats xs = true → rsFs f xs = some xs
  | [], _ => rfl
  | x :: xs, h => by
    simp only [flats, Bool.and_eq_true] at h
    simp only [rsFs, rsF_flat f x h.1, rsFs_flat f xs h.2]
end
mutual
theorem deq_flat : ∀ d : D, flat d = true → deq d d = true
  | .non, _ => rfl
  | .bl b, _ => by simp [deq]
  | .int _, _ => by simp [deq]
  | .str _, _ => by simp [deq]
  | .tup xs, h => by
    simp only [flat] at h
    simp only [deq, deqs_flat xs h]
  | .obj _ _, h => by simp [flat] at h
  | .ref _, h => by simp [flat] at h
  | .lv _, h => by simp [flat] at h
theorem deqs_flat : ∀ xs : List D, flats xs = true → deqs xs xs = true
  | [], _ => rfl
  | x :: xs, h => by
    simp only [flats, Bool.and_eq_true] at h
    simp only [deqs, deq_flat x h.1, deqs_flat xs h.2, Bool.and_self]
end
theorem flats_map {α : Type} (f : α → D) (l : List α) (h : ∀ a ∈ l, flat (f a) = true) : flats (l.map f) = true := by
  induction l with
  | nil => rfl
  | cons a l ih =>
    simp only [List.map_cons, flats, Bool.and_eq_true]
    exact ⟨h a List.mem_cons_self, ih fun b hb => h b (List.mem_cons_of_mem _ hb)⟩
theorem flats_app : ∀ (a b : List D), flats a = true → flats b = true → flats (a ++ b) = true
  | [], b, _, h => h
  | x :: a, b, h, k => by
    simp only [List.cons_append, flats, Bool.and_eq_true] at h ⊢
    exact ⟨h.1, flats_app a b h.2 k⟩
theorem ddeps_map {α : Type} (f : α → D) (n : Nat) (l : List α) (h : ∀ a ∈ l, ddep (f a) ≤ n) : ddeps (l.map f) ≤ n := by
  induction l with
  | nil => exact Nat.zero_le _
  | cons a l ih =>
    simp only [List.map_cons, ddeps]
    have h1 := h a List.mem_cons_self
    have h2 := ih fun b hb => h b (List.mem_cons_of_mem _ hb)
    omega
theorem eqv_lst {h : Hs} {n m : Nat} {xs : List D} (hn : h[n]? = some (.lst xs)) (hm : h[m]? = some (.lst xs)) (f : flats xs = true) (d : ddeps xs ≤ 100) : eqv h (.ref n) (.ref m) = some true := by
  simp only [eqv, rsv, rsF, rdN, hn, hm, rsFs_flat _ xs f, Option.map_some, deq, deqs_flat xs f, ddep]
  rw [if_pos (by omega)]
theorem eqv_tup {h : Hs} {xs : List D} (f : flats xs = true) (d : ddeps xs ≤ 100) : eqv h (.tup xs) (.tup xs) = some true := by
  simp only [eqv, rsv, rsF, rsFs_flat _ xs f, Option.map_some, deq, deqs_flat xs f, ddep]
  rw [if_pos (by omega)]
noncomputable section
variable {C : Cl} {s : Ev} {h : Hs}
theorem kComp_mapL {α : Type} {e : Ex} {tg : Tg} {own : List Nat} {w : Walk} (xs : List α) (g f : α → D) (hi : w.items = xs.map g) (hok : w.ok h) (he : ∀ a ∈ xs, ∃ s2, asg tg (g a) (wipe s own) = some s2 ∧ evE C e s2 h = .ok (f a) h) (hl : xs.length ≤ SZ) :
    kComp C s e tg .none own (.ok w h) = .ok (.ref h.length) (h ++ [.lst (xs.map f)]) := by
  have go : ∀ l : List α, (∀ a ∈ l, ∃ s2, asg tg (g a) (wipe s own) = some s2 ∧ evE C e s2 h = .ok (f a) h) → compL w.ok (compG tg own (fun s h => evC C .none s h) (fun s h => evE C e s h) s) (l.map g) h = .ok (l.map f) h := by
    intro l
    induction l with
    | nil => intro _; simp only [List.map_nil]; unfold compL; rw [if_pos hok]
    | cons d l ih =>
      intro hd
      obtain ⟨s2, h1, h2⟩ := hd d List.mem_cons_self
      simp only [List.map_cons]
      unfold compL
      rw [if_pos hok]
      have hg : compG tg own (fun s h => evC C .none s h) (fun s h => evE C e s h) s (g d) h = .ok (some (f d)) h := by
        simp only [compG, h1, evC_none, h2]
      rw [hg]
      simp only
      rw [ih fun d hd' => hd d (List.mem_cons_of_mem _ hd')]
  show compE w _ h = _
  unfold compE
  rw [hi, go xs he]
  simp only [List.length_map, hl, if_true]
/-- .. whose heap grows -/
theorem kComp_mapG {α : Type} {e : Ex} {tg : Tg} {own : List Nat} {w : Walk} (xs : List α) (g f : α → D) (P : Hs → Prop) (hi : w.items = xs.map g) (hok : ∀ h, P h → w.ok h)
    (he : ∀ a ∈ xs, ∀ h, P h → ∃ s2 h', asg tg (g a) (wipe s own) = some s2 ∧ evE C e s2 h = .ok (f a) h' ∧ P h') (hl : xs.length ≤ SZ) (hp : P h) :
    ∃ h', P h' ∧ kComp C s e tg .none own (.ok w h) = .ok (.ref h'.length) (h' ++ [.lst (xs.map f)]) := by
  have go : ∀ (l : List α) (h : Hs), P h → (∀ a ∈ l, ∀ h, P h → ∃ s2 h', asg tg (g a) (wipe s own) = some s2 ∧ evE C e s2 h = .ok (f a) h' ∧ P h') → ∃ h', P h' ∧ compL w.ok (compG tg own (fun s h => evC C .none s h) (fun s h => evE C e s h) s) (l.map g) h = .ok (l.map f) h' := by
    intro l
    induction l with
    | nil => intro h p _; refine ⟨h, p, ?_⟩; simp only [List.map_nil]; unfold compL; rw [if_pos (hok h p)]
    | cons d l ih =>
      intro h p hd
      obtain ⟨s2, h2, e1, e2, p2⟩ := hd d List.mem_cons_self h p
      obtain ⟨h3, p3, e3⟩ := ih h2 p2 fun d hd' => hd d (List.mem_cons_of_mem _ hd')
      refine ⟨h3, p3, ?_⟩
      simp only [List.map_cons]
      unfold compL
      rw [if_pos (hok h p)]
      have hg : compG tg own (fun s h => evC C .none s h) (fun s h => evE C e s h) s (g d) h = .ok (some (f d)) h2 := by
        simp only [compG, e1, evC_none, e2]
      rw [hg]
      simp only
      rw [e3]
  obtain ⟨h', p', e'⟩ := go xs h hp he
  refine ⟨h', p', ?_⟩
  show compE w _ h = _
  unfold compE
  rw [hi, e']
  simp only [List.length_map, hl, if_true]
theorem add_lsts {n m : Nat} {xs ys : List D} (q : h[n]? = some (.lst xs)) (r : h[m]? = some (.lst ys)) (l : xs.length + ys.length ≤ SZ) : Bop.run .add (.ref n) (.ref m) h = .ok (.ref h.length) (h ++ [.lst (xs ++ ys)]) := by
  simp only [Bop.run, q, r, l, if_true]
theorem tuple_lst {n : Nat} {xs : List D} (q : h[n]? = some (.lst xs)) : Bi.run .tuple [.ref n] h = .ok (.tup xs) h := by
  simp only [Bi.run, itemsOf, q, opt_some]
theorem pop_lst {n : Nat} {xs : List D} {d : D} (q : h[n]? = some (.lst (xs ++ [d]))) : Bm.run .pop (.ref n) [] h = .ok d (h.set n (.lst xs)) := by
  simp only [Bm.run, q]
  simp
theorem list_lst {n : Nat} {xs : List D} (q : h[n]? = some (.lst xs)) : Bi.run .list [.ref n] h = .ok (.ref h.length) (h ++ [.lst xs]) := by
  simp only [Bi.run, q]
end
theorem boolsL_rep {α : Type} (l : List α) : boolsL (l.map fun _ => D.bl true) = some (l.map fun _ => true) := boolsL_map (fun _ => true) l
theorem all_rep {α : Type} {h : Hs} {n : Nat} (l : List α) (q : h[n]? = some (.lst (l.map fun _ => D.bl true))) : Bi.run .all [.ref n] h = .ok (.bl true) h := by
  rw [all_lst q (boolsL_rep l)]
  have : ((l.map fun _ => true).all id) = true := by simp
  rw [this]
end Q

/-! rows of a tree: each unlike part once -/
namespace Q
def nthB : Nat → Bl → Sm
  | 0, .cons s _ => s
  | n + 1, .cons _ r => nthB n r
  | _, .nil => .pass
def bodyB : Sm → Bl
  | .for _ _ b => b
  | .whl _ b => b
  | _ => .nil
def condB : Sm → Ex
  | .whl c _ => c
  | _ => .k .non
inductive Ro where
  | nev | alw | lt (q : Bool) | nt (i : Nat) | fd (w : Wo) (i j : Nat)
  deriving DecidableEq
def Ro.d : Ro → D
  | .nev => .tup [.str (S "never")]
  | .alw => .tup [.str (S "always")]
  | .lt q => .tup [.str (S (Tr.ls q))]
  | .nt i => .tup [.str (S "not"), .int i]
  | .fd w i j => .tup [.str (S w.s), .int i, .int j]
theorem Wo.s_inj {w v : Wo} (h : w.s = v.s) : w = v := by
  cases w <;> cases v <;> first | rfl | (simp [Wo.s] at h)
theorem nbeq (i j : Nat) : ((i : Int) == (j : Int)) = decide (i = j) := by
  by_cases e : i = j
  · subst e; simp
  · rw [decide_eq_false e, beq_eq_false_iff_ne]; omega
theorem Ro.deq (a b : Ro) : deq a.d b.d = decide (a = b) := by
  cases a with
  | nev =>
    cases b with
    | lt q => cases q <;> simp [Ro.d, Q.deq, deqs, Tr.ls]
    | _ => simp [Ro.d, Q.deq, deqs]
  | alw =>
    cases b with
    | lt q => cases q <;> simp [Ro.d, Q.deq, deqs, Tr.ls]
    | _ => simp [Ro.d, Q.deq, deqs]
  | lt q =>
    cases b with
    | lt q' => cases q <;> cases q' <;> simp [Ro.d, Q.deq, deqs, Tr.ls]
    | _ => cases q <;> simp [Ro.d, Q.deq, deqs, Tr.ls]
  | nt i =>
    cases b with
    | nt j => simp only [Ro.d, Q.deq, deqs, Bool.and_true, S_eq, decide_true, Bool.true_and, Ro.nt.injEq]; exact nbeq i j
    | lt q => simp [Ro.d, Q.deq, deqs]
    | _ => simp [Ro.d, Q.deq, deqs]
  | fd w i j =>
    cases b with
    | fd v k l =>
      simp only [Ro.d, Q.deq, deqs, Bool.and_true, S_eq, Ro.fd.injEq]
      by_cases e : w = v
      · subst e
        rw [nbeq, nbeq]; simp
      · have : ¬ w.s = v.s := fun z => e (Wo.s_inj z)
        simp [e, this]
    | lt q => simp [Ro.d, Q.deq, deqs]
    | _ => simp [Ro.d, Q.deq, deqs]
theorem Ro.flat (r : Ro) : flat r.d = true := by cases r <;> simp [Ro.d, Q.flat, flats]
theorem Ro.ddep (r : Ro) : ddep r.d ≤ 1 := by cases r <;> simp [Ro.d, Q.ddep, ddeps]
theorem Ro.kOk (r : Ro) : kOk true r.d = true := by cases r <;> simp [Ro.d, Q.kOk, rowK]
theorem Ro.rsv (h : Hs) (r : Ro) : rsv h r.d = some r.d := rsF_flat _ _ r.flat
/-- a row's place, put behind the others where it is new -/
def ent (rows : List Ro) (r : Ro) : List Ro × Nat := if r ∈ rows then (rows, rows.idxOf r) else (rows ++ [r], rows.length)
def put : Tr → List Ro → List Ro × Nat
  | .nev, rows => ent rows .nev
  | .alw, rows => ent rows .alw
  | .lt q, rows => ent rows (.lt q)
  | .nt t, rows => ent (put t rows).1 (.nt (put t rows).2)
  | .fd w a b, rows => ent (put b (put a rows).1).1 (.fd w (put a rows).2 (put b (put a rows).1).2)
theorem ent_len (rows : List Ro) (r : Ro) : (ent rows r).1.length ≤ rows.length + 1 := by
  unfold ent; split <;> simp
theorem put_len : ∀ (t : Tr) (rows : List Ro), (put t rows).1.length ≤ rows.length + t.size
  | .nev, rows => ent_len _ _
  | .alw, rows => ent_len _ _
  | .lt q, rows => ent_len _ _
  | .nt t, rows => by
    have := put_len t rows
    have := ent_len (put t rows).1 (.nt (put t rows).2)
    simp only [put, Tr.size]; omega
  | .fd w a b, rows => by
    have := put_len a rows
    have := put_len b (put a rows).1
    have := ent_len (put b (put a rows).1).1 (.fd w (put a rows).2 (put b (put a rows).1).2)
    simp only [put, Tr.size]; omega
theorem ent_pos (rows : List Ro) (r : Ro) : 0 < (ent rows r).1.length := by
  unfold ent
  split
  · rename_i h; exact List.length_pos_of_mem h
  · simp
theorem put_pos : ∀ (t : Tr) (rows : List Ro), 0 < (put t rows).1.length
  | .nev, rows => ent_pos _ _
  | .alw, rows => ent_pos _ _
  | .lt q, rows => ent_pos _ _
  | .nt t, rows => ent_pos _ _
  | .fd w a b, rows => ent_pos _ _
/-- the places of the rows -/
def dk : Nat → List Ro → List (D × D)
  | _, [] => []
  | i, r :: rs => (r.d, .int i) :: dk (i + 1) rs
theorem dlook_dk (r : Ro) : ∀ (rs : List Ro) (i : Nat), dlook r.d (dk i rs) = if r ∈ rs then some (.int ((i + rs.idxOf r : Nat) : Int)) else none
  | [], i => by simp [dk, dlook]
  | x :: rs, i => by
    simp only [dk, dlook, Ro.deq]
    by_cases e : x = r
    · subst e; simp
    · rw [if_neg (by simpa using e), dlook_dk r rs (i + 1)]
      have e' : ¬ r = x := fun z => e z.symm
      simp only [List.mem_cons, e', false_or, List.idxOf_cons, beq_iff_eq]
      by_cases hm : r ∈ rs
      · simp only [hm, if_true]
        have : (x == r) = false := by simpa using e
        rw [this]; simp only [cond_false]
        congr 2; omega
      · simp [hm]
theorem dput_dk (r : Ro) : ∀ (rs : List Ro) (i : Nat), r ∉ rs → dput r.d (.int ((i + rs.length : Nat) : Int)) (dk i rs) = dk i (rs ++ [r])
  | [], i, _ => by simp [dk, dput]
  | x :: rs, i, h => by
    simp only [List.mem_cons, not_or] at h
    simp only [dk, dput, Ro.deq, List.cons_append]
    rw [if_neg (by simpa using fun z : x = r => h.1 z.symm)]
    have := dput_dk r rs (i + 1) h.2
    rw [show i + (x :: rs).length = i + 1 + rs.length by simp; omega, this]
theorem dk_len : ∀ (rs : List Ro) (i : Nat), (dk i rs).length = rs.length
  | [], _ => rfl
  | x :: rs, i => by simp [dk, dk_len rs (i + 1)]
/-- the heap with these rows -/
def upR (h : Hs) (n m : Nat) (rows : List Ro) : Hs := (h.set n (.lst (rows.map Ro.d))).set m (.dic true (dk 0 rows))
theorem upR_n {h : Hs} {n m : Nat} (nm : n ≠ m) (hn : n < h.length) (rows : List Ro) : (upR h n m rows)[n]? = some (.lst (rows.map Ro.d)) := by
  unfold upR
  rw [List.getElem?_set_ne (Ne.symm nm), List.getElem?_set_self hn]
theorem upR_m {h : Hs} {n m : Nat} (hm : m < h.length) (rows : List Ro) : (upR h n m rows)[m]? = some (.dic true (dk 0 rows)) := by
  unfold upR
  rw [List.getElem?_set_self (by simpa using hm)]
theorem upR_upR {h : Hs} {n m : Nat} (nm : n ≠ m) (a b : List Ro) : upR (upR h n m a) n m b = upR h n m b := by
  unfold upR
  rw [List.set_comm _ _ (Ne.symm nm), List.set_set, List.set_set]
theorem upR_same {h : Hs} {n m : Nat} {rows : List Ro} (hn : h[n]? = some (.lst (rows.map Ro.d))) (hm : h[m]? = some (.dic true (dk 0 rows))) : upR h n m rows = h := by
  unfold upR
  rw [set_same hn, set_same hm]
theorem upR_len (h : Hs) (n m : Nat) (rows : List Ro) : (upR h n m rows).length = h.length := by simp [upR]
section
variable {h : Hs}
theorem in_dic {m : Nat} {rows : List Ro} (q : h[m]? = some (.dic true (dk 0 rows))) (r : Ro) : Cop.run .notin r.d (.ref m) h = .ok (.bl (!decide (r ∈ rows))) h := by
  simp only [Cop.run, isIn, q, r.kOk, if_true, dlook_dk, opt]
  by_cases e : r ∈ rows <;> simp [e]
theorem get_dic {m : Nat} {rows : List Ro} (q : h[m]? = some (.dic true (dk 0 rows))) {r : Ro} (e : r ∈ rows) : getI (.ref m) r.d h = .ok (.int ((rows.idxOf r : Nat) : Int)) h := by
  have := r.kOk
  have k2 : dlook r.d (dk 0 rows) = some (.int ((rows.idxOf r : Nat) : Int)) := by rw [dlook_dk, if_pos e]; simp
  unfold getI
  simp only [q, this, if_true, k2, opt, id]
theorem set_dicR {m : Nat} {rows : List Ro} (q : h[m]? = some (.dic true (dk 0 rows))) {r : Ro} (e : r ∉ rows) (l : rows.length < SZ) : setI (.ref m) r.d (.int (rows.length : Int)) h = some (h.set m (.dic true (dk 0 (rows ++ [r])))) := by
  have k := r.kOk
  have k2 := dput_dk r rows 0 e
  rw [Nat.zero_add] at k2
  unfold setI
  simp only [q, k, dk_len, l, and_self, if_true, k2]
end
structure KPut (T : Tab) : Prop where
  word : T.fn "rows.word_of" = some f_rows_word_of
  place : T.fn "rows.place_of" = some f_rows_place_of
  put : T.fn "rows.put_rows" = some f_rows_put_rows
  rows : T.fn "rows.rows_of" = some f_rows_rows_of
theorem word_ok {T : Tab} (K : KPut T) (k : Nat) (h : Hs) (w : Wo) (ds : List D) : call T (k + 1) "rows.word_of" [.obj w.c ds] h = .ok (.str (S w.s)) h := by
  rw [call_eq K.word rfl]
  cases w <;> simp [f_rows_word_of, start, isTys, isTy, Wo.c, Cn.under, Cn.up, Wo.s]
theorem place_of_ok {T : Tab} (K : KPut T) (k : Nat) {h : Hs} {n m : Nat} (nm : n ≠ m) {rows : List Ro} (hn : h[n]? = some (.lst (rows.map Ro.d))) (hm : h[m]? = some (.dic true (dk 0 rows))) (hl : rows.length < 100000) (r : Ro) :
    call T (k + 1) "rows.place_of" [r.d, .ref n, .ref m] h = .ok (.int ((ent rows r).2 : Int)) (upR h n m (ent rows r).1) := by
  have i := in_dic hm r
  rw [call_eq K.place rfl]
  unfold ent
  by_cases e : r ∈ rows
  · have g := get_dic hm e
    simp [f_rows_place_of, start, List.replicate_succ, i, e, g, upR_same hn hm]
  · have ln := len_lst hn
    rw [List.length_map] at ln
    have s1 := set_dicR hm e (by simp [SZ]; omega)
    have hn2 : (h.set m (.dic true (dk 0 (rows ++ [r]))))[n]? = some (.lst (rows.map Ro.d)) := by rw [List.getElem?_set_ne (Ne.symm nm)]; exact hn
    have bk : bmK .append (.ref n) (h.set m (.dic true (dk 0 (rows ++ [r])))) = true := bmK_lst (xs := rows.map Ro.d) .append hn2
    have ap := append_lst (d := r.d) hn2 (by rw [List.length_map]; simp [SZ]; omega)
    have lm := (List.getElem?_eq_some_iff.mp hm).1
    have ln' := (List.getElem?_eq_some_iff.mp hn).1
    have eh : (h.set m (.dic true (dk 0 (rows ++ [r])))).set n (.lst (rows.map Ro.d ++ [r.d])) = upR h n m (rows ++ [r]) := by
      unfold upR
      rw [List.set_comm _ _ (Ne.symm nm)]; simp
    have g := get_dic (upR_m (n := n) lm (rows ++ [r])) (r := r) (by simp)
    have ix : (rows ++ [r]).idxOf r = rows.length := by rw [List.idxOf_append]; simp [e]
    rw [ix] at g
    rw [eh] at ap
    simp [f_rows_place_of, start, List.replicate_succ, i, e, ln, setIR_some _ _ s1, bk, ap, g]
theorem isi_c (h : Hs) (c e : Cn) (ds : List D) : isTys h (.obj c ds) [.own e] = some (c.under e) := by
  simp [isTys, isTy]
theorem under_fd (w : Wo) : w.c.under .Never = false ∧ w.c.under .Always = false ∧ w.c.under .Letter = false ∧ w.c.under .Not = false := by cases w <;> decide
theorem put_rows_ok {T : Tab} (K : KPut T) {n m : Nat} (nm : n ≠ m) : ∀ (t : Tr) (k : Nat), t.dep + 1 ≤ k → ∀ {h : Hs} {rows : List Ro}, h[n]? = some (.lst (rows.map Ro.d)) → h[m]? = some (.dic true (dk 0 rows)) → rows.length + t.size ≤ 100000 →
    call T k "rows.put_rows" [t.o, .ref n, .ref m] h = .ok (.int ((put t rows).2 : Int)) (upR h n m (put t rows).1)
  | t, 0, hk, _, _, _, _, _ => by omega
  | t, 1, hk, _, _, _, _, _ => by have := t.dep_pos; omega
  | .nev, k + 2, hk, h, rows, hn, hm, hl => by
    simp only [Tr.size] at hl
    have p := place_of_ok K k nm hn hm (by omega) .nev
    simp only [Ro.d] at p
    rw [call_eq K.put rfl]
    simp [f_rows_put_rows, start, List.replicate_succ, Tr.o, Tr.c, Tr.f, isi_c, Cn.under, Cn.up, p, put]
  | .alw, k + 2, hk, h, rows, hn, hm, hl => by
    simp only [Tr.size] at hl
    have p := place_of_ok K k nm hn hm (by omega) .alw
    simp only [Ro.d] at p
    rw [call_eq K.put rfl]
    simp [f_rows_put_rows, start, List.replicate_succ, Tr.o, Tr.c, Tr.f, isi_c, Cn.under, Cn.up, p, put]
  | .lt q, k + 2, hk, h, rows, hn, hm, hl => by
    simp only [Tr.size] at hl
    have p := place_of_ok K k nm hn hm (by omega) (.lt q)
    simp only [Ro.d] at p
    have e : fldD "name" (.obj .Letter [.str (S (Tr.ls q))]) h = .ok (.str (S (Tr.ls q))) h := rfl
    rw [call_eq K.put rfl]
    simp [f_rows_put_rows, start, List.replicate_succ, Tr.o, Tr.c, Tr.f, isi_c, Cn.under, Cn.up, p, put, e]
  | .nt t, k + 2, hk, h, rows, hn, hm, hl => by
    simp only [Tr.size, Tr.dep] at hl hk
    have ih := put_rows_ok K nm t (k + 1) (by omega) hn hm (by omega)
    have ln := (List.getElem?_eq_some_iff.mp hn).1
    have lm := (List.getElem?_eq_some_iff.mp hm).1
    have pl := put_len t rows
    have p := place_of_ok K k nm (upR_n nm ln (put t rows).1) (upR_m lm _) (by omega) (.nt (put t rows).2)
    rw [upR_upR nm] at p
    simp only [Ro.d] at p
    have e : fldD "part" (.obj .Not [t.o]) h = .ok t.o h := rfl
    rw [call_eq K.put rfl]
    have eo : (Tr.nt t).o = .obj .Not [t.o] := rfl
    rw [eo]
    generalize t.o = x at *
    simp [f_rows_put_rows, start, List.replicate_succ, isi_c, Cn.under, Cn.up, p, put, e, ih]
  | .fd w a b, k + 2, hk, h, rows, hn, hm, hl => by
    simp only [Tr.size, Tr.dep] at hl hk
    have ln := (List.getElem?_eq_some_iff.mp hn).1
    have lm := (List.getElem?_eq_some_iff.mp hm).1
    have pl := put_len a rows
    have pl2 := put_len b (put a rows).1
    have i1 := put_rows_ok K nm a (k + 1) (by omega) hn hm (by omega)
    have i2 := put_rows_ok K nm b (k + 1) (by omega) (upR_n nm ln (put a rows).1) (upR_m lm _) (by omega)
    have p := place_of_ok K k nm (upR_n nm ln (put b (put a rows).1).1) (upR_m lm _) (by omega) (.fd w (put a rows).2 (put b (put a rows).1).2)
    rw [upR_upR nm] at p i2
    simp only [Ro.d] at p
    have e1 : ∀ h, fldD "one" (.obj w.c [a.o, b.o]) h = .ok a.o h := fun h => by cases w <;> rfl
    have e2 : ∀ h, fldD "other" (.obj w.c [a.o, b.o]) h = .ok b.o h := fun h => by cases w <;> rfl
    have wd := fun h => word_ok K k h w [a.o, b.o]
    obtain ⟨u1, u2, u3, u4⟩ := under_fd w
    rw [call_eq K.put rfl]
    have eo : (Tr.fd w a b).o = .obj w.c [a.o, b.o] := rfl
    rw [eo]
    generalize a.o = x at *
    generalize b.o = y at *
    simp [f_rows_put_rows, start, List.replicate_succ, isi_c, u1, u2, u3, u4, p, put, e1, e2, i1, i2, wd]
theorem rows_of_ok {T : Tab} (K : KPut T) (t : Tr) (k : Nat) (hk : t.dep + 1 ≤ k) (hs : t.size ≤ 100000) (h : Hs) :
    call T (k + 1) "rows.rows_of" [t.o] h = .ok (.ref h.length) (h ++ [.lst ((put t []).1.map Ro.d), .dic true (dk 0 (put t []).1)]) := by
  have e := put_rows_ok K (n := h.length) (m := h.length + 1) (by omega) t k hk (h := h ++ [.lst [], .dic true []]) (rows := []) (by simp) (by simp [dk]) (by simpa using hs)
  have u : upR (h ++ [.lst [], .dic true []]) h.length (h.length + 1) (put t []).1 = h ++ [.lst ((put t []).1.map Ro.d), .dic true (dk 0 (put t []).1)] := by
    unfold upR
    rw [List.set_append_right _ _ (by omega)]
    simp
  rw [u] at e
  rw [call_eq K.rows rfl]
  have md : ∀ h, mkDic true [] h = .ok (.ref h.length) (h ++ [.dic true []]) := fun h => rfl
  simp [f_rows_rows_of, start, List.replicate_succ, md, e]
end Q

/-! objects of trees, each part anew -/
namespace Q
section
variable {h : Hs}
theorem mk0_Never : mkO .Never [] h = .ok (.obj .Never []) h := rfl
theorem mk0_Always : mkO .Always [] h = .ok (.obj .Always []) h := rfl
theorem mk0_Letter (x : D) : mkO .Letter [x] h = .ok (.obj .Letter [x]) h := rfl
theorem mk0_Not (x : D) : mkO .Not [x] h = .ok (.obj .Not [x]) h := rfl
theorem mk0_More (x y : D) : mkO .More [x, y] h = .ok (.obj .More [x, y]) h := rfl
theorem mk0_Less (x y : D) : mkO .Less [x, y] h = .ok (.obj .Less [x, y]) h := rfl
theorem mk0_Greater (x y : D) : mkO .Greater [x, y] h = .ok (.obj .Greater [x, y]) h := rfl
theorem mk0_Lesser (x y : D) : mkO .Lesser [x, y] h = .ok (.obj .Lesser [x, y]) h := rfl
theorem mk0_Leads (x y : D) : mkO .Leads [x, y] h = .ok (.obj .Leads [x, y]) h := rfl
end
theorem obj1_ok {T : Tab} (hT : T.fn "_law_object" = some f__law_object) : ∀ (t : Tr) (m : Nat) (h : Hs), t.dep ≤ m → call T m "_law_object" [t.d] h = .ok t.o h
  | t, 0, h, hm => by have := t.dep_pos; omega
  | .nev, m + 1, h, hm => by
    rw [call_eq hT rfl]
    simp [f__law_object, start, List.replicate_succ, Tr.d, Tr.c, Tr.f, mk0_Never]
  | .alw, m + 1, h, hm => by
    rw [call_eq hT rfl]
    simp [f__law_object, start, List.replicate_succ, Tr.d, Tr.c, Tr.f, mk0_Always]
  | .lt q, m + 1, h, hm => by
    rw [call_eq hT rfl]
    cases q <;> simp [f__law_object, start, List.replicate_succ, Tr.d, Tr.c, Tr.f, Tr.ls, in2_S, mk0_Letter]
  | .nt t, m + 1, h, hm => by
    simp only [Tr.dep] at hm
    have ih := obj1_ok hT t m h (by omega)
    rw [call_eq hT rfl]
    simp [f__law_object, start, List.replicate_succ, Tr.d, Tr.c, Tr.f, in2_S, ih, mk0_Not]
  | .fd w a b, m + 1, h, hm => by
    simp only [Tr.dep] at hm
    have i1 := obj1_ok hT a m h (by omega)
    have i2 := obj1_ok hT b m h (by omega)
    rw [call_eq hT rfl]
    cases w <;> simp [f__law_object, start, List.replicate_succ, Tr.d, Tr.c, Tr.f, Wo.s, Wo.c, in2_S, i1, i2, mk0_More, mk0_Less, mk0_Greater, mk0_Lesser, mk0_Leads]
end Q

/-! the law's own rows of a tree -/
namespace Q
section
variable {C : Cl} {s : Ev} {h h2 h3 : Hs} {e : Ex} {tg : Tg} {own : List Nat}
theorem kComp_nil : kComp C s e tg .none own (.ok ⟨[], fun _ => True⟩ h) = .ok (.ref h.length) (h ++ [.lst []]) := by
  show compE _ _ h = _
  unfold compE compL
  simp
theorem kComp_one {d x : D} {s2 : Ev} (a : asg tg d (wipe s own) = some s2) (he : evE C e s2 h = .ok x h2) : kComp C s e tg .none own (.ok ⟨[d], fun _ => True⟩ h) = .ok (.ref h2.length) (h2 ++ [.lst [x]]) := by
  show compE _ _ h = _
  unfold compE
  have hg : compG tg own (fun s h => R.ok true h) (fun s h => evE C e s h) s d h = .ok (some x) h2 := by
    simp only [compG, a, he]
  simp [compL, hg, SZ]
theorem kComp_two {d x d' x' : D} {s2 s3 : Ev} (a : asg tg d (wipe s own) = some s2) (he : evE C e s2 h = .ok x h2) (a' : asg tg d' (wipe s own) = some s3) (he' : evE C e s3 h2 = .ok x' h3) : kComp C s e tg .none own (.ok ⟨[d, d'], fun _ => True⟩ h) = .ok (.ref h3.length) (h3 ++ [.lst [x, x']]) := by
  show compE _ _ h = _
  unfold compE
  have hg : compG tg own (fun s h => R.ok true h) (fun s h => evE C e s h) s d h = .ok (some x) h2 := by
    simp only [compG, a, he]
  have hg' : compG tg own (fun s h => R.ok true h) (fun s h => evE C e s h) s d' h2 = .ok (some x') h3 := by
    simp only [compG, a', he']
  simp [compL, hg, hg', SZ]
theorem walk_tup (xs : List D) : walkSq h (.tup xs) = some ⟨xs, fun _ => True⟩ := rfl
theorem cut1 {α : Type} (x : α) (xs : List α) : cut (x :: xs) (some 1) none = xs := by
  simp [cut, sIx]
theorem sum_ints {n : Nat} {l : List Int} (q : h[n]? = some (.lst (l.map .int))) : Bi.run .sum [.ref n] h = .ok (.int l.sum) h := by
  have e : ∀ l : List Int, intsL (l.map .int) = some l := by
    intro l
    induction l with
    | nil => rfl
    | cons a l ih => simp [intsL, ih]
  simp only [Bi.run, listOf, q, Option.bind_some, e, opt]
end
theorem lsize_ok {T : Tab} (hT : T.fn "_law_size" = some f__law_size) : ∀ (t : Tr) (m : Nat) (h : Hs), t.dep ≤ m → ∃ G, call T m "_law_size" [t.d] h = .ok (.int (t.size : Int)) (h ++ G) := by
  have leaf : ∀ (x : D) (m : Nat) (h : Hs), ∃ G, call T (m + 1) "_law_size" [.tup [x]] h = .ok (.int 1) (h ++ G) := fun x m h => by
    refine ⟨[O.lst []], ?_⟩
    rw [call_eq hT rfl]
    have sm := sum_ints (h := h ++ [O.lst []]) (n := h.length) (l := []) (by simp)
    simp [f__law_size, start, List.replicate_succ, slice, cut1, walkOf, walk_tup, kComp_nil, sm]
  intro t
  induction t with
  | nev => intro m h hm; obtain ⟨m, rfl⟩ : ∃ j, m = j + 1 := ⟨m - 1, by simp only [Tr.dep] at hm; omega⟩; exact leaf _ m h
  | alw => intro m h hm; obtain ⟨m, rfl⟩ : ∃ j, m = j + 1 := ⟨m - 1, by simp only [Tr.dep] at hm; omega⟩; exact leaf _ m h
  | lt q => intro m h hm; obtain ⟨m, rfl⟩ : ∃ j, m = j + 1 := ⟨m - 1, by simp only [Tr.dep] at hm; omega⟩; exact leaf _ m h
  | nt t ih =>
    intro m h hm
    simp only [Tr.dep] at hm
    obtain ⟨m, rfl⟩ : ∃ j, m = j + 1 := ⟨m - 1, by omega⟩
    obtain ⟨G, e⟩ := ih m h (by omega)
    refine ⟨G ++ [.lst [.int (t.size : Int)]], ?_⟩
    rw [call_eq hT rfl]
    have sm := sum_ints (h := (h ++ G) ++ [.lst [.int (t.size : Int)]]) (n := (h ++ G).length) (l := [(t.size : Int)]) (by simp)
    have cm := kComp_one (C := ⟨T, call T m⟩) (s := [some (.tup [.str (S "not"), t.d]), none]) (e := .call "_law_size" (.cons (.v 1) .nil)) (tg := .one 1) (own := [1]) (d := t.d) (h := h) (h2 := h ++ G) (x := .int (t.size : Int)) (s2 := [some (.tup [.str (S "not"), t.d]), some t.d]) rfl (by simp [e])
    simp only [Tr.d]
    generalize t.d = td at *
    rw [show h ++ (G ++ [O.lst [.int (t.size : Int)]]) = h ++ G ++ [O.lst [.int (t.size : Int)]] by simp]
    generalize h ++ G = hg at *
    simp [f__law_size, start, List.replicate_succ, slice, cut1, walkOf, walk_tup, cm, sm, Tr.size]
  | fd w a b iha ihb =>
    intro m h hm
    simp only [Tr.dep] at hm
    obtain ⟨m, rfl⟩ : ∃ j, m = j + 1 := ⟨m - 1, by omega⟩
    obtain ⟨G, e⟩ := iha m h (by omega)
    obtain ⟨G2, e2⟩ := ihb m (h ++ G) (by omega)
    refine ⟨G ++ G2 ++ [.lst [.int (a.size : Int), .int (b.size : Int)]], ?_⟩
    rw [call_eq hT rfl]
    have sm := sum_ints (h := (h ++ (G ++ G2)) ++ [.lst [.int (a.size : Int), .int (b.size : Int)]]) (n := (h ++ (G ++ G2)).length) (l := [(a.size : Int), (b.size : Int)]) (by simp)
    rw [List.append_assoc] at e2
    have cm := kComp_two (C := ⟨T, call T m⟩) (s := [some (.tup [.str (S w.s), a.d, b.d]), none]) (e := .call "_law_size" (.cons (.v 1) .nil)) (tg := .one 1) (own := [1]) (d := a.d) (d' := b.d) (h := h) (h2 := h ++ G) (h3 := h ++ (G ++ G2)) (x := .int (a.size : Int)) (x' := .int (b.size : Int)) (s2 := [some (.tup [.str (S w.s), a.d, b.d]), some a.d]) (s3 := [some (.tup [.str (S w.s), a.d, b.d]), some b.d]) rfl (by simp [e]) rfl (by simp [e2])
    simp only [Tr.d]
    generalize a.d = ad at *
    generalize b.d = bd at *
    rw [show h ++ (G ++ G2 ++ [O.lst [.int (a.size : Int), .int (b.size : Int)]]) = h ++ (G ++ G2) ++ [O.lst [.int (a.size : Int), .int (b.size : Int)]] by simp]
    generalize h ++ (G ++ G2) = hg at *
    simp [f__law_size, start, List.replicate_succ, slice, cut1, walkOf, walk_tup, cm, sm, Tr.size]
    omega
theorem sayv2_ok {T : Tab} (hT : T.fn "_law_saying" = some f__law_saying_v2) : ∀ (t : Tr) (m : Nat) (h : Hs), t.dep ≤ m → call T m "_law_saying" [t.d] h = .ok t.o h
  | t, 0, h, hm => by have := t.dep_pos; omega
  | .nev, m + 1, h, hm => by
    rw [call_eq hT rfl]
    simp [f__law_saying_v2, start, List.replicate_succ, Tr.d, Tr.c, Tr.f, mk0_Never]
  | .alw, m + 1, h, hm => by
    rw [call_eq hT rfl]
    simp [f__law_saying_v2, start, List.replicate_succ, Tr.d, Tr.c, Tr.f, mk0_Always]
  | .lt q, m + 1, h, hm => by
    rw [call_eq hT rfl]
    cases q <;> simp [f__law_saying_v2, start, List.replicate_succ, Tr.d, Tr.c, Tr.f, Tr.ls, in2_S, mk0_Letter]
  | .nt t, m + 1, h, hm => by
    simp only [Tr.dep] at hm
    have ih := sayv2_ok hT t m h (by omega)
    rw [call_eq hT rfl]
    simp [f__law_saying_v2, start, List.replicate_succ, Tr.d, Tr.c, Tr.f, in2_S, ih, mk0_Not]
  | .fd w a b, m + 1, h, hm => by
    simp only [Tr.dep] at hm
    have i1 := sayv2_ok hT a m h (by omega)
    have i2 := sayv2_ok hT b m h (by omega)
    rw [call_eq hT rfl]
    cases w <;> simp [f__law_saying_v2, start, List.replicate_succ, Tr.d, Tr.c, Tr.f, Wo.s, Wo.c, in2_S, i1, i2, mk0_More, mk0_Less, mk0_Greater, mk0_Lesser, mk0_Leads]
end Q

/-! sayings put in for letters -/
namespace Q
def Tr.put : Tr → Tr → Tr → Tr
  | .nev, _, _ => .nev
  | .alw, _, _ => .alw
  | .lt q, u, v => if q = true then v else u
  | .nt t, u, v => .nt (t.put u v)
  | .fd w a b, u, v => .fd w (a.put u v) (b.put u v)
theorem Tr.put_wo (n x y : Int) (u v : Tr) : ∀ t : Tr, (t.put u v).wo n x y = t.wo n (u.wo n x y) (v.wo n x y)
  | .nev => rfl
  | .alw => rfl
  | .lt q => by cases q <;> rfl
  | .nt t => by simp only [Tr.put, Tr.wo, Tr.put_wo n x y u v t]
  | .fd w a b => by simp only [Tr.put, Tr.wo, Tr.put_wo n x y u v a, Tr.put_wo n x y u v b]
theorem Tr.put_size {u v : Tr} {m : Nat} (m1 : 1 ≤ m) (hu : u.size ≤ m) (hv : v.size ≤ m) : ∀ t : Tr, (t.put u v).size ≤ m * t.size
  | .nev => by simp only [Tr.put, Tr.size]; omega
  | .alw => by simp only [Tr.put, Tr.size]; omega
  | .lt q => by cases q <;> simp [Tr.put, Tr.size] <;> omega
  | .nt t => by
    have := Tr.put_size m1 hu hv t
    simp only [Tr.put, Tr.size]
    rw [Nat.mul_add]; omega
  | .fd w a b => by
    have := Tr.put_size m1 hu hv a
    have := Tr.put_size m1 hu hv b
    simp only [Tr.put, Tr.size]
    rw [Nat.mul_add, Nat.mul_add]; omega
theorem isi_cp (h : Hs) (c e : Cn) (ds : List D) : isTys h (.obj c ds) [.own e] = some (c.under e) := by
  simp [isTys, isTy]
theorem put_in_ok {T : Tab} (hT : T.fn "sayings.put_in" = some f_sayings_put_in) (u v : Tr) : ∀ (t : Tr) (m : Nat) (h : Hs), t.dep ≤ m → call T m "sayings.put_in" [t.o, u.o, v.o] h = .ok (t.put u v).o h
  | t, 0, h, hm => by have := t.dep_pos; omega
  | .nev, m + 1, h, hm => by
    rw [call_eq hT rfl]
    simp [f_sayings_put_in, start, List.replicate_succ, Tr.o, Tr.c, Tr.f, isi_cp, Cn.under, Cn.up, Tr.put]
  | .alw, m + 1, h, hm => by
    rw [call_eq hT rfl]
    simp [f_sayings_put_in, start, List.replicate_succ, Tr.o, Tr.c, Tr.f, isi_cp, Cn.under, Cn.up, Tr.put]
  | .lt q, m + 1, h, hm => by
    have e : fldD "name" (.obj .Letter [.str (S (Tr.ls q))]) h = .ok (.str (S (Tr.ls q))) h := rfl
    rw [call_eq hT rfl]
    have eo : (Tr.lt q).o = .obj .Letter [.str (S (Tr.ls q))] := rfl
    rw [eo]
    have el : S (Tr.ls q) = if q = true then S "q" else S "p" := by cases q <;> rfl
    rw [el] at e ⊢
    cases q <;> simp only [if_true, if_false, Bool.false_eq_true] at e ⊢ <;> simp [f_sayings_put_in, start, List.replicate_succ, isi_cp, Cn.under, Cn.up, Tr.put, e]
  | .nt t, m + 1, h, hm => by
    simp only [Tr.dep] at hm
    have ih := put_in_ok hT u v t m h (by omega)
    have e : fldD "part" (.obj .Not [t.o]) h = .ok t.o h := rfl
    rw [call_eq hT rfl]
    have eo : (Tr.nt t).o = .obj .Not [t.o] := rfl
    have ep : ((Tr.nt t).put u v).o = .obj .Not [(t.put u v).o] := rfl
    rw [eo, ep]
    generalize t.o = x at *
    generalize (t.put u v).o = z at *
    generalize u.o = uo at *
    generalize v.o = vo at *
    simp [f_sayings_put_in, start, List.replicate_succ, isi_cp, Cn.under, Cn.up, e, ih, mk0_Not]
  | .fd w a b, m + 1, h, hm => by
    simp only [Tr.dep] at hm
    have i1 := put_in_ok hT u v a m h (by omega)
    have i2 := put_in_ok hT u v b m h (by omega)
    have e1 : fldD "one" (.obj w.c [a.o, b.o]) h = .ok a.o h := by cases w <;> rfl
    have e2 : fldD "other" (.obj w.c [a.o, b.o]) h = .ok b.o h := by cases w <;> rfl
    rw [call_eq hT rfl]
    have eo : (Tr.fd w a b).o = .obj w.c [a.o, b.o] := rfl
    have ep : ((Tr.fd w a b).put u v).o = .obj w.c [(a.put u v).o, (b.put u v).o] := rfl
    rw [eo, ep]
    generalize a.o = x at *
    generalize b.o = y at *
    generalize (a.put u v).o = z at *
    generalize (b.put u v).o = z2 at *
    generalize u.o = uo at *
    generalize v.o = vo at *
    cases w <;> simp only [Wo.c] at e1 e2 <;> simp [f_sayings_put_in, start, List.replicate_succ, isi_cp, Wo.c, Cn.under, Cn.up, e1, e2, i1, i2, mk0_More, mk0_Less, mk0_Greater, mk0_Lesser, mk0_Leads]
theorem cut01 {α : Type} (x : α) (xs : List α) : cut (x :: xs) none (some 1) = [x] := by
  have e1 : min (Int.toNat 1) (xs.length + 1) = 1 := by rw [show Int.toNat 1 = 1 from rfl]; omega
  simp [cut, sIx, e1]
theorem addTp {h : Hs} (xs ys : List D) (l : xs.length + ys.length ≤ SZ) : Bop.run .add (.tup xs) (.tup ys) h = .ok (.tup (xs ++ ys)) h := if_pos l
theorem lputs_ok {T : Tab} (hT : T.fn "_law_put" = some f__law_put) (u v : Tr) : ∀ (t : Tr) (m : Nat) (h : Hs), t.dep ≤ m → ∃ G, call T m "_law_put" [t.d, u.d, v.d] h = .ok (t.put u v).d (h ++ G)
  | t, 0, h, hm => by have := t.dep_pos; omega
  | .nev, m + 1, h, hm => by
    refine ⟨[O.lst []], ?_⟩
    rw [call_eq hT rfl]
    have tp := tuple_lst (h := h ++ [O.lst []]) (n := h.length) (xs := []) (by simp)
    have ad := addTp (h := h ++ [O.lst []]) [.str (S "never")] [] (by simp [SZ])
    simp only [List.append_nil] at ad
    simp [f__law_put, start, List.replicate_succ, Tr.d, Tr.put, in2_S, slice, cut1, cut01, walkOf, walk_tup, kComp_nil, tp, ad]
  | .alw, m + 1, h, hm => by
    refine ⟨[O.lst []], ?_⟩
    rw [call_eq hT rfl]
    have tp := tuple_lst (h := h ++ [O.lst []]) (n := h.length) (xs := []) (by simp)
    have ad := addTp (h := h ++ [O.lst []]) [.str (S "always")] [] (by simp [SZ])
    simp only [List.append_nil] at ad
    simp [f__law_put, start, List.replicate_succ, Tr.d, Tr.put, in2_S, slice, cut1, cut01, walkOf, walk_tup, kComp_nil, tp, ad]
  | .lt q, m + 1, h, hm => by
    refine ⟨[O.lst [u.d, v.d]], ?_⟩
    rw [call_eq hT rfl]
    have g := fun i => getI_lst (h := h ++ [O.lst [u.d, v.d]]) (n := h.length) (xs := [u.d, v.d]) (by simp) i
    have eo : (Tr.lt q).d = .tup [.str (S (Tr.ls q))] := rfl
    rw [eo]
    simp only [Tr.put]
    cases q <;> simp [f__law_put, start, List.replicate_succ, Tr.ls, in2_S, b2i, g]
  | .nt t, m + 1, h, hm => by
    simp only [Tr.dep] at hm
    obtain ⟨G, e⟩ := lputs_ok hT u v t m h (by omega)
    refine ⟨G ++ [O.lst [(t.put u v).d]], ?_⟩
    rw [call_eq hT rfl, ← List.append_assoc]
    have eo : (Tr.nt t).d = .tup [.str (S "not"), t.d] := rfl
    have ep : ((Tr.nt t).put u v).d = .tup [.str (S "not"), (t.put u v).d] := rfl
    rw [eo, ep]
    generalize h ++ G = h2 at *
    generalize t.d = x at *
    generalize (t.put u v).d = z at *
    generalize u.d = ud at *
    generalize v.d = vd at *
    have cm := kComp_one (C := ⟨T, call T m⟩) (s := [some (.tup [.str (S "not"), x]), some ud, some vd, none]) (e := .call "_law_put" (.cons (.v 3) (.cons (.v 1) (.cons (.v 2) .nil)))) (tg := .one 3) (own := [3]) (d := x) (h := h) (h2 := h2) (x := z) (s2 := [some (.tup [.str (S "not"), x]), some ud, some vd, some x]) rfl (by simp [e])
    have tp := tuple_lst (h := h2 ++ [O.lst [z]]) (n := h2.length) (xs := [z]) (by simp)
    have ad := addTp (h := h2 ++ [O.lst [z]]) [.str (S "not")] [z] (by simp [SZ])
    simp only [List.cons_append, List.nil_append] at ad
    simp [f__law_put, start, List.replicate_succ, in2_S, slice, cut1, cut01, walkOf, walk_tup, cm, tp, ad]
  | .fd w a b, m + 1, h, hm => by
    simp only [Tr.dep] at hm
    obtain ⟨G, e⟩ := lputs_ok hT u v a m h (by omega)
    obtain ⟨G2, e2⟩ := lputs_ok hT u v b m (h ++ G) (by omega)
    refine ⟨G ++ G2 ++ [O.lst [(a.put u v).d, (b.put u v).d]], ?_⟩
    rw [call_eq hT rfl, ← List.append_assoc, ← List.append_assoc]
    have eo : (Tr.fd w a b).d = .tup [.str (S w.s), a.d, b.d] := rfl
    have ep : ((Tr.fd w a b).put u v).d = .tup [.str (S w.s), (a.put u v).d, (b.put u v).d] := rfl
    rw [eo, ep]
    generalize h ++ G = h2 at *
    generalize h2 ++ G2 = h3 at *
    generalize a.d = x at *
    generalize b.d = y at *
    generalize (a.put u v).d = z at *
    generalize (b.put u v).d = z2 at *
    generalize u.d = ud at *
    generalize v.d = vd at *
    have cm := kComp_two (C := ⟨T, call T m⟩) (s := [some (.tup [.str (S w.s), x, y]), some ud, some vd, none]) (e := .call "_law_put" (.cons (.v 3) (.cons (.v 1) (.cons (.v 2) .nil)))) (tg := .one 3) (own := [3]) (d := x) (d' := y) (h := h) (h2 := h2) (h3 := h3) (x := z) (x' := z2) (s2 := [some (.tup [.str (S w.s), x, y]), some ud, some vd, some x]) (s3 := [some (.tup [.str (S w.s), x, y]), some ud, some vd, some y]) rfl (by simp [e]) rfl (by simp [e2])
    have tp := tuple_lst (h := h3 ++ [O.lst [z, z2]]) (n := h3.length) (xs := [z, z2]) (by simp)
    have ad := addTp (h := h3 ++ [O.lst [z, z2]]) [.str (S w.s)] [z, z2] (by simp [SZ])
    simp only [List.cons_append, List.nil_append] at ad
    have iw : Cop.run .isin (.str (S w.s)) (.tup [.str (S "p"), .str (S "q")]) h = .ok (.bl false) h := by
      rw [in2_S]; cases w <;> simp [Wo.s]
    simp [f__law_put, start, List.replicate_succ, iw, slice, cut1, cut01, walkOf, walk_tup, cm, tp, ad]
end Q

/-! sayings tell their texts, count their parts -/
namespace Q
noncomputable section
variable {C : Cl} {s : Ev} {h : Hs}
theorem cm_nil {ok : Hs → Prop} {g : D → Hs → R (Option D)} (q : ok h) : compL ok g [] h = .ok [] h := by unfold compL; rw [if_pos q]
theorem cm_cons {ok : Hs → Prop} {tg : Tg} {own : List Nat} {e : Ex} {d x : D} {ds l : List D} {s2 : Ev} {h2 h3 : Hs} (q : ok h) (a : asg tg d (wipe s own) = some s2) (v : evE C e s2 h = .ok x h2)
    (r : compL ok (compG tg own (fun s h => evC C .none s h) (fun s h => evE C e s h) s) ds h2 = .ok l h3) : compL ok (compG tg own (fun s h => evC C .none s h) (fun s h => evE C e s h) s) (d :: ds) h = .ok (x :: l) h3 := by
  unfold compL
  rw [if_pos q]
  have hg : compG tg own (fun s h => evC C .none s h) (fun s h => evE C e s h) s d h = .ok (some x) h2 := by
    simp only [compG, a, evC_none, v]
  rw [hg]
  simp only
  rw [r]
theorem kComp_of {e : Ex} {tg : Tg} {own : List Nat} {w : Walk} {l : List D} {h2 : Hs} (r : compL w.ok (compG tg own (fun s h => evC C .none s h) (fun s h => evE C e s h) s) w.items h = .ok l h2) (hl : w.items.length ≤ SZ) :
    kComp C s e tg .none own (.ok w h) = .ok (.ref h2.length) (h2 ++ [.lst l]) := by
  show compE w _ h = _
  unfold compE
  rw [r]
  simp only [hl, if_true]
theorem kComp3 {e : Ex} {tg : Tg} {own : List Nat} {ok : Hs → Prop} {d1 d2 d3 x1 x2 x3 : D} {s1 s2 s3 : Ev} {h1 h2 h3 : Hs} (o0 : ok h) (o1 : ok h1) (o2 : ok h2) (o3 : ok h3)
    (a1 : asg tg d1 (wipe s own) = some s1) (a2 : asg tg d2 (wipe s own) = some s2) (a3 : asg tg d3 (wipe s own) = some s3)
    (v1 : evE C e s1 h = .ok x1 h1) (v2 : evE C e s2 h1 = .ok x2 h2) (v3 : evE C e s3 h2 = .ok x3 h3) :
    kComp C s e tg .none own (.ok ⟨[d1, d2, d3], ok⟩ h) = .ok (.ref h3.length) (h3 ++ [.lst [x1, x2, x3]]) :=
  kComp_of (w := ⟨[d1, d2, d3], ok⟩) (cm_cons o0 a1 v1 (cm_cons o1 a2 v2 (cm_cons o2 a3 v3 (cm_nil o3)))) (by simp [SZ])
theorem sum_lst {n : Nat} {xs : List D} {is : List Int} (q : h[n]? = some (.lst xs)) (e : intsL xs = some is) : Bi.run .sum [.ref n] h = .ok (.int is.sum) h := by
  simp only [Bi.run, listOf, q, Option.bind_some, e, opt_some]
end
/-! ### told -/
def Tr.tkey : Tr → String
  | .nev => "Never.told" | .alw => "Always.told" | .lt _ => "Letter.told" | .nt _ => "Not.told" | .fd _ _ _ => "Fold.told"
def Wo.skey : Wo → String
  | .more => "More.sign" | .less => "Less.sign" | .greater => "Greater.sign" | .lesser => "Lesser.sign" | .leads => "Leads.sign"
structure KTold (T : Tab) : Prop where
  m1 : T.meth .Never "told" = some "Never.told"
  m2 : T.meth .Always "told" = some "Always.told"
  m3 : T.meth .Letter "told" = some "Letter.told"
  m4 : T.meth .Not "told" = some "Not.told"
  m5 : ∀ w : Wo, T.meth w.c "told" = some "Fold.told"
  m6 : ∀ w : Wo, T.meth w.c "sign" = some w.skey
  f1 : T.fn "Never.told" = some f_Never_told
  f2 : T.fn "Always.told" = some f_Always_told
  f3 : T.fn "Letter.told" = some f_Letter_told
  f4 : T.fn "Not.told" = some f_Not_told
  f5 : T.fn "Fold.told" = some f_Fold_told
  g1 : T.fn "More.sign" = some f_More_sign
  g2 : T.fn "Less.sign" = some f_Less_sign
  g3 : T.fn "Greater.sign" = some f_Greater_sign
  g4 : T.fn "Lesser.sign" = some f_Lesser_sign
  g5 : T.fn "Leads.sign" = some f_Leads_sign
theorem KTold.mo {T : Tab} (K : KTold T) (t : Tr) : T.meth t.c "told" = some t.tkey := by
  cases t with
  | nev => exact K.m1
  | alw => exact K.m2
  | lt q => exact K.m3
  | nt t => exact K.m4
  | fd w a b => exact K.m5 w
theorem sign_ok {T : Tab} (K : KTold T) (w : Wo) (k : Nat) (h : Hs) (d : D) : call T (k + 1) w.skey [d] h = .ok (.str (S w.s)) h := by
  cases w <;> simp only [Wo.skey, Wo.s]
  · rw [call_eq K.g1 rfl]; simp [f_More_sign, start]
  · rw [call_eq K.g2 rfl]; simp [f_Less_sign, start]
  · rw [call_eq K.g3 rfl]; simp [f_Greater_sign, start]
  · rw [call_eq K.g4 rfl]; simp [f_Lesser_sign, start]
  · rw [call_eq K.g5 rfl]; simp [f_Leads_sign, start]
theorem told_t {T : Tab} (K : KTold T) : ∀ (t : Tr) (m : Nat) (h : Hs), 2 * t.dep ≤ m → t.size ≤ 1000 → call T m t.tkey [t.o] h = .ok (.str t.tx) h
  | t, 0, h, hm, hs => by have := t.dep_pos; omega
  | .nev, m + 1, h, hm, hs => by
    simp only [Tr.tkey]
    rw [call_eq K.f1 rfl]
    simp [f_Never_told, start, Tr.tx]
  | .alw, m + 1, h, hm, hs => by
    simp only [Tr.tkey]
    rw [call_eq K.f2 rfl]
    simp [f_Always_told, start, Tr.tx]
  | .lt q, m + 1, h, hm, hs => by
    simp only [Tr.tkey]
    have e : fldD "name" (Tr.lt q).o h = .ok (.str (S (Tr.ls q))) h := rfl
    rw [call_eq K.f3 rfl]
    simp [f_Letter_told, start, Tr.tx, e]
  | .nt t, m + 1, h, hm, hs => by
    simp only [Tr.dep] at hm
    simp only [Tr.size] at hs
    simp only [Tr.tkey]
    have ih := told_t K t m h (by omega) (by omega)
    have l := tx_len t
    have e : ("not " : String).length = 4 := rfl
    have ad := run_addS (x := S "not ") (y := t.tx) (h := h) (by rw [len_S, e]; unfold SZ; omega)
    have e2 : fldD "part" (Tr.nt t).o h = .ok t.o h := rfl
    rw [call_eq K.f4 rfl]
    simp [f_Not_told, start, Tr.tx, e2, K.mo t, ih, ad]
  | .fd w a b, m + 1, h, hm, hs => by
    simp only [Tr.dep] at hm
    simp only [Tr.size] at hs
    simp only [Tr.tkey]
    have i1 := told_t K a m h (by omega) (by omega)
    have i2 := told_t K b m h (by omega) (by omega)
    have l1 := tx_len a
    have l2 := tx_len b
    have e1 : ("( " : String).length = 2 := rfl
    have e2 : (" " : String).length = 1 := rfl
    have e3 : (" )" : String).length = 2 := rfl
    have e4 : w.s.length ≤ 7 := by cases w <;> decide
    have a1 := run_addS (x := S "( ") (y := a.tx) (h := h) (by simp only [len_app, len_S, e1, e2, e3]; unfold SZ; omega)
    have a2 := run_addS (x := S "( " ++ a.tx) (y := S " ") (h := h) (by simp only [len_app, len_S, e1, e2, e3]; unfold SZ; omega)
    have a3 := run_addS (x := S "( " ++ a.tx ++ S " ") (y := S w.s) (h := h) (by simp only [len_app, len_S, e1, e2, e3]; unfold SZ; omega)
    have a4 := run_addS (x := S "( " ++ a.tx ++ S " " ++ S w.s) (y := S " ") (h := h) (by simp only [len_app, len_S, e1, e2, e3]; unfold SZ; omega)
    have a5 := run_addS (x := S "( " ++ a.tx ++ S " " ++ S w.s ++ S " ") (y := b.tx) (h := h) (by simp only [len_app, len_S, e1, e2, e3]; unfold SZ; omega)
    have a6 := run_addS (x := S "( " ++ a.tx ++ S " " ++ S w.s ++ S " " ++ b.tx) (y := S " )") (h := h) (by simp only [len_app, len_S, e1, e2, e3]; unfold SZ; omega)
    have mm : 0 < m := by have := a.dep_pos; omega
    obtain ⟨m', rfl⟩ : ∃ m', m = m' + 1 := ⟨m - 1, by omega⟩
    have f1 : fldD "one" (Tr.fd w a b).o h = .ok a.o h := fld_one w a.o b.o h
    have f2 : fldD "other" (Tr.fd w a b).o h = .ok b.o h := fld_other w a.o b.o h
    have f3 : T.meth (Tr.fd w a b).c "sign" = some w.skey := K.m6 w
    have sg := sign_ok K w m' h (Tr.fd w a b).o
    rw [call_eq K.f5 rfl]
    simp [f_Fold_told, start, Tr.tx, f1, f2, K.mo a, K.mo b, f3, i1, i2, sg, a1, a2, a3, a4, a5, a6]
/-! ### parts -/
def Tr.ikey : Tr → String
  | .nev | .alw | .lt _ => "Saying.inner" | .nt _ => "Not.inner" | .fd _ _ _ => "Fold.inner"
def Tr.inn : Tr → List Tr
  | .nev | .alw | .lt _ => [] | .nt t => [t] | .fd _ a b => [a, b]
structure KParts (T : Tab) : Prop where
  m : ∀ t : Tr, T.meth t.c "parts" = some "Saying.parts"
  i : ∀ t : Tr, T.meth t.c "inner" = some t.ikey
  f0 : T.fn "Saying.parts" = some f_Saying_parts
  f1 : T.fn "Saying.inner" = some f_Saying_inner
  f2 : T.fn "Not.inner" = some f_Not_inner
  f3 : T.fn "Fold.inner" = some f_Fold_inner
theorem inner_ok {T : Tab} (K : KParts T) (t : Tr) (k : Nat) (h : Hs) : call T (k + 1) t.ikey [t.o] h = .ok (.ref h.length) (h ++ [.lst (t.inn.map Tr.o)]) := by
  cases t with
  | nev => simp only [Tr.ikey, Tr.inn]; rw [call_eq K.f1 rfl]; simp [f_Saying_inner, start]
  | alw => simp only [Tr.ikey, Tr.inn]; rw [call_eq K.f1 rfl]; simp [f_Saying_inner, start]
  | lt q => simp only [Tr.ikey, Tr.inn]; rw [call_eq K.f1 rfl]; simp [f_Saying_inner, start]
  | nt t =>
    have e2 : fldD "part" (Tr.nt t).o h = .ok t.o h := rfl
    simp only [Tr.ikey, Tr.inn]; rw [call_eq K.f2 rfl]; simp [f_Not_inner, start, e2]
  | fd w a b =>
    have f1 : fldD "one" (Tr.fd w a b).o h = .ok a.o h := fld_one w a.o b.o h
    have f2 : fldD "other" (Tr.fd w a b).o h = .ok b.o h := fld_other w a.o b.o h
    simp only [Tr.ikey, Tr.inn]; rw [call_eq K.f3 rfl]; simp [f_Fold_inner, start, f1, f2]
theorem parts_ok {T : Tab} (K : KParts T) : ∀ (t : Tr) (m : Nat) (h : Hs), 2 * t.dep ≤ m → ∃ G, call T m "Saying.parts" [t.o] h = .ok (.int t.size) (h ++ G)
  | t, 0, h, hm => by have := t.dep_pos; omega
  | t, m + 1, h, hm => by
    have mm : 0 < m := by have := t.dep_pos; omega
    have key : ∃ (is : List Int) (h2 : Hs), compL (fun x => x[h.length]? = some (.lst (t.inn.map Tr.o))) (compG (.one 1) [1] (fun s x => evC ⟨T, call T m⟩ .none s x) (fun s x => evE ⟨T, call T m⟩ (.mth (.v 1) "parts" .nil) s x) [some t.o, none]) (t.inn.map Tr.o) (h ++ [.lst (t.inn.map Tr.o)]) = .ok (is.map .int) h2 ∧
        Gr (h ++ [.lst (t.inn.map Tr.o)]) h2 ∧ 1 + is.sum = t.size := by
      have g0 : (h ++ [.lst (t.inn.map Tr.o)])[h.length]? = some (.lst (t.inn.map Tr.o)) := by simp
      cases t with
      | nev => exact ⟨[], _, cm_nil g0, Gr.refl _, rfl⟩
      | alw => exact ⟨[], _, cm_nil g0, Gr.refl _, rfl⟩
      | lt q => exact ⟨[], _, cm_nil g0, Gr.refl _, rfl⟩
      | nt a =>
        simp only [Tr.dep] at hm
        obtain ⟨G, e⟩ := parts_ok K a m (h ++ [.lst ((Tr.nt a).inn.map Tr.o)]) (by omega)
        have g1 := (Gr.app _ G).at g0
        refine ⟨[a.size], _, cm_cons g0 rfl (x := .int a.size) (h2 := h ++ [.lst ((Tr.nt a).inn.map Tr.o)] ++ G) ?_ (cm_nil g1), Gr.app _ G, by simp [Tr.size]⟩
        simp [wipe, K.m a]
        simpa using e
      | fd w a b =>
        simp only [Tr.dep] at hm
        obtain ⟨G, e⟩ := parts_ok K a m (h ++ [.lst ((Tr.fd w a b).inn.map Tr.o)]) (by omega)
        obtain ⟨G', e'⟩ := parts_ok K b m (h ++ [.lst ((Tr.fd w a b).inn.map Tr.o)] ++ G) (by omega)
        have g1 := (Gr.app _ G).at g0
        have g2 := (Gr.app _ G').at g1
        refine ⟨[a.size, b.size], _, cm_cons g0 rfl (x := .int a.size) (h2 := h ++ [.lst ((Tr.fd w a b).inn.map Tr.o)] ++ G) ?_ (cm_cons g1 rfl (x := .int b.size) (h2 := h ++ [.lst ((Tr.fd w a b).inn.map Tr.o)] ++ G ++ G') ?_ (cm_nil g2)), (Gr.app _ G).trans (Gr.app _ G'), by simp [Tr.size]; omega⟩
        · simp [wipe, K.m a]
          simpa using e
        · simp [wipe, K.m b]
          simpa using e'
    obtain ⟨is, h2, e, gr, es⟩ := key
    obtain ⟨G, rfl⟩ := gr
    obtain ⟨m', rfl⟩ : ∃ m', m = m' + 1 := ⟨m - 1, by omega⟩
    have inn := inner_ok K t m' h
    have hl : (t.inn.map Tr.o).length ≤ SZ := by cases t <;> simp [Tr.inn, SZ]
    have kc := kComp_of (C := ⟨T, call T (m' + 1)⟩) (s := [some t.o, none]) (w := ⟨t.inn.map Tr.o, fun x => x[h.length]? = some (.lst (t.inn.map Tr.o))⟩) e hl
    have ws : walkSq (h ++ [.lst (t.inn.map Tr.o)]) (.ref h.length) = some ⟨t.inn.map Tr.o, fun x => x[h.length]? = some (.lst (t.inn.map Tr.o))⟩ := walkSq_lst (by simp)
    have il : intsL (is.map .int) = some is := by
      induction is with
      | nil => rfl
      | cons i is ih => simp [intsL]; exact intsL_map is
    have sm := sum_lst (h := h ++ [.lst (t.inn.map Tr.o)] ++ G ++ [.lst (is.map .int)]) (n := (h ++ [O.lst (t.inn.map Tr.o)] ++ G).length) (xs := is.map .int) (by simp) il
    refine ⟨[.lst (t.inn.map Tr.o)] ++ G ++ [.lst (is.map .int)], ?_⟩
    rw [show h ++ ([.lst (t.inn.map Tr.o)] ++ G ++ [.lst (is.map .int)]) = h ++ [.lst (t.inn.map Tr.o)] ++ G ++ [.lst (is.map .int)] by simp]
    generalize h ++ [.lst (t.inn.map Tr.o)] = h1 at *
    generalize h1 ++ G = h3 at *
    rw [call_eq K.f0 rfl]
    simp [f_Saying_parts, start, K.i t, inn, ws, kc, sm, es]
where
  intsL_map : ∀ is : List Int, intsL (is.map .int) = some is
    | [] => rfl
    | i :: is => by simp [intsL, intsL_map is]
end Q

/-! objects of trees, worths by a law, points -/
namespace Q
section
variable {h : Hs}
@[simp] theorem mkO_Never : mkO .Never [] h = .ok (.obj .Never []) h := rfl
@[simp] theorem mkO_Always : mkO .Always [] h = .ok (.obj .Always []) h := rfl
@[simp] theorem mkO_Letter (x : D) : mkO .Letter [x] h = .ok (.obj .Letter [x]) h := rfl
@[simp] theorem mkO_Not (x : D) : mkO .Not [x] h = .ok (.obj .Not [x]) h := rfl
@[simp] theorem mkO_More (x y : D) : mkO .More [x, y] h = .ok (.obj .More [x, y]) h := rfl
@[simp] theorem mkO_Less (x y : D) : mkO .Less [x, y] h = .ok (.obj .Less [x, y]) h := rfl
@[simp] theorem mkO_Greater (x y : D) : mkO .Greater [x, y] h = .ok (.obj .Greater [x, y]) h := rfl
@[simp] theorem mkO_Lesser (x y : D) : mkO .Lesser [x, y] h = .ok (.obj .Lesser [x, y]) h := rfl
@[simp] theorem mkO_Leads (x y : D) : mkO .Leads [x, y] h = .ok (.obj .Leads [x, y]) h := rfl
@[simp] theorem mkDic_nil (t : Bool) : mkDic t [] h = .ok (.ref h.length) (h ++ [.dic t []]) := rfl
end
theorem lfold_ok {T : Tab} (hT : T.fn "_law_fold" = some f__law_fold) (w : Wo) (k : Nat) (h : Hs) (n a b : Int) : call T (k + 1) "_law_fold" [.str (S w.s), .int n, .int a, .int b] h = .ok (.int (w.wo n a b)) h := by
  rw [call_eq hT rfl]
  cases w <;> simp [f__law_fold, start, Wo.s, Wo.wo]
theorem lworth_ok {T : Tab} (hT : T.fn "_law_worth" = some f__law_worth) (hF : T.fn "_law_fold" = some f__law_fold) {n x y : Int} (bn : mulB n) : ∀ (t : Tr) (m : Nat) (h : Hs), 2 * t.dep ≤ m → ∃ G, call T m "_law_worth" [t.d, .int n, .int x, .int y] h = .ok (.int (t.wo n x y)) (h ++ G)
  | t, 0, h, hm => by have := t.dep_pos; omega
  | .nev, m + 1, h, hm => by
    refine ⟨[], ?_⟩
    rw [call_eq hT rfl]
    have m0 : mulB 0 := by decide
    simp [f__law_worth, start, Tr.d, Tr.wo, in2_S, b2i, run_mul, bn, m0]
  | .alw, m + 1, h, hm => by
    refine ⟨[], ?_⟩
    rw [call_eq hT rfl]
    have m0 : mulB 1 := by decide
    simp [f__law_worth, start, Tr.d, Tr.wo, in2_S, b2i, run_mul, bn, m0]
  | .lt q, m + 1, h, hm => by
    refine ⟨[.lst [.int x, .int y]], ?_⟩
    rw [call_eq hT rfl]
    have g := fun i => getI_lst (h := h ++ [.lst [.int x, .int y]]) (n := h.length) (xs := [.int x, .int y]) (by simp) i
    cases q <;> simp [f__law_worth, start, Tr.d, Tr.wo, Tr.ls, in2_S, b2i, g]
  | .nt t, m + 1, h, hm => by
    simp only [Tr.dep] at hm
    obtain ⟨G, e⟩ := lworth_ok hT hF (x := x) (y := y) bn t m h (by omega)
    refine ⟨G, ?_⟩
    rw [call_eq hT rfl]
    simp [f__law_worth, start, Tr.d, Tr.wo, in2_S, e]
  | .fd w a b, m + 1, h, hm => by
    simp only [Tr.dep] at hm
    obtain ⟨G, e1⟩ := lworth_ok hT hF (x := x) (y := y) bn a m h (by omega)
    obtain ⟨G', e2⟩ := lworth_ok hT hF (x := x) (y := y) bn b m (h ++ G) (by omega)
    have mm : 0 < m := by have := a.dep_pos; omega
    obtain ⟨m', rfl⟩ : ∃ m', m = m' + 1 := ⟨m - 1, by omega⟩
    refine ⟨G ++ G', ?_⟩
    have lf := lfold_ok hF w m' (h ++ G ++ G') n (a.wo n x y) (b.wo n x y)
    rw [show h ++ (G ++ G') = h ++ G ++ G' by simp]
    generalize h ++ G = h2 at *
    generalize h2 ++ G' = h3 at *
    rw [call_eq hT rfl]
    cases w <;> simp only [Wo.s] at lf <;> simp [f__law_worth, start, Tr.d, Tr.wo, Wo.s, in2_S, e1, e2, lf]
/-! ### a tree's object -/
structure KObj (T : Tab) : Prop where
  text : T.fn "_law_text" = some f__law_text
  obj : T.fn "_law_object" = some f__law_object_v2
  ot : T.fn "_law_of_tree" = some f__law_of_tree
theorem obj_none {T : Tab} (K : KObj T) : ∀ (t : Tr) (m : Nat) (h : Hs), 2 * t.dep ≤ m → call T m "_law_of_tree" [t.d, .non] h = .ok t.o h
  | t, 0, h, hm => by have := t.dep_pos; omega
  | .nev, m + 1, h, hm => by
    rw [call_eq K.ot rfl]
    simp [f__law_of_tree, start, List.replicate_succ, Tr.d, Tr.c, Tr.f]
  | .alw, m + 1, h, hm => by
    rw [call_eq K.ot rfl]
    simp [f__law_of_tree, start, List.replicate_succ, Tr.d, Tr.c, Tr.f]
  | .lt q, m + 1, h, hm => by
    rw [call_eq K.ot rfl]
    cases q <;> simp [f__law_of_tree, start, List.replicate_succ, Tr.d, Tr.c, Tr.f, Tr.ls, in2_S]
  | .nt t, m + 1, h, hm => by
    simp only [Tr.dep] at hm
    have mm : 1 < m := by have := t.dep_pos; omega
    obtain ⟨m', rfl⟩ : ∃ m', m = m' + 1 := ⟨m - 1, by omega⟩
    have ih := obj_none K t m' h (by omega)
    have o1 : call T (m' + 1) "_law_object" [t.d, .non] h = .ok t.o h := by
      rw [call_eq K.obj rfl]
      simp [f__law_object_v2, start, isN, ih]
    rw [call_eq K.ot rfl]
    simp [f__law_of_tree, start, List.replicate_succ, Tr.d, Tr.c, Tr.f, in2_S, o1]
  | .fd w a b, m + 1, h, hm => by
    simp only [Tr.dep] at hm
    have mm : 1 < m := by have := a.dep_pos; omega
    obtain ⟨m', rfl⟩ : ∃ m', m = m' + 1 := ⟨m - 1, by omega⟩
    have i1 := obj_none K a m' h (by omega)
    have i2 := obj_none K b m' h (by omega)
    have o1 : call T (m' + 1) "_law_object" [a.d, .non] h = .ok a.o h := by
      rw [call_eq K.obj rfl]
      simp [f__law_object_v2, start, isN, i1]
    have o2 : call T (m' + 1) "_law_object" [b.d, .non] h = .ok b.o h := by
      rw [call_eq K.obj rfl]
      simp [f__law_object_v2, start, isN, i2]
    rw [call_eq K.ot rfl]
    cases w <;> simp [f__law_of_tree, start, List.replicate_succ, Tr.d, Tr.c, Tr.f, Wo.s, Wo.c, in2_S, o1, o2]
/-- what is kept: texts of trees and their objects -/
def KInv (kvs : List (D × D)) : Prop := ∀ p ∈ kvs, ∃ t : Tr, p = (.str t.tx, t.o)
theorem dlook_mem {k v : D} : ∀ {l : List (D × D)}, dlook k l = some v → ∃ a, (a, v) ∈ l ∧ deq a k = true
  | [], h => by simp [dlook] at h
  | (a, w) :: r, h => by
    simp only [dlook] at h
    split at h
    · rename_i e
      cases h
      exact ⟨a, List.mem_cons_self, e⟩
    · obtain ⟨b, h1, h2⟩ := dlook_mem h
      exact ⟨b, List.mem_cons_of_mem _ h1, h2⟩
theorem dlook_dput {k v : D} (hk : deq k k = true) : ∀ l : List (D × D), dlook k (dput k v l) = some v
  | [] => by simp [dput, dlook, hk]
  | (a, w) :: r => by
    simp only [dput]
    split
    · rename_i e; simp [dlook, e]
    · rename_i e; simp [dlook, e, dlook_dput hk r]
theorem dput_mem {k v : D} {p : D × D} : ∀ {l : List (D × D)}, p ∈ dput k v l → p ∈ l ∨ p = (k, v) ∨ ∃ a w, (a, w) ∈ l ∧ deq a k = true ∧ p = (a, v)
  | [], h => by simp [dput] at h; exact .inr (.inl h)
  | (a, w) :: r, h => by
    simp only [dput] at h
    split at h
    · rename_i e
      rcases List.mem_cons.mp h with h | h
      · exact .inr (.inr ⟨a, w, List.mem_cons_self, e, h⟩)
      · exact .inl (List.mem_cons_of_mem _ h)
    · rcases List.mem_cons.mp h with h | h
      · exact .inl (h ▸ List.mem_cons_self)
      · rcases dput_mem h with h | h | ⟨b, u, h1, h2, h3⟩
        · exact .inl (List.mem_cons_of_mem _ h)
        · exact .inr (.inl h)
        · exact .inr (.inr ⟨b, u, List.mem_cons_of_mem _ h1, h2, h3⟩)
theorem dput_len (k v : D) : ∀ l : List (D × D), (dput k v l).length ≤ l.length + 1
  | [] => by simp [dput]
  | (a, w) :: r => by
    simp only [dput]
    split
    · simp
    · simp; exact dput_len k v r
theorem deq_tx {t u : Tr} (h : deq (.str t.tx) (.str u.tx) = true) : t = u := by
  simp only [deq, beq_iff_eq] at h
  exact tx_inj h
theorem KInv.look {kvs : List (D × D)} (K : KInv kvs) {t : Tr} {v : D} (h : dlook (.str t.tx) kvs = some v) : v = t.o := by
  obtain ⟨a, h1, h2⟩ := dlook_mem h
  obtain ⟨u, e⟩ := K _ h1
  cases e
  rw [deq_tx h2]
theorem KInv.put {kvs : List (D × D)} (K : KInv kvs) (t : Tr) : KInv (dput (.str t.tx) t.o kvs) := by
  intro p hp
  rcases dput_mem hp with h | h | ⟨a, w, h1, h2, h3⟩
  · exact K p h
  · exact ⟨t, h⟩
  · obtain ⟨u, e⟩ := K _ h1
    cases e
    exact ⟨t, by rw [h3, deq_tx h2]⟩
theorem obj_step {T : Tab} (K : KObj T) (t : Tr) (m : Nat) (hm : t.dep ≤ m) (hs : t.size ≤ 1000) {d : Nat} {h : Hs} {kvs : List (D × D)} (hd : h[d]? = some (.dic false kvs)) (KI : KInv kvs) (hl : kvs.length ≤ 100000)
    (ot : ∃ kvs', KInv kvs' ∧ kvs'.length + 1 ≤ kvs.length + t.size ∧ call T m "_law_of_tree" [t.d, .ref d] h = .ok t.o (h.set d (.dic false kvs'))) :
    ∃ kvs', KInv kvs' ∧ kvs'.length ≤ kvs.length + t.size ∧ call T (m + 1) "_law_object" [t.d, .ref d] h = .ok t.o (h.set d (.dic false kvs')) := by
  have tx := text_ok K.text t m h hm hs
  have ni : Cop.run .notin (.str t.tx) (.ref d) h = .ok (.bl (!(dlook (.str t.tx) kvs).isSome)) h := by
    simp only [Cop.run, isIn, hd, kOk, if_true, opt_some]
  cases q : dlook (.str t.tx) kvs with
  | some v =>
    have ev := KI.look q
    subst ev
    refine ⟨kvs, KI, by omega, ?_⟩
    rw [set_same hd, call_eq K.obj rfl]
    have g : getI (.ref d) (.str t.tx) h = .ok t.o h := by simp only [getI, hd, kOk, if_true, q, opt_some, id_D]
    rw [q] at ni
    simp [f__law_object_v2, start, List.replicate_succ, isN, tx, ni, g]
  | none =>
    obtain ⟨kvs', KI', hl', e⟩ := ot
    rw [q] at ni
    refine ⟨dput (.str t.tx) t.o kvs', KI'.put t, by have := dput_len (.str t.tx) t.o kvs'; omega, ?_⟩
    have hd' : (h.set d (.dic false kvs'))[d]? = some (.dic false kvs') := at_set hd
    have si : setI (.ref d) (.str t.tx) t.o (h.set d (.dic false kvs')) = some (h.set d (.dic false (dput (.str t.tx) t.o kvs'))) := by
      have l : kvs'.length < SZ := by unfold SZ; omega
      simp only [setI, hd', kOk, true_and, l, if_true, List.set_set]
    have hd2 : (h.set d (.dic false (dput (.str t.tx) t.o kvs')))[d]? = some (.dic false (dput (.str t.tx) t.o kvs')) := at_set hd
    have g : getI (.ref d) (.str t.tx) (h.set d (.dic false (dput (.str t.tx) t.o kvs'))) = .ok t.o (h.set d (.dic false (dput (.str t.tx) t.o kvs'))) := by
      simp only [getI, hd2, kOk, if_true, dlook_dput (k := .str t.tx) (by simp [deq]), opt_some, id_D]
    rw [call_eq K.obj rfl]
    simp [f__law_object_v2, start, List.replicate_succ, isN, tx, ni, e, setIR_some _ _ si, g]
theorem obj_dic {T : Tab} (K : KObj T) {d : Nat} : ∀ (t : Tr) (m : Nat) (h : Hs) (kvs : List (D × D)), 2 * t.dep ≤ m → t.size ≤ 1000 → h[d]? = some (.dic false kvs) → KInv kvs → kvs.length + t.size ≤ 100000 →
    ∃ kvs', KInv kvs' ∧ kvs'.length + 1 ≤ kvs.length + t.size ∧ call T m "_law_of_tree" [t.d, .ref d] h = .ok t.o (h.set d (.dic false kvs'))
  | t, 0, h, kvs, hm, _, _, _, _ => by have := t.dep_pos; omega
  | .nev, m + 1, h, kvs, hm, hs, hd, KI, hl => by
    refine ⟨kvs, KI, by simp [Tr.size], ?_⟩
    rw [set_same hd, call_eq K.ot rfl]
    simp [f__law_of_tree, start, List.replicate_succ, Tr.d, Tr.c, Tr.f]
  | .alw, m + 1, h, kvs, hm, hs, hd, KI, hl => by
    refine ⟨kvs, KI, by simp [Tr.size], ?_⟩
    rw [set_same hd, call_eq K.ot rfl]
    simp [f__law_of_tree, start, List.replicate_succ, Tr.d, Tr.c, Tr.f]
  | .lt q, m + 1, h, kvs, hm, hs, hd, KI, hl => by
    refine ⟨kvs, KI, by simp [Tr.size], ?_⟩
    rw [set_same hd, call_eq K.ot rfl]
    cases q <;> simp [f__law_of_tree, start, List.replicate_succ, Tr.d, Tr.c, Tr.f, Tr.ls, in2_S]
  | .nt t, m + 1, h, kvs, hm, hs, hd, KI, hl => by
    simp only [Tr.dep] at hm
    simp only [Tr.size] at hs hl
    have mm : 1 < m := by have := t.dep_pos; omega
    obtain ⟨m', rfl⟩ : ∃ m', m = m' + 1 := ⟨m - 1, by omega⟩
    have ih := obj_dic K t m' h kvs (by omega) (by omega) hd KI (by omega)
    obtain ⟨k2, KI2, l2, o1⟩ := obj_step K t m' (by have := t.dep_size; omega) (by omega) hd KI (by omega) ih
    refine ⟨k2, KI2, by simp only [Tr.size]; omega, ?_⟩
    rw [call_eq K.ot rfl]
    simp [f__law_of_tree, start, List.replicate_succ, Tr.d, Tr.c, Tr.f, in2_S, o1]
  | .fd w a b, m + 1, h, kvs, hm, hs, hd, KI, hl => by
    simp only [Tr.dep] at hm
    simp only [Tr.size] at hs hl
    have mm : 1 < m := by have := a.dep_pos; omega
    obtain ⟨m', rfl⟩ : ∃ m', m = m' + 1 := ⟨m - 1, by omega⟩
    have i1 := obj_dic K a m' h kvs (by omega) (by omega) hd KI (by omega)
    obtain ⟨k2, KI2, l2, o1⟩ := obj_step K a m' (by omega) (by omega) hd KI (by omega) i1
    have hd2 : (h.set d (.dic false k2))[d]? = some (.dic false k2) := at_set hd
    have i2 := obj_dic K b m' (h.set d (.dic false k2)) k2 (by omega) (by omega) hd2 KI2 (by omega)
    obtain ⟨k3, KI3, l3, o2⟩ := obj_step K b m' (by omega) (by omega) hd2 KI2 (by omega) i2
    rw [List.set_set] at o2
    refine ⟨k3, KI3, by simp only [Tr.size]; omega, ?_⟩
    rw [call_eq K.ot rfl]
    cases w <;> simp [f__law_of_tree, start, List.replicate_succ, Tr.d, Tr.c, Tr.f, Wo.s, Wo.c, in2_S, o1, o2]
/-! ### points -/
def PtOk (n x y : Int) : Prop := 1 ≤ n ∧ (0 ≤ x ∧ x ≤ n) ∧ (0 ≤ y ∧ y ≤ n)
theorem point_ok {T : Tab} (hT : T.fn "_law_point" = some f__law_point) (k : Nat) (h : Hs) {c o : Int} (bc : Bd 1048577 c) (bo : Bd 1048577 o) :
    ∃ n x y, PtOk n x y ∧ Bd 70 n ∧ call T (k + 1) "_law_point" [.int c, .int o] h = .ok (.tup [.int n, .int x, .int y]) h := by
  have d7 : divB 7 := by decide
  have d12 : divB 12 := by decide
  have m1 := bc.mulB (by decide)
  have m2 := bo.mulB (by decide)
  have m3 := (bo.fdiv (show (0 : Int) < 7 by decide)).mulB (by decide)
  have m4 := (bc.add (show Bd 1 1 from Bd.of (by decide))).mulB (by decide)
  have go : ∀ n : Int, 1 ≤ n → Bd 70 n → (n = if (c.fdiv 12).fmod 3 = 1 then 1 + (c * o).fmod (10 ^ 20) else 1 + c.fmod 12) → ∃ n x y, PtOk n x y ∧ Bd 70 n ∧ call T (k + 1) "_law_point" [.int c, .int o] h = .ok (.tup [.int n, .int x, .int y]) h := by
    intro n n1 bn en
    have x1 := Int.fmod_nonneg_of_pos o (show (0 : Int) < n + 1 by omega)
    have x2 := Int.fmod_lt_of_pos o (show (0 : Int) < n + 1 by omega)
    have y1 := Int.fmod_nonneg_of_pos (o.fdiv 7 * (c + 1)) (show (0 : Int) < n + 1 by omega)
    have y2 := Int.fmod_lt_of_pos (o.fdiv 7 * (c + 1)) (show (0 : Int) < n + 1 by omega)
    refine ⟨n, o.fmod (n + 1), (o.fdiv 7 * (c + 1)).fmod (n + 1), ⟨n1, ⟨x1, by omega⟩, y1, by omega⟩, bn, ?_⟩
    have nz : n + 1 ≠ 0 := by omega
    have nz2 : (10 ^ 20 : Int) ≠ 0 := by decide
    generalize hN : (10 ^ 20 : Int) = N at *
    rw [call_eq hT rfl]
    by_cases e : (c.fdiv 12).fmod 3 = 1
    · rw [if_pos e] at en
      simp [f__law_point, start, List.replicate_succ, run_mod, run_fdiv, run_pow, run_mul, d7, d12, m1, m2, m3, m4, e, hN, nz2, ← en, nz]
    · rw [if_neg e] at en
      simp [f__law_point, start, List.replicate_succ, run_mod, run_fdiv, run_pow, run_mul, d7, d12, m1, m2, m3, m4, e, hN, nz2, ← en, nz]
  by_cases e : (c.fdiv 12).fmod 3 = 1
  · have q1 := Int.fmod_nonneg_of_pos (c * o) (show (0 : Int) < 10 ^ 20 by decide)
    have b : Bd 70 (1 + (c * o).fmod (10 ^ 20)) := ((show Bd 1 1 from Bd.of (by decide)).add (Bd.fmod _ (show Bd 67 (10 ^ 20) from Bd.of (by decide)) (by decide))).mono (by decide)
    exact go _ (by omega) b (by rw [if_pos e])
  · have q1 := Int.fmod_nonneg_of_pos c (show (0 : Int) < 12 by decide)
    have q2 := Int.fmod_lt_of_pos c (show (0 : Int) < 12 by decide)
    exact go (1 + c.fmod 12) (by omega) (Bd.of (by omega)) (by rw [if_neg e])
theorem ispoint_ok {T : Tab} (hT : T.fn "points.is_point" = some f_points_is_point) (k : Nat) (h : Hs) {n x y : Int} (p : PtOk n x y) : call T (k + 1) "points.is_point" [.tup [.int n, .int x, .int y]] h = .ok (.bl true) h := by
  obtain ⟨p1, ⟨p2, p3⟩, p4, p5⟩ := p
  rw [call_eq hT rfl]
  simp [f_points_is_point, start, List.replicate_succ, isTys, isTy, forE_cons, forE_nil', setTR_tup, p1, p2, p3, p4, p5]
theorem pworth_ok {T : Tab} (hT : T.fn "points.worth" = some f_points_worth) (hP : T.fn "points.is_point" = some f_points_is_point) (K : KOut T) {n x y : Int} (p : PtOk n x y) (t : Tr) (m : Nat) (hm : 2 * t.dep ≤ m) (h : Hs) :
    call T (m + 1) "points.worth" [t.o, .tup [.int n, .int x, .int y]] h = .ok (.int (t.wo n x y)) h := by
  have mm : 0 < m := by have := t.dep_pos; omega
  obtain ⟨m', rfl⟩ : ∃ m', m = m' + 1 := ⟨m - 1, by omega⟩
  have ip := ispoint_ok hP m' h p
  have ou := out_ok K n x y t (m' + 1) h hm
  rw [call_eq hT rfl]
  simp [f_points_worth, start, ip, K.mo t, ou]
end Q

/-! the law k05 -/
namespace Q
theorem whole_i {T : Tab} (hT : T.fn "_law_whole" = some f__law_whole) (k : Nat) (h : Hs) (i : Int) : call T (k+1) "_law_whole" [.int i] h = .ok (.bl true) h := by
  rw [call_eq hT rfl]
  simp [f__law_whole, start, isTys, isTy]
def dropB : Nat → Bl → Bl
  | 0, b => b
  | n + 1, .cons _ r => dropB n r
  | _ + 1, .nil => .nil
structure K05 (T : Tab) : Prop where
  out : KOut T
  obj : KObj T
  isp : T.fn "points.is_point" = some f_points_is_point
  worth : T.fn "points.worth" = some f_points_worth
  mixed : T.fn "_law_mixed" = some f__law_mixed
  next : T.fn "_law_next" = some f__law_next
  saying : T.fn "_law_saying" = some f__law_saying
  fold : T.fn "_law_fold" = some f__law_fold
  lworth : T.fn "_law_worth" = some f__law_worth
  whole : T.fn "_law_whole" = some f__law_whole
  point : T.fn "_law_point" = some f__law_point
  law : T.fn "law" = some f_law_v5
theorem k05_tail {T : Tab} (K : K05 T) (k : Nat) {n x y b : Int} (p : PtOk n x y) (bn : Bd 70 n) (b0 : 1 ≤ b) (b1 : b ≤ 1000) (t : Tr) (ht : 2 * (t.dep + 1) ≤ k) (h : Hs) (s0 s1 : Option D) :
    ∃ h', exB ⟨T, call T (k + 1)⟩ (dropB 5 f_law_v5.body) [s0, s1, some (.int n), some (.int x), some (.int y), some (.int b), some t.d, some t.o, none, none, none] h = .rt (.bl true) h' := by
  obtain ⟨G, e1⟩ := lworth_ok K.lworth K.fold (x := x) (y := y) (bn.mulB (by decide)) t (k + 1) h (by omega)
  have pw := fun h => pworth_ok K.worth K.isp K.out p t k (by omega) h
  have pw2 := fun h => pworth_ok K.worth K.isp K.out p (.nt t) k (by simp only [Tr.dep]; omega) h
  have p2 : PtOk (b * n) (b * x) (b * y) := by
    obtain ⟨q1, ⟨q2, q3⟩, q4, q5⟩ := p
    have c1 : b * 1 ≤ b * n := Int.mul_le_mul_of_nonneg_left q1 (by omega)
    exact ⟨by omega, ⟨Int.mul_nonneg (by omega) q2, Int.mul_le_mul_of_nonneg_left q3 (by omega)⟩, Int.mul_nonneg (by omega) q4, Int.mul_le_mul_of_nonneg_left q5 (by omega)⟩
  have pw3 := fun h => pworth_ok K.worth K.isp K.out p2 t k (by omega) h
  have sc := Tr.scale (c := b) (by omega) n x y t
  have ou := fun h => out_ok K.out n x y t (k + 1) h (by omega)
  have ip := fun h => ispoint_ok K.isp k h p
  have w := fun h i => whole_i K.whole k h i
  have wn : (Tr.nt t).wo n x y = n - t.wo n x y := rfl
  have en : D.obj .Not [t.o] = (Tr.nt t).o := rfl
  obtain ⟨r1, r2⟩ := Tr.range p.2.1 p.2.2 t
  have bw : Bd 70 (t.wo n x y) := bn.le (by have := p.1; omega)
  have m1 := bw.mulB (by decide)
  have m2 := bn.mulB (by decide)
  have m3 : mulB x := (bn.le (j := x) (by have := p.2.1; have := p.1; omega)).mulB (by decide)
  have m4 : mulB y := (bn.le (j := y) (by have := p.2.2; have := p.1; omega)).mulB (by decide)
  have m5 : mulB b := (show Bd 10 b from Bd.of (by omega)).mulB (by decide)
  have s2 : small 2 := by decide
  have r22 : rangeL 0 (Int.toNat 2) = [.int 0, .int 1] := rfl
  have w2 : ∀ h, rng1 (.int 2) h = .ok ⟨[.int 0, .int 1], fun _ => True⟩ h := fun h => by rw [rng1_ok s2, r22]
  generalize h ++ G = h2 at *
  simp [f_law_v5, dropB, e1, w2, forE_cons, forE_nil', pw, w, K.out.mo t, ou, en, pw2, wn, ip, isBl, run_mul, m1, m2, m3, m4, m5, pw3, sc]
theorem k05_law {T : Tab} (K : K05 T) (ns : List Int) (S : Scr ns) : ∃ h', call T 101 "law" [.ref 0] [.frz (ns.map .int)] = .ok (.bl true) h' := by
  have h0 : ([.frz (ns.map .int)] : Hs)[0]? = some (.frz (ns.map .int)) := rfl
  obtain ⟨cs, o, C, lc, e1⟩ := mixed_ok K.mixed h0 S 99 40 (by decide) (by decide)
  simp only [List.length_cons, List.length_nil, List.cons_append, List.nil_append] at e1
  have n1 : ([.frz (ns.map .int), o, .lst (cs.map .int)] : Hs)[2]? = some (.lst (cs.map .int)) := rfl
  obtain ⟨a, c1, ba, C1, _, e2⟩ := next_ok K.next 99 n1 C
  have n2 : ([.frz (ns.map .int), o, .lst (c1.map .int)] : Hs)[2]? = some (.lst (c1.map .int)) := rfl
  obtain ⟨b, c2, bb, C2, _, e3⟩ := next_ok K.next 99 n2 C1
  have n3 : ([.frz (ns.map .int), o, .lst (c2.map .int)] : Hs)[2]? = some (.lst (c2.map .int)) := rfl
  obtain ⟨n, x, y, p, bn, e4⟩ := point_ok K.point 99 [.frz (ns.map .int), o, .lst (c2.map .int)] ba.2 bb.2
  obtain ⟨c, c3, bc, C3, _, e5⟩ := next_ok K.next 99 n3 C2
  have n4 : ([.frz (ns.map .int), o, .lst (c3.map .int)] : Hs)[2]? = some (.lst (c3.map .int)) := rfl
  obtain ⟨d, c4, bd, C4, _, e6⟩ := next_ok K.next 99 n4 C3
  have n5 : ([.frz (ns.map .int), o, .lst (c4.map .int)] : Hs)[2]? = some (.lst (c4.map .int)) := rfl
  have q1 := Int.fmod_nonneg_of_pos d (show (0 : Int) < 24 by decide)
  have q2 := Int.fmod_lt_of_pos d (show (0 : Int) < 24 by decide)
  have w1 := Int.fmod_nonneg_of_pos c (show (0 : Int) < 1000 by decide)
  have w2 := Int.fmod_lt_of_pos c (show (0 : Int) < 1000 by decide)
  obtain ⟨t, c5, st, C5, _, e7⟩ := saying_ok K.saying K.next true 69 30 (1 + d.fmod 24) (by omega) (by omega) n5 C4
  have ds := t.dep_size
  generalize hb : 1 + c.fmod 1000 = by_ at *
  obtain ⟨i, i1, i2⟩ := fmod_ofNat_range by_ 2 (by decide)
  have tl := fun h => k05_tail K 99 p bn (b := by_) (by omega) (by omega) t (by omega) h (some (.ref 0)) (some (.ref 2))
  simp only [f_law_v5, dropB] at tl
  simp only [List.set_cons_zero, List.set_cons_succ] at e2 e3 e4 e5 e6 e7
  rw [call_eq K.law rfl]
  have hi : i = 0 ∨ i = 1 := by omega
  rcases hi with rfl | rfl
  · have on : call T 100 "_law_object" [t.d, .non] [.frz (ns.map .int), o, .lst (c5.map .int), .dic false [], .lst [.non, .ref 3]] = .ok t.o [.frz (ns.map .int), o, .lst (c5.map .int), .dic false [], .lst [.non, .ref 3]] := by
      have := obj_none K.obj t 99 [.frz (ns.map .int), o, .lst (c5.map .int), .dic false [], .lst [.non, .ref 3]] (by omega)
      rw [call_eq K.obj.obj rfl]
      simp [f__law_object_v2, start, isN, this]
    obtain ⟨h', eh⟩ := tl [.frz (ns.map .int), o, .lst (c5.map .int), .dic false [], .lst [.non, .ref 3]]
    have g : getI (.ref 4) (.int 0) [.frz (ns.map .int), o, .lst (c5.map .int), .dic false [], .lst [.non, .ref 3]] = .ok .non [.frz (ns.map .int), o, .lst (c5.map .int), .dic false [], .lst [.non, .ref 3]] := by
      rw [getI_lst (xs := [.non, .ref 3]) rfl]; rfl
    refine ⟨h', ?_⟩
    simp at i1
    simp [f_law_v5, start, List.replicate_succ, e1, e2, e3, e4, setTR_tup, e5, run_mod, hb, e6, e7, i1, g, on, eh]
  · obtain ⟨kvs, KI, lk, eo⟩ := obj_dic K.obj (d := 3) t 99 [.frz (ns.map .int), o, .lst (c5.map .int), .dic false [], .lst [.non, .ref 3]] [] (by omega) (by omega) rfl (fun p hp => by cases hp) (by simp; omega)
    obtain ⟨kv2, KI2, lk2, e8⟩ := obj_step K.obj t 99 (by omega) (by omega) (d := 3) (h := [.frz (ns.map .int), o, .lst (c5.map .int), .dic false [], .lst [.non, .ref 3]]) rfl (fun p hp => by cases hp) (by simp) ⟨kvs, KI, lk, eo⟩
    obtain ⟨h', eh⟩ := tl [.frz (ns.map .int), o, .lst (c5.map .int), .dic false kv2, .lst [.non, .ref 3]]
    have g : getI (.ref 4) (.int 1) [.frz (ns.map .int), o, .lst (c5.map .int), .dic false [], .lst [.non, .ref 3]] = .ok (.ref 3) [.frz (ns.map .int), o, .lst (c5.map .int), .dic false [], .lst [.non, .ref 3]] := by
      rw [getI_lst (xs := [.non, .ref 3]) rfl]; rfl
    refine ⟨h', ?_⟩
    simp at i1
    simp only [List.set_cons_zero, List.set_cons_succ] at e8
    simp [f_law_v5, start, List.replicate_succ, e1, e2, e3, e4, setTR_tup, e5, run_mod, hb, e6, e7, i1, g, e8, eh]
end Q

/-! the law k04 -/
namespace Q
structure K04 (T : Tab) : Prop where
  out : KOut T
  obj : KObj T
  told : KTold T
  mixed : T.fn "_law_mixed" = some f__law_mixed
  next : T.fn "_law_next" = some f__law_next
  saying : T.fn "_law_saying" = some f__law_saying
  fold : T.fn "_law_fold" = some f__law_fold
  lworth : T.fn "_law_worth" = some f__law_worth
  whole : T.fn "_law_whole" = some f__law_whole
  point : T.fn "_law_point" = some f__law_point
  pin : T.fn "sayings.put_in" = some f_sayings_put_in
  put : T.fn "_law_put" = some f__law_put
  law : T.fn "law" = some f_law_v4
theorem k04_tail {T : Tab} (K : K04 T) {n x y : Int} (bn : Bd 70 n) (a b c : Tr) (sa : a.size ≤ 12) (sb : b.size ≤ 8) (sc : c.size ≤ 8) {H : Hs} {i j : Nat} (hi : H[i]? = some (.lst [a.d, b.d, c.d])) (hj : H[j]? = some (.lst [a.o, b.o, c.o])) (s0 s1 s6 : Option D) :
    ∃ h', exB ⟨T, call T 220⟩ (dropB 5 f_law_v4.body) [s0, s1, some (.int n), some (.int x), some (.int y), some (.ref i), s6, some (.ref j), none, none, none, none, none, none, none] H = .rt (.bl true) h' := by
  have da := a.dep_size
  have db := b.dep_size
  have dc := c.dep_size
  have dp := (a.put b c).dep_size
  have sp := Tr.put_size (u := b) (v := c) (m := 8) (by decide) sb sc a
  have p1 := put_in_ok K.pin b c a 220 H (by omega)
  obtain ⟨G, p2⟩ := lputs_ok K.put b c a 220 H (by omega)
  have gi := fun i => getI_lst hi i
  have gj := fun i => getI_lst hj i
  generalize ho : (a.put b c) = r at *
  have hi2 := (Gr.app H G).at hi
  have hj2 := (Gr.app H G).at hj
  have t1 := told_t K.told r 220 (H ++ G) (by omega) (by omega)
  have t2 := text_ok K.obj.text r 220 (H ++ G) (by omega) (by omega)
  generalize hH2 : H ++ G = H2 at *
  have tt := fun (t : Tr) (h : Hs) (ht : t.size ≤ 12) => told_t K.told t 220 h (by have := t.dep_size; omega) (by omega)
  have tx := fun (t : Tr) (h : Hs) (ht : t.size ≤ 12) => text_ok K.obj.text t 220 h (by have := t.dep_size; omega) (by omega)
  have hi3 := (Gr.app H2 [O.lst [.str a.tx, .str b.tx, .str c.tx]]).at hi2
  have q1 : kComp ⟨T, call T 220⟩ [s0, s1, some (.int n), some (.int x), some (.int y), some (.ref i), s6, some (.ref j), some r.o, some r.d, none, none, none, none, none] (.mth (.v 14) "told" .nil) (.one 14) .none [14] (.ok ⟨[a.o, b.o, c.o], fun h => h[j]? = some (.lst [a.o, b.o, c.o])⟩ H2) = .ok (.ref H2.length) (H2 ++ [.lst [.str a.tx, .str b.tx, .str c.tx]]) := by
    refine kComp_of (cm_cons hj2 rfl ?_ (cm_cons hj2 rfl ?_ (cm_cons hj2 rfl ?_ (cm_nil hj2)))) (by simp [SZ])
    · simp [wipe, K.told.mo, tt a H2 (by omega)]
    · simp [wipe, K.told.mo, tt b H2 (by omega)]
    · simp [wipe, K.told.mo, tt c H2 (by omega)]
  generalize hH3 : H2 ++ [O.lst [.str a.tx, .str b.tx, .str c.tx]] = H3 at *
  have q2 : kComp ⟨T, call T 220⟩ [s0, s1, some (.int n), some (.int x), some (.int y), some (.ref i), s6, some (.ref j), some r.o, some r.d, none, none, none, none, none] (.call "_law_text" (.cons (.v 13) .nil)) (.one 13) .none [13] (.ok ⟨[a.d, b.d, c.d], fun h => h[i]? = some (.lst [a.d, b.d, c.d])⟩ H3) = .ok (.ref H3.length) (H3 ++ [.lst [.str a.tx, .str b.tx, .str c.tx]]) := by
    refine kComp_of (cm_cons hi3 rfl ?_ (cm_cons hi3 rfl ?_ (cm_cons hi3 rfl ?_ (cm_nil hi3)))) (by simp [SZ])
    · simp [wipe, tx a H3 (by omega)]
    · simp [wipe, tx b H3 (by omega)]
    · simp [wipe, tx c H3 (by omega)]
  have r3 : H3[H2.length]? = some (.lst [.str a.tx, .str b.tx, .str c.tx]) := by rw [← hH3]; simp
  have r4 : (H3 ++ [O.lst [.str a.tx, .str b.tx, .str c.tx]])[H3.length]? = some (.lst [.str a.tx, .str b.tx, .str c.tx]) := by simp
  have eq := eqv_lst ((Gr.app H3 [O.lst [.str a.tx, .str b.tx, .str c.tx]]).at r3) r4 (by simp [flats, flat]) (by simp [ddeps, ddep])
  have ne : Cop.run .ne (.ref H2.length) (.ref H3.length) (H3 ++ [O.lst [.str a.tx, .str b.tx, .str c.tx]]) = .ok (.bl false) (H3 ++ [O.lst [.str a.tx, .str b.tx, .str c.tx]]) := by
    simp only [Cop.run, eq, opt]; rfl
  have w1 : walkSq H2 (.ref j) = some ⟨[a.o, b.o, c.o], fun h => h[j]? = some (.lst [a.o, b.o, c.o])⟩ := walkSq_lst hj2
  have w2 : walkSq H3 (.ref i) = some ⟨[a.d, b.d, c.d], fun h => h[i]? = some (.lst [a.d, b.d, c.d])⟩ := walkSq_lst hi3
  have hi4 := (Gr.app H3 [O.lst [.str a.tx, .str b.tx, .str c.tx]]).at hi3
  generalize H3 ++ [O.lst [.str a.tx, .str b.tx, .str c.tx]] = H4 at *
  have ou := out_ok K.out n x y r 220 H4 (by omega)
  have wr : r.wo n x y = a.wo n (b.wo n x y) (c.wo n x y) := by rw [← ho]; exact Tr.put_wo n x y b c a
  -- worths of the inner ones
  have sl := slice_lst hi4 (some 1) none
  have c1 : cut [a.d, b.d, c.d] (some 1) none = [b.d, c.d] := cut1 _ _
  rw [c1] at sl
  have h5 : (H4 ++ [O.lst [b.d, c.d]])[H4.length]? = some (.lst [b.d, c.d]) := by simp
  have hi5 := (Gr.app H4 [O.lst [b.d, c.d]]).at hi4
  generalize hH5 : H4 ++ [O.lst [b.d, c.d]] = H5 at *
  have ws : walkSq H5 (.ref H4.length) = some ⟨[b.d, c.d], fun h => h[H4.length]? = some (.lst [b.d, c.d])⟩ := walkSq_lst h5
  obtain ⟨G1, l1⟩ := lworth_ok K.lworth K.fold (x := x) (y := y) (bn.mulB (by decide)) b 220 H5 (by omega)
  have h6 := (Gr.app H5 G1).at h5
  have hi6 := (Gr.app H5 G1).at hi5
  generalize hH6 : H5 ++ G1 = H6 at *
  obtain ⟨G2, l2⟩ := lworth_ok K.lworth K.fold (x := x) (y := y) (bn.mulB (by decide)) c 220 H6 (by omega)
  have h7 := (Gr.app H6 G2).at h6
  have hi7 := (Gr.app H6 G2).at hi6
  generalize hH7 : H6 ++ G2 = H7 at *
  have q3 : kComp ⟨T, call T 220⟩ [s0, s1, some (.int n), some (.int x), some (.int y), some (.ref i), s6, some (.ref j), some r.o, some r.d, some (.int (r.wo n x y)), none, none, none, none] (.call "_law_worth" (.cons (.v 13) (.cons (.v 2) (.cons (.v 3) (.cons (.v 4) .nil))))) (.one 13) .none [13] (.ok ⟨[b.d, c.d], fun h => h[H4.length]? = some (.lst [b.d, c.d])⟩ H5) = .ok (.ref H7.length) (H7 ++ [.lst [.int (b.wo n x y), .int (c.wo n x y)]]) := by
    refine kComp_of (cm_cons h5 rfl (h2 := H6) ?_ (cm_cons h6 rfl (h2 := H7) ?_ (cm_nil h7))) (by simp [SZ])
    · simp [wipe, l1]
    · simp [wipe, l2]
  have h8 : (H7 ++ [O.lst [.int (b.wo n x y), .int (c.wo n x y)]])[H7.length]? = some (.lst [.int (b.wo n x y), .int (c.wo n x y)]) := by simp
  have hi8 := (Gr.app H7 [O.lst [.int (b.wo n x y), .int (c.wo n x y)]]).at hi7
  generalize H7 ++ [O.lst [.int (b.wo n x y), .int (c.wo n x y)]] = H8 at *
  obtain ⟨G3, l3⟩ := lworth_ok K.lworth K.fold (x := b.wo n x y) (y := c.wo n x y) (bn.mulB (by decide)) a 220 H8 (by omega)
  have g8 := fun i => getI_lst h8 i
  have gi8 := fun i => getI_lst hi8 i
  have wh := fun h i => whole_i K.whole 219 h i
  refine ⟨H8 ++ G3, ?_⟩
  have rk := K.told.mo r
  have rk2 := K.out.mo r
  rw [wr] at ou q3
  have ero : r.o = .obj r.c r.f := rfl
  rw [ero] at *
  generalize a.o = ao at *
  generalize b.o = bo at *
  generalize c.o = co at *
  generalize a.d = ad at *
  generalize b.d = bd at *
  generalize c.d = cd at *
  generalize r.d = rd at *
  simp [f_law_v4, dropB, gi, gj, p1, p2, rk, t1, t2, w1, q1, w2, q2, ne, rk2, ou, sl, ws, q3, wh, g8, gi8, l3]
/-- one of the three sayings -/
theorem say_turn {T : Tab} (K : K04 T) {F o : O} {cs : List Int} (C : Cells cs) {m : Int} (m0 : 1 ≤ m) (m1 : m ≤ 12) (s0 s2 s3 s4 s5 s6 s7 s8 s9 s10 s11 s13 s14 : Option D) :
    ∃ (t : Tr) (cs' : List Int), (t.size : Int) ≤ m ∧ Cells cs' ∧ evE ⟨T, call T 220⟩ (.call "_law_saying" (.cons (.v 1) (.cons (.bin .add (.k (.int 1)) (.bin .mod (.call "_law_next" (.cons (.v 1) .nil)) (.v 12))) (.cons (.k (.bl true)) .nil)))) [s0, some (.ref 2), s2, s3, s4, s5, s6, s7, s8, s9, s10, s11, some (.int m), s13, s14] [F, o, .lst (cs.map .int)] = .ok t.d [F, o, .lst (cs'.map .int)] := by
  have n1 : ([F, o, .lst (cs.map .int)] : Hs)[2]? = some (.lst (cs.map .int)) := rfl
  obtain ⟨d, c4, bd, C4, _, e6⟩ := next_ok K.next 219 n1 C
  have n5 : ([F, o, .lst (c4.map .int)] : Hs)[2]? = some (.lst (c4.map .int)) := rfl
  have q1 := Int.fmod_nonneg_of_pos d (show (0 : Int) < m by omega)
  have q2 := Int.fmod_lt_of_pos d (show (0 : Int) < m by omega)
  obtain ⟨t, c5, st, C5, _, e7⟩ := saying_ok K.saying K.next true 199 20 (1 + d.fmod m) (by omega) (by omega) n5 C4
  simp only [List.set_cons_zero, List.set_cons_succ] at e6 e7
  refine ⟨t, c5, by omega, C5, ?_⟩
  have mz : m ≠ 0 := by omega
  simp [e6, run_mod, mz, e7]
theorem k04_law {T : Tab} (K : K04 T) (ns : List Int) (S : Scr ns) : ∃ h', call T 221 "law" [.ref 0] [.frz (ns.map .int)] = .ok (.bl true) h' := by
  have h0 : ([.frz (ns.map .int)] : Hs)[0]? = some (.frz (ns.map .int)) := rfl
  obtain ⟨cs, o, C, lc, e1⟩ := mixed_ok K.mixed h0 S 219 50 (by decide) (by decide)
  simp only [List.length_cons, List.length_nil, List.cons_append, List.nil_append] at e1
  generalize O.frz (ns.map .int) = F at *
  have n1 : ([F, o, .lst (cs.map .int)] : Hs)[2]? = some (.lst (cs.map .int)) := rfl
  obtain ⟨p, c1, ba, C1, _, e2⟩ := next_ok K.next 219 n1 C
  have n2 : ([F, o, .lst (c1.map .int)] : Hs)[2]? = some (.lst (c1.map .int)) := rfl
  obtain ⟨q, c2, bb, C2, _, e3⟩ := next_ok K.next 219 n2 C1
  simp only [List.set_cons_zero, List.set_cons_succ] at e2 e3
  obtain ⟨n, x, y, pt, bn, e4⟩ := point_ok K.point 219 [F, o, .lst (c2.map .int)] ba.2 bb.2
  obtain ⟨a, c3, sa, C3, e5⟩ := say_turn K (F := F) (o := o) C2 (m := 12) (by decide) (by decide) (some (.ref 0)) (some (.int n)) (some (.int x)) (some (.int y)) none none none none none none none none none
  obtain ⟨b, c4, sb, C4, e6⟩ := say_turn K (F := F) (o := o) C3 (m := 8) (by decide) (by decide) (some (.ref 0)) (some (.int n)) (some (.int x)) (some (.int y)) none none none none none none none none none
  obtain ⟨c, c5, sc, C5, e7⟩ := say_turn K (F := F) (o := o) C4 (m := 8) (by decide) (by decide) (some (.ref 0)) (some (.int n)) (some (.int x)) (some (.int y)) none none none none none none none none none
  have q1 : kComp ⟨T, call T 220⟩ [some (.ref 0), some (.ref 2), some (.int n), some (.int x), some (.int y), none, none, none, none, none, none, none, none, none, none] (.call "_law_saying" (.cons (.v 1) (.cons (.bin .add (.k (.int 1)) (.bin .mod (.call "_law_next" (.cons (.v 1) .nil)) (.v 12))) (.cons (.k (.bl true)) .nil)))) (.one 12) .none [12] (.ok ⟨[.int 12, .int 8, .int 8], fun _ => True⟩ [F, o, .lst (c2.map .int)]) = .ok (.ref 3) [F, o, .lst (c5.map .int), .lst [a.d, b.d, c.d]] :=
    kComp_of (w := ⟨[.int 12, .int 8, .int 8], fun _ => True⟩) (cm_cons trivial rfl e5 (cm_cons trivial rfl e6 (cm_cons trivial rfl e7 (cm_nil trivial)))) (by simp [SZ])
  obtain ⟨i, i1, i2⟩ := fmod_ofNat_range n 2 (by decide)
  have hi : i = 0 ∨ i = 1 := by omega
  obtain ⟨X, z, gz, eo⟩ : ∃ (X : O) (z : D), getI (.ref 5) (.int (n.fmod 2)) [F, o, .lst (c5.map .int), .lst [a.d, b.d, c.d], .dic false [], .lst [.non, .ref 4]] = .ok z [F, o, .lst (c5.map .int), .lst [a.d, b.d, c.d], .dic false [], .lst [.non, .ref 4]] ∧
      kComp ⟨T, call T 220⟩ [some (.ref 0), some (.ref 2), some (.int n), some (.int x), some (.int y), some (.ref 3), some z, none, none, none, none, none, none, none, none] (.call "_law_object" (.cons (.v 13) (.cons (.v 6) .nil))) (.one 13) .none [13] (.ok ⟨[a.d, b.d, c.d], fun h => h[3]? = some (.lst [a.d, b.d, c.d])⟩ [F, o, .lst (c5.map .int), .lst [a.d, b.d, c.d], .dic false [], .lst [.non, .ref 4]]) = .ok (.ref 6) [F, o, .lst (c5.map .int), .lst [a.d, b.d, c.d], X, .lst [.non, .ref 4], .lst [a.o, b.o, c.o]] := by
    rcases hi with rfl | rfl
    · refine ⟨.dic false [], .non, by rw [i1, getI_lst (xs := [.non, .ref 4]) rfl]; rfl, ?_⟩
      have on : ∀ (t : Tr), t.size ≤ 12 → ∀ h, call T 220 "_law_object" [t.d, .non] h = .ok t.o h := fun t st h => by
        have := obj_none K.obj t 219 h (by have := t.dep_size; omega)
        rw [call_eq K.obj.obj rfl]
        simp [f__law_object_v2, start, isN, this]
      refine kComp3 (h := [F, o, .lst (c5.map .int), .lst [a.d, b.d, c.d], .dic false [], .lst [.non, .ref 4]]) (h1 := [F, o, .lst (c5.map .int), .lst [a.d, b.d, c.d], .dic false [], .lst [.non, .ref 4]]) (h2 := [F, o, .lst (c5.map .int), .lst [a.d, b.d, c.d], .dic false [], .lst [.non, .ref 4]]) (h3 := [F, o, .lst (c5.map .int), .lst [a.d, b.d, c.d], .dic false [], .lst [.non, .ref 4]]) (by rfl) (by rfl) (by rfl) (by rfl) rfl rfl rfl ?_ ?_ ?_
      · simp [wipe, on a (by omega)]
      · simp [wipe, on b (by omega)]
      · simp [wipe, on c (by omega)]
    · have on : ∀ (t : Tr), t.size ≤ 12 → ∀ kvs : List (D × D), KInv kvs → kvs.length ≤ 1000 → ∃ kv2, KInv kv2 ∧ kv2.length ≤ kvs.length + t.size ∧ call T 220 "_law_object" [t.d, .ref 4] [F, o, .lst (c5.map .int), .lst [a.d, b.d, c.d], .dic false kvs, .lst [.non, .ref 4]] = .ok t.o [F, o, .lst (c5.map .int), .lst [a.d, b.d, c.d], .dic false kv2, .lst [.non, .ref 4]] := fun t st kvs KI lk => by
        have dt := t.dep_size
        have ih := obj_dic K.obj (d := 4) t 219 [F, o, .lst (c5.map .int), .lst [a.d, b.d, c.d], .dic false kvs, .lst [.non, .ref 4]] kvs (by omega) (by omega) rfl KI (by omega)
        obtain ⟨kv2, KI2, lk2, e8⟩ := obj_step K.obj t 219 (by omega) (by omega) (d := 4) (h := [F, o, .lst (c5.map .int), .lst [a.d, b.d, c.d], .dic false kvs, .lst [.non, .ref 4]]) rfl KI (by omega) ih
        simp only [List.set_cons_zero, List.set_cons_succ] at e8
        exact ⟨kv2, KI2, lk2, e8⟩
      obtain ⟨k1, I1, l1, o1⟩ := on a (by omega) [] (fun p hp => by cases hp) (by simp)
      obtain ⟨k2, I2, l2, o2⟩ := on b (by omega) k1 I1 (by simp at l1; omega)
      obtain ⟨k3, I3, l3, o3⟩ := on c (by omega) k2 I2 (by simp at l1; omega)
      refine ⟨.dic false k3, .ref 4, by rw [i1, getI_lst (xs := [.non, .ref 4]) rfl]; rfl, ?_⟩
      refine kComp3 (h := [F, o, .lst (c5.map .int), .lst [a.d, b.d, c.d], .dic false [], .lst [.non, .ref 4]]) (h1 := [F, o, .lst (c5.map .int), .lst [a.d, b.d, c.d], .dic false k1, .lst [.non, .ref 4]]) (h2 := [F, o, .lst (c5.map .int), .lst [a.d, b.d, c.d], .dic false k2, .lst [.non, .ref 4]]) (h3 := [F, o, .lst (c5.map .int), .lst [a.d, b.d, c.d], .dic false k3, .lst [.non, .ref 4]]) (by rfl) (by rfl) (by rfl) (by rfl) rfl rfl rfl ?_ ?_ ?_
      · simp [wipe, o1]
      · simp [wipe, o2]
      · simp [wipe, o3]
  obtain ⟨h', tl⟩ := k04_tail K (x := x) (y := y) bn a b c (by omega) (by omega) (by omega) (H := [F, o, .lst (c5.map .int), .lst [a.d, b.d, c.d], X, .lst [.non, .ref 4], .lst [a.o, b.o, c.o]]) (i := 3) (j := 6) rfl rfl (some (.ref 0)) (some (.ref 2)) (some z)
  refine ⟨h', ?_⟩
  have eb : f_law_v4.body = .cons (nthB 0 f_law_v4.body) (.cons (nthB 1 f_law_v4.body) (.cons (nthB 2 f_law_v4.body) (.cons (nthB 3 f_law_v4.body) (.cons (nthB 4 f_law_v4.body) (dropB 5 f_law_v4.body))))) := rfl
  have w3 : ∀ X : Hs, walkSq ([F, o, .lst (c5.map .int), .lst [a.d, b.d, c.d]] ++ X) (.ref 3) = some ⟨[a.d, b.d, c.d], fun h => h[3]? = some (.lst [a.d, b.d, c.d])⟩ := fun X => walkSq_lst (by simp)
  have w4 := w3 [.dic false [], .lst [.non, .ref 4]]
  simp only [List.cons_append, List.nil_append] at w4
  rw [call_eq K.law rfl, eb]
  generalize dropB 5 f_law_v4.body = rest at *
  generalize a.d = ad at *
  generalize b.d = bd at *
  generalize c.d = cd at *
  generalize a.o = ao at *
  generalize b.o = bo at *
  generalize c.o = co at *
  simp [f_law_v4, nthB, start, List.replicate_succ, e1, e2, e3, e4, setTR_tup, walk_tup, q1, run_mod, gz, w4, eo, tl]
end Q

/-! the law and its world, printed by gen.py -/
namespace Q.k04
open PySem PySem.Spec PyProof.Rows L2
def top (i : Nat) : Stmt := PySem.Challenge.pw_leansay_k04_sayings_put_in.main.body.getD i (.Pass ⟨0, 0, 0, 0⟩)
def ds0 : List DD := [⟨"_wall", none, "_wall", "_wall", top 0, "_wall", f__wall, [Str.ofString "k"]⟩,
  ⟨"put_in", none, "put_in", "put_in", top 13, "sayings.put_in", f_sayings_put_in, [Str.ofString "saying", Str.ofString "one", Str.ofString "other", Str.ofString "first", Str.ofString "second"]⟩,
  ⟨"_law_mixed", none, "_law_mixed", "_law_mixed", top 15, "_law_mixed", f__law_mixed, [Str.ofString "_law_script", Str.ofString "_law_least", Str.ofString "_law_as_they_stand", Str.ofString "_law_made", Str.ofString "_law_k", Str.ofString "_law_cell"]⟩,
  ⟨"_law_next", none, "_law_next", "_law_next", top 16, "_law_next", f__law_next, [Str.ofString "_law_cells"]⟩,
  ⟨"_law_saying", none, "_law_saying", "_law_saying", top 17, "_law_saying", f__law_saying, [Str.ofString "_law_cells", Str.ofString "_law_room", Str.ofString "_law_two", Str.ofString "_law_cell", Str.ofString "_law_turn", Str.ofString "_law_left", Str.ofString "_law_one", Str.ofString "_law_word"]⟩,
  ⟨"_law_object", none, "_law_object", "_law_object", top 18, "_law_object", f__law_object_v2, [Str.ofString "_law_tree", Str.ofString "_law_kept", Str.ofString "_law_text_here"]⟩,
  ⟨"_law_of_tree", none, "_law_of_tree", "_law_of_tree", top 19, "_law_of_tree", f__law_of_tree, [Str.ofString "_law_tree", Str.ofString "_law_kept", Str.ofString "_law_one", Str.ofString "_law_other"]⟩,
  ⟨"_law_text", none, "_law_text", "_law_text", top 20, "_law_text", f__law_text, [Str.ofString "_law_tree"]⟩,
  ⟨"_law_fold", none, "_law_fold", "_law_fold", top 21, "_law_fold", f__law_fold, [Str.ofString "_law_word", Str.ofString "_law_n", Str.ofString "_law_one", Str.ofString "_law_other"]⟩,
  ⟨"_law_worth", none, "_law_worth", "_law_worth", top 22, "_law_worth", f__law_worth, [Str.ofString "_law_tree", Str.ofString "_law_n", Str.ofString "_law_x", Str.ofString "_law_y"]⟩,
  ⟨"_law_whole", none, "_law_whole", "_law_whole", top 23, "_law_whole", f__law_whole, [Str.ofString "_law_found"]⟩,
  ⟨"_law_point", none, "_law_point", "_law_point", top 24, "_law_point", f__law_point, [Str.ofString "_law_cell", Str.ofString "_law_other", Str.ofString "_law_n"]⟩]
def ds1 : List DD := [⟨"_law_put", none, "_law_put", "_law_put", top 25, "_law_put", f__law_put, [Str.ofString "_law_tree", Str.ofString "_law_one", Str.ofString "_law_other", Str.ofString "_law_part"]⟩,
  ⟨"law", none, "law", "law", top 26, "law", f_law_v4, [Str.ofString "_law_script", Str.ofString "_law_cells", Str.ofString "_law_n", Str.ofString "_law_x", Str.ofString "_law_y", Str.ofString "_law_trees", Str.ofString "_law_kept", Str.ofString "_law_some", Str.ofString "_law_found", Str.ofString "_law_due", Str.ofString "_law_told", Str.ofString "_law_inner", Str.ofString "_law_most", Str.ofString "_law_tree", Str.ofString "_law_one"]⟩,
  ⟨"Never", some "told", "told", "Never.told", inCls (top 3) 0, "Never.told", f_Never_told, [Str.ofString "self"]⟩,
  ⟨"Never", some "out_of", "out_of", "Never.out_of", inCls (top 3) 1, "Never.out_of", f_Never_out_of, [Str.ofString "self", Str.ofString "n", Str.ofString "x", Str.ofString "y"]⟩,
  ⟨"Always", some "told", "told", "Always.told", inCls (top 4) 0, "Always.told", f_Always_told, [Str.ofString "self"]⟩,
  ⟨"Always", some "out_of", "out_of", "Always.out_of", inCls (top 4) 1, "Always.out_of", f_Always_out_of, [Str.ofString "self", Str.ofString "n", Str.ofString "x", Str.ofString "y"]⟩,
  ⟨"Letter", some "told", "told", "Letter.told", inCls (top 5) 1, "Letter.told", f_Letter_told, [Str.ofString "self"]⟩,
  ⟨"Letter", some "out_of", "out_of", "Letter.out_of", inCls (top 5) 3, "Letter.out_of", f_Letter_out_of, [Str.ofString "self", Str.ofString "n", Str.ofString "x", Str.ofString "y"]⟩,
  ⟨"Not", some "told", "told", "Not.told", inCls (top 6) 2, "Not.told", f_Not_told, [Str.ofString "self"]⟩,
  ⟨"Not", some "out_of", "out_of", "Not.out_of", inCls (top 6) 3, "Not.out_of", f_Not_out_of, [Str.ofString "self", Str.ofString "n", Str.ofString "x", Str.ofString "y"]⟩,
  ⟨"Fold", some "told", "told", "Fold.told", inCls (top 7) 3, "Fold.told", f_Fold_told, [Str.ofString "self"]⟩,
  ⟨"Fold", some "out_of", "out_of", "Fold.out_of", inCls (top 7) 4, "Fold.out_of", f_Fold_out_of, [Str.ofString "self", Str.ofString "n", Str.ofString "x", Str.ofString "y"]⟩]
def ds2 : List DD := [⟨"More", some "sign", "sign", "More.sign", inCls (top 8) 0, "More.sign", f_More_sign, [Str.ofString "self"]⟩,
  ⟨"More", some "made_of", "made_of", "More.made_of", inCls (top 8) 1, "More.made_of", f_More_made_of, [Str.ofString "self", Str.ofString "n", Str.ofString "one", Str.ofString "other"]⟩,
  ⟨"Less", some "sign", "sign", "Less.sign", inCls (top 9) 0, "Less.sign", f_Less_sign, [Str.ofString "self"]⟩,
  ⟨"Less", some "made_of", "made_of", "Less.made_of", inCls (top 9) 1, "Less.made_of", f_Less_made_of, [Str.ofString "self", Str.ofString "n", Str.ofString "one", Str.ofString "other"]⟩,
  ⟨"Greater", some "sign", "sign", "Greater.sign", inCls (top 10) 0, "Greater.sign", f_Greater_sign, [Str.ofString "self"]⟩,
  ⟨"Greater", some "made_of", "made_of", "Greater.made_of", inCls (top 10) 1, "Greater.made_of", f_Greater_made_of, [Str.ofString "self", Str.ofString "n", Str.ofString "one", Str.ofString "other"]⟩,
  ⟨"Lesser", some "sign", "sign", "Lesser.sign", inCls (top 11) 0, "Lesser.sign", f_Lesser_sign, [Str.ofString "self"]⟩,
  ⟨"Lesser", some "made_of", "made_of", "Lesser.made_of", inCls (top 11) 1, "Lesser.made_of", f_Lesser_made_of, [Str.ofString "self", Str.ofString "n", Str.ofString "one", Str.ofString "other"]⟩,
  ⟨"Leads", some "sign", "sign", "Leads.sign", inCls (top 12) 0, "Leads.sign", f_Leads_sign, [Str.ofString "self"]⟩,
  ⟨"Leads", some "made_of", "made_of", "Leads.made_of", inCls (top 12) 1, "Leads.made_of", f_Leads_made_of, [Str.ofString "self", Str.ofString "n", Str.ofString "one", Str.ofString "other"]⟩]
def lw : Lw := ⟨ds0 ++ ds1 ++ ds2, [.Saying, .Never, .Always, .Letter, .Not, .Fold, .More, .Less, .Greater, .Lesser, .Leads], [], [⟨"Letter", "Letter.__init__", inCls (top 5) 0, [Str.ofString "self", Str.ofString "name"]⟩, ⟨"Not", "Not.__init__", inCls (top 6) 0, [Str.ofString "self", Str.ofString "part"]⟩, ⟨"Fold", "Fold.__init__", inCls (top 7) 0, [Str.ofString "self", Str.ofString "one", Str.ofString "other"]⟩], [(.Never, none), (.Always, none), (.Letter, some "Letter"), (.Not, some "Not"), (.More, some "Fold"), (.Less, some "Fold"), (.Greater, some "Fold"), (.Lesser, some "Fold"), (.Leads, some "Fold")], [(.Never, "out_of", "Never.out_of"), (.Never, "told", "Never.told"), (.Always, "out_of", "Always.out_of"), (.Always, "told", "Always.told"), (.Letter, "out_of", "Letter.out_of"), (.Letter, "told", "Letter.told"), (.Not, "out_of", "Not.out_of"), (.Not, "told", "Not.told"), (.Fold, "out_of", "Fold.out_of"), (.Fold, "told", "Fold.told"), (.More, "made_of", "More.made_of"), (.More, "out_of", "Fold.out_of"), (.More, "sign", "More.sign"), (.More, "told", "Fold.told"), (.Less, "made_of", "Less.made_of"), (.Less, "out_of", "Fold.out_of"), (.Less, "sign", "Less.sign"), (.Less, "told", "Fold.told"), (.Greater, "made_of", "Greater.made_of"), (.Greater, "out_of", "Fold.out_of"), (.Greater, "sign", "Greater.sign"), (.Greater, "told", "Fold.told"), (.Lesser, "made_of", "Lesser.made_of"), (.Lesser, "out_of", "Fold.out_of"), (.Lesser, "sign", "Lesser.sign"), (.Lesser, "told", "Fold.told"), (.Leads, "made_of", "Leads.made_of"), (.Leads, "out_of", "Fold.out_of"), (.Leads, "sign", "Leads.sign"), (.Leads, "told", "Fold.told")], fun _ => none⟩
def loose0 : List Str := ["_wall", "Saying", "Never", "Always", "Letter", "Not", "Fold", "More", "Less", "Greater", "Lesser", "Leads", "put_in", "_law_mixed", "_law_next", "_law_saying", "_law_object", "_law_of_tree", "_law_text", "_law_fold"]
def loose1 : List Str := ["_law_worth", "_law_whole", "_law_point", "_law_put"]
def loose : List Str := loose0 ++ loose1
abbrev R : PySem.W.OpenRow := PySem.W.OpenLaw.row PySem.Challenge.rw_leansay_k04_sayings_put_in
abbrev hk : PySem.W.Hook := hookQ 5 lw.ck lw.fn
def ob (s : PySem.W.SharedT) : AlQ := obsQG 5 lw.ck lw.fn (HandSHeadRun.getT s)
theorem ob_eq (s : PySem.W.SharedT) : ob s = hk.obs s.abs := obsQG_eq (HandSHeadRun.getT_eq s)
theorem run (w : World) : HandSHeadRun.RunEq R (PySem.W.view R.prog [26]) hk ob 30000 loose w := by
  intro os
  kernel_rfl
theorem fns : lw.fns = true := by decide +kernel
end Q.k04

/-! the law k04: its world and mine -/
namespace Q.k04
open PySem
def depth : Nat := 221
theorem tabs : K04 lw.T := ⟨⟨rfl, rfl, rfl, rfl, rfl, rfl, rfl, rfl, rfl, rfl, rfl, rfl, rfl, rfl, rfl, rfl, rfl, rfl, rfl, rfl, rfl, rfl, rfl, rfl⟩, ⟨rfl, rfl, rfl⟩, ⟨rfl, rfl, rfl, rfl, by intro w; cases w <;> rfl, by intro w; cases w <;> rfl, rfl, rfl, rfl, rfl, rfl, rfl, rfl, rfl, rfl, rfl⟩, rfl, rfl, rfl, rfl, rfl, rfl, rfl, rfl, rfl, rfl⟩
theorem law_ok (ns : List Int) (hl : ns.length ≤ 63) (hb : ∀ z ∈ ns, Builtin.Int.intBits z ≤ 1048576) : ∃ h, Q.call lw.T depth "law" [.ref 0] [.frz (ns.map D.int)] = .ok (.bl true) h := Q.k04_law tabs ns ⟨hl, hb⟩
end Q.k04

open PySem PySem.W PySem.Calls PyProof.Rows
theorem PySem.Challenge.cw_leansay_k04_sayings_put_in_holds : PySem.Challenge.rw_leansay_k04_sayings_put_in.Holds := by
  w_on; o_law
  refine HandSHeadRun.head_any (r := OpenLaw.row PySem.Challenge.rw_leansay_k04_sayings_put_in) (q := view (OpenLaw.row PySem.Challenge.rw_leansay_k04_sayings_put_in).prog [26]) (H := Q.k04.hk) (ob := Q.k04.ob) (M := 30000) (loose := Q.k04.loose) (d := HandSHeadRun.topDef (OpenLaw.row PySem.Challenge.rw_leansay_k04_sayings_put_in).prog 26) (kwd := []) Q.k04.ob_eq
    (by kernel_rfl) (fun s => by kernel_rfl) Q.k04.run (by kernel_rfl) (by kernel_rfl) (by kernel_rfl) (by rfl) (by first | assumption | decide +kernel) (by decide +kernel) ⟨rfl, rfl, rfl, rfl, rfl, by decide +kernel⟩ ?hw ?hc
  case hw => w_witness2
  case hc => exact Q.law_walk (l := PySem.Challenge.rw_leansay_k04_sayings_put_in) Q.k04.lw Q.k04.depth rfl (by kernel_rfl) ⟨rfl, by decide, by decide⟩ (by kernel_rfl) (by decide +kernel) (by decide +kernel) Q.k04.fns (by decide +kernel) ⟨_, rfl, rfl⟩ Q.k04.law_ok

