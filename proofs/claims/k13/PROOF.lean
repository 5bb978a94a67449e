import PyProof.Rows.All
import Wide.All
import OpenK.AllK
import Wide.FinOn
import HandS.Text
import HandS.ForExc
import HandS.Comp
import HandS.Dict
import HandS.Deep
import HandS.SetBool
import HandS.Iter
import HandS.Flow
import HandS.Wide
import HandS.IsInst
import HandS.ExcInit
import HandS.CallSlots
import HandS.TupAny
import HandS.More
import HandS.WordsDict
import KE.DataMinMax
import KE.KTupSum
import KE.DatumOrd
import KE.DataEq
import KE.DataFind
import HandS.ExcIs
import HandS.TryMany
import HandS.Zip
import HandS.TupSets
import HandS.WordsExc
import HandS.New0
import HandS.CallRecv
import HandS.Codes
import KE.GoesMore
import PyProof.Draws
import HandS.SortInts
import HandS.Small
import HandS.TryOnly
import KE.KStateDown
import Lean
import HandS.Defaults
import HandS.Head0
import HandS.Head1
import HandS.Head2
import HandS.HeadEnd
import HandS.EndBits
import HandS.HeadHook1
import HandS.HeadHook2
import HandS.HeadHook3
import PyProof.Fits
import PyProof.FitsInt
import PySem.Challenge.RW_leansay_k13_rows_amiss
set_option linter.all false
set_option Elab.async false
set_option maxRecDepth 100000
set_option maxHeartbeats 0
/-! My own value domain, heap, compact program text and interpreter. -/
namespace Q
open PySem (Str)

/-- the classes of the program -/
inductive Cn where
  | SayError | NoText | NoRows | NoLine | NoCall | NoName | NoNumber | TooMany | NoPoint | NoLetter | NoCut
  | Saying | Never | Always | Letter | Not | Fold | More | Less | Greater | Lesser | Leads | Desk
  deriving DecidableEq, Repr

/-- values: immutable things by value, lists and dicts by a place of my heap; lv: a list by value (comparisons alone) -/
inductive D where
  | non | bl (b : Bool) | int (i : Int) | str (s : Str) | tup (ds : List D) | obj (c : Cn) (ds : List D) | ref (n : Nat) | lv (ds : List D)

inductive O where
  | lst (ds : List D) | frz (ds : List D) | dic (t : Bool) (kvs : List (D × D))

abbrev Hs := List O
abbrev Ev := List (Option D)

inductive R (α : Type) where
  | ok (a : α) (h : Hs) | exc (c : Cn) (fs : List D) (h : Hs) | bad

@[reducible] def R.bind {α β : Type} (r : R α) (f : α → Hs → R β) : R β := match r with
  | .ok a h => f a h
  | .exc c fs h => .exc c fs h
  | .bad => .bad
@[simp] theorem R.bind_ok {α β : Type} (a : α) (h : Hs) (f : α → Hs → R β) : R.bind (.ok a h) f = f a h := rfl
@[simp] theorem R.bind_exc {α β : Type} (c : Cn) (fs : List D) (h : Hs) (f : α → Hs → R β) : R.bind (.exc c fs h) f = .exc c fs h := rfl
@[simp] theorem R.bind_bad {α β : Type} (f : α → Hs → R β) : R.bind (.bad : R α) f = .bad := rfl

/-- a statement's end -/
inductive SR where
  | nx (s : Ev) (h : Hs) | rt (d : D) (h : Hs) | bk (s : Ev) (h : Hs) | ct (s : Ev) (h : Hs) | exc (c : Cn) (fs : List D) (s : Ev) (h : Hs) | bad

abbrev S (x : String) : Str := Str.ofString x
/-- the largest size of a list, a text -/
def SZ : Nat := 16777216
/-- factors, divisors, numbers that are written: how many bits at most -/
def mulB (i : Int) : Prop := i.natAbs.log2 < 60000000
def divB (i : Int) : Prop := i.natAbs.log2 < 9000
def strB (i : Int) : Prop := i.natAbs.log2 < 1900
instance (i : Int) : Decidable (mulB i) := inferInstanceAs (Decidable (_ < _))
instance (i : Int) : Decidable (divB i) := inferInstanceAs (Decidable (_ < _))
instance (i : Int) : Decidable (strB i) := inferInstanceAs (Decidable (_ < _))
/-! ### equality -/
def b2i (b : Bool) : Int := if b then 1 else 0
mutual
def deq : D → D → Bool
  | .non, .non => true
  | .bl a, .bl b => a == b
  | .bl a, .int j => b2i a == j
  | .int i, .int j => i == j
  | .int i, .bl b => i == b2i b
  | .str x, .str y => x == y
  | .tup xs, .tup ys => deqs xs ys
  | .lv xs, .lv ys => deqs xs ys
  | _, _ => false
def deqs : List D → List D → Bool
  | [], [] => true
  | x :: xs, y :: ys => deq x y && deqs xs ys
  | _, _ => false
end
mutual
/-- a value by value alone: no objects, no places -/
def pur : D → Bool
  | .tup xs => purs xs
  | .lv xs => purs xs
  | .obj _ _ => false
  | .ref _ => false
  | _ => true
def purs : List D → Bool
  | [] => true
  | x :: xs => pur x && purs xs
end
mutual
/-- the lists within a value read, by f -/
def rsF (f : Nat → Option D) : D → Option D
  | .tup xs => (rsFs f xs).map .tup
  | .ref n => f n
  | .obj _ _ => none
  | .lv _ => none
  | d => some d
def rsFs (f : Nat → Option D) : List D → Option (List D)
  | [] => some []
  | x :: xs => match rsF f x, rsFs f xs with
    | some y, some ys => some (y :: ys)
    | _, _ => none
end
/-- a place read, n lists deep -/
def rdN (h : Hs) : Nat → Nat → Option D
  | 0, _ => none
  | k + 1, n => match h[n]? with
    | some (.lst xs) => (rsFs (rdN h k) xs).map .lv
    | some (.frz xs) => (rsFs (rdN h k) xs).map .lv
    | _ => none
abbrev rsv (h : Hs) (d : D) : Option D := rsF (rdN h 6) d
mutual
/-- how deep a value is -/
def ddep : D → Nat
  | .tup xs => ddeps xs + 1
  | .lv xs => ddeps xs + 1
  | _ => 0
def ddeps : List D → Nat
  | [] => 0
  | x :: xs => max (ddep x) (ddeps xs)
end
def eqv (h : Hs) (a b : D) : Option Bool := match rsv h a, rsv h b with
  | some x, some y => if min (ddep x) (ddep y) ≤ 150 then some (deq x y) else none
  | _, _ => none

/-! ### dicts: pairs in the order of their first store; t: the keys are tuples -/
/-- a tuple as rows are: a text, or a text and one or two numbers -/
def rowK : List D → Bool
  | [.str x] => x != S "leaf"
  | [.str _, .int _] => true
  | [.str _, .int _, .int _] => true
  | _ => false
/-- a number, a text, a truth -/
def scaB : D → Bool
  | .int _ => true
  | .str _ => true
  | .bl _ => true
  | _ => false
def kOk (t : Bool) (x : D) : Bool := match t, x with
  | false, .int _ => true
  | false, .str _ => true
  | true, .tup ds => ds.all scaB
  | _, _ => false
def dlook (k : D) : List (D × D) → Option D
  | [] => none
  | (a, v) :: r => if deq a k then some v else dlook k r
def dput (k v : D) : List (D × D) → List (D × D)
  | [] => [(k, v)]
  | (a, w) :: r => if deq a k then (a, v) :: r else (a, w) :: dput k v r
def ddel (k : D) : List (D × D) → List (D × D)
  | [] => []
  | (a, w) :: r => if deq a k then r else (a, w) :: ddel k r

/-! ### the text -/
inductive Bop where | add | sub | mul | fdiv | mod | pow deriving DecidableEq
inductive Cop where | lt | le | gt | ge | eq | ne | isin | notin | eqx | nex deriving DecidableEq
inductive Ty where | tint | tbool | tstr | ttuple | tlist | tval | own (c : Cn) deriving DecidableEq
/-- built-in functions -/
inductive Bi where | len | abs | min | max | int | str | tuple | list | sum | any | all | sortedset | sorted | lenset deriving DecidableEq
/-- built-in methods -/
inductive Bm where | append | extend | insert | pop | popAt | clear | count | index | split | join | get | dpop | indexFrom deriving DecidableEq

mutual
inductive Ex where
  | v (i : Nat)
  | k (d : D)
  | g (x : String)
  | tup (es : Exs)
  | lst (es : Exs)
  | dic (t : Bool) (es : Exs)
  | bin (o : Bop) (a b : Ex)
  | neg (a : Ex)
  | cmp (o : Cop) (a b : Ex)
  | chn (o p : Cop) (a b c : Ex)
  | isn (a : Ex) (neg : Bool)
  | ist (a : Ex) (b : Bool) (neg : Bool)
  | not (a : Ex)
  | and (es : Exs)
  | or (es : Exs)
  | orv (a : Ex) (b : Ex)
  | ite (c a b : Ex)
  | sub (a i : Ex)
  | slc (a : Ex) (lo hi : Eo)
  | fld (a : Ex) (f : String)
  | call (f : String) (es : Exs)
  | mk (c : Cn) (es : Exs)
  | mth (a : Ex) (m : String) (es : Exs)
  | b (f : Bi) (es : Exs)
  | bm (m : Bm) (a : Ex) (es : Exs)
  | isi (a : Ex) (ts : List Ty)
  | gget (x : String) (a : Ex)
  | gin (a : Ex) (x : String) (neg : Bool)
  | comp (e : Ex) (tg : Tg) (it : It) (c : Eo) (own : List Nat)
  | jst (es : Exs)
inductive Exs where
  | nil
  | cons (e : Ex) (es : Exs)
inductive Eo where
  | none
  | some (e : Ex)
inductive Tg where
  | one (i : Nat)
  | many (is : List Nat)
inductive It where
  | sq (e : Ex)
  | r1 (a : Ex)
  | r2 (a b : Ex)
  | r3 (a b c : Ex)
  | enum (e : Ex)
  | zip (a b : Ex)
  | items (a : Ex)
end
mutual
inductive Sm where
  | pass
  | set (i : Nat) (e : Ex)
  | setT (is : List Nat) (e : Ex)
  | par (i j : Nat) (a b : Ex)
  | setI (o i e : Ex)
  | ex (e : Ex)
  | ret (e : Ex)
  | retN
  | ite (c : Ex) (a b : Bl)
  | whl (c : Ex) (a : Bl)
  | for (tg : Tg) (it : It) (a : Bl)
  | brk
  | cnt
  | raise (c : Cn) (es : Exs)
  | try (a : Bl) (hs : Hds)
inductive Bl where
  | nil
  | cons (s : Sm) (r : Bl)
inductive Hds where
  | nil
  | cons (c : Cn) (i : Option Nat) (b : Bl) (r : Hds)
end

/-- a def: parameters, slots, body -/
structure Fn where
  np : Nat
  ns : Nat
  body : Bl
/-- a program: its defs by name (methods as Class.name), what a method's name means for a class, constants, constant dicts -/
structure Tab where
  fn : String → Option Fn
  meth : Cn → String → Option String
  con : String → Option D
  dic : String → Option (List (Str × D))

/-! ### operations -/
def Bop.run : Bop → D → D → Hs → R D
  | .add, .int i, .int j, h => .ok (.int (i + j)) h
  | .sub, .int i, .int j, h => .ok (.int (i - j)) h
  | .mul, .int i, .int j, h => if mulB i ∧ mulB j then .ok (.int (i * j)) h else .bad
  | .fdiv, .int i, .int j, h => if j ≠ 0 ∧ divB j then .ok (.int (i.fdiv j)) h else .bad
  | .mod, .int i, .int j, h => if j ≠ 0 then .ok (.int (i.fmod j)) h else .bad
  | .pow, .int i, .int j, h => if 0 ≤ j ∧ j ≤ 1000 ∧ i.natAbs < 1000 then .ok (.int (i ^ j.toNat)) h else .bad
  | .add, .str x, .str y, h => if x.length + y.length ≤ SZ then .ok (.str (x ++ y)) h else .bad
  | .add, .tup xs, .tup ys, h => if xs.length + ys.length ≤ SZ then .ok (.tup (xs ++ ys)) h else .bad
  | .add, .ref n, .ref m, h => match h[n]?, h[m]? with
    | some (.lst xs), some (.lst ys) => if xs.length + ys.length ≤ SZ then .ok (.ref h.length) (h ++ [.lst (xs ++ ys)]) else .bad
    | _, _ => .bad
  | .mul, .ref n, .int j, h => match h[n]? with
    | some (.lst xs) => if -(2 ^ 63) ≤ j ∧ j < 2 ^ 63 ∧ xs.length * j.toNat ≤ SZ then .ok (.ref h.length) (h ++ [.lst (List.replicate j.toNat xs).flatten]) else .bad
    | _ => .bad
  | _, _, _, _ => .bad

/-- one sign in a text -/
def signIn (x y : Str) : Option Bool := match x.cps.toList with
  | [c] => some (y.cps.toList.contains c)
  | _ => none
def inSeq (h : Hs) (x : D) : List D → Option Bool
  | [] => (rsv h x).map fun _ => false
  | y :: ys => match eqv h y x, inSeq h x ys with
    | some a, some b => some (a || b)
    | _, _ => none
/-- x in y -/
def isIn (h : Hs) (x y : D) : Option Bool := match y with
  | .tup ys => inSeq h x ys
  | .str y => match x with
    | .str x => signIn x y
    | _ => none
  | .ref n => match h[n]? with
    | some (.lst ys) => inSeq h x ys
    | some (.frz ys) => inSeq h x ys
    | some (.dic t kvs) => if kOk t x then some (dlook x kvs).isSome else none
    | _ => none
  | _ => none
def opt {α : Type} (r : Option α) (f : α → D) (h : Hs) : R D := match r with
  | some a => .ok (f a) h
  | none => .bad
/-- surely equal: the same place, or equal by value -/
def sameD : D → D → Bool
  | .ref a, .ref b => a == b
  | x, y => match rsF (fun _ => none) x, rsF (fun _ => none) y with
    | some x, some y => deq x y && decide (ddep x ≤ 100)
    | _, _ => false
def sameL : List D → List D → Bool
  | [], [] => true
  | x :: xs, y :: ys => sameD x y && sameL xs ys
  | _, _ => false
/-- == of two lists whose items may be anything: unlike lengths, or item by item surely equal -/
def eqX (h : Hs) : D → D → Option Bool
  | .ref m, .ref n => match h[m]?, h[n]? with
    | some (.lst xs), some (.lst ys) => if xs.length = ys.length then (if sameL xs ys then some true else none) else some false
    | _, _ => none
  | _, _ => none
def Cop.run : Cop → D → D → Hs → R D
  | .lt, .int i, .int j, h => .ok (.bl (decide (i < j))) h
  | .le, .int i, .int j, h => .ok (.bl (decide (i ≤ j))) h
  | .gt, .int i, .int j, h => .ok (.bl (decide (j < i))) h
  | .ge, .int i, .int j, h => .ok (.bl (decide (j ≤ i))) h
  | .eq, a, b, h => opt (eqv h a b) D.bl h
  | .ne, a, b, h => opt (eqv h a b) (fun c => D.bl (!c)) h
  | .isin, a, b, h => opt (isIn h a b) D.bl h
  | .notin, a, b, h => opt (isIn h a b) (fun c => D.bl (!c)) h
  | .eqx, a, b, h => opt (eqX h a b) D.bl h
  | .nex, a, b, h => opt (eqX h a b) (fun c => D.bl (!c)) h
  | _, _, _, _ => .bad

/-- truth -/
def tru (h : Hs) : D → Option Bool
  | .non => some false
  | .bl b => some b
  | .int i => some (i != 0)
  | .str x => if x.length ≤ SZ then some (x.length != 0) else none
  | .tup xs => some (!xs.isEmpty)
  | .ref n => match h[n]? with
    | some (.lst xs) => some (!xs.isEmpty)
    | some (.dic false xs) => some (!xs.isEmpty)
    | _ => none
  | _ => none

/-- a place of a sequence of n things, from behind where below 0 -/
def ixN (n : Nat) (i : Int) : Option Nat := if 0 ≤ i then (if i < n then some i.toNat else none) else if -(n : Int) ≤ i then some (i + n).toNat else none
def atI {α : Type} (xs : List α) (i : Int) : Option α := (ixN xs.length i).bind fun j => xs[j]?
/-- o[i] -/
def getI (o i : D) (h : Hs) : R D := match o, i with
  | .tup xs, .int i => opt (atI xs i) id h
  | .str x, .int i => if x.length ≤ SZ then opt (atI x.cps.toList i) (fun c => .str ⟨#[c]⟩) h else .bad
  | .ref n, i => match h[n]?, i with
    | some (.lst xs), .int i => opt (atI xs i) id h
    | some (.frz xs), .int i => opt (atI xs i) id h
    | some (.dic t kvs), i => if kOk t i then opt (dlook i kvs) id h else .bad
    | _, _ => .bad
  | _, _ => .bad
/-- o[i] = v -/
def setI (o i v : D) (h : Hs) : Option Hs := match o, i with
  | .ref n, i => match h[n]?, i with
    | some (.lst xs), .int i => (ixN xs.length i).map fun j => h.set n (.lst (xs.set j v))
    | some (.dic t kvs), i => if kOk t i ∧ kvs.length < SZ then some (h.set n (.dic t (dput i v kvs))) else none
    | _, _ => none
  | _, _ => none

/-- a bound of a slice -/
def sIx (n d : Nat) : Option Int → Nat
  | none => d
  | some i => if i < 0 then (i + n).toNat else min i.toNat n
def cut {α : Type} (xs : List α) (lo hi : Option Int) : List α := (xs.drop (sIx xs.length 0 lo)).take (sIx xs.length xs.length hi - sIx xs.length 0 lo)
def slice (o : D) (lo hi : Option Int) (h : Hs) : R D := match o with
  | .tup xs => .ok (.tup (cut xs lo hi)) h
  | .str x => if x.length ≤ SZ then .ok (.str ⟨(cut x.cps.toList lo hi).toArray⟩) h else .bad
  | .ref n => match h[n]? with
    | some (.lst xs) => .ok (.ref h.length) (h ++ [.lst (cut xs lo hi)])
    | some (.frz xs) => .ok (.ref h.length) (h ++ [.lst (cut xs lo hi)])
    | _ => .bad
  | _ => .bad

/-- the things of a sequence -/
def itemsOf (h : Hs) : D → Option (List D)
  | .tup xs => some xs
  | .ref n => match h[n]? with
    | some (.lst xs) => some xs
    | some (.frz xs) => some xs
    | _ => none
  | _ => none
/-- the things of a list -/
def listOf (h : Hs) : D → Option (List D)
  | .ref n => match h[n]? with
    | some (.lst xs) => some xs
    | some (.frz xs) => some xs
    | _ => none
  | _ => none
def intsL : List D → Option (List Int)
  | [] => some []
  | .int i :: r => (intsL r).map (i :: ·)
  | _ :: _ => none
def boolsL : List D → Option (List Bool)
  | [] => some []
  | .bl b :: r => (boolsL r).map (b :: ·)
  | _ :: _ => none
def strsL : List D → Option (List Str)
  | [] => some []
  | .str b :: r => (strsL r).map (b :: ·)
  | _ :: _ => none
def leastI : List Int → Int → Int
  | [], m => m
  | x :: xs, m => leastI xs (if x < m then x else m)
def mostI : List Int → Int → Int
  | [], m => m
  | x :: xs, m => mostI xs (if m < x then x else m)
def toStr (i : Int) : Str := S (toString i)
/-- tuples of numbers -/
def tupsI : List D → Option (List (List Int))
  | [] => some []
  | .tup ds :: r => match intsL ds, tupsI r with
    | some k, some ks => some (k :: ks)
    | _, _ => none
  | _ :: _ => none
/-- pairs, numbers put in order, like ones once -/
def pairsI : List (List Int) → Option (List (Int × Int))
  | [] => some []
  | [x, y] :: r => (pairsI r).map ((x, y) :: ·)
  | _ :: _ => none
def plt (a b : Int × Int) : Bool := decide (a.1 < b.1) || (a.1 == b.1 && decide (a.2 < b.2))
def insP (x : Int × Int) : List (Int × Int) → List (Int × Int)
  | [] => [x]
  | y :: ys => if plt x y then x :: y :: ys else if x = y then y :: ys else y :: insP x ys
def pset : List (Int × Int) → List (Int × Int)
  | [] => []
  | x :: xs => insP x (pset xs)
def insI (x : Int) : List Int → List Int
  | [] => [x]
  | y :: ys => if x < y then x :: y :: ys else if x = y then y :: ys else y :: insI x ys
def iset : List Int → List Int
  | [] => []
  | x :: xs => insI x (iset xs)
def pairD (p : Int × Int) : D := .tup [.int p.1, .int p.2]
/-- texts put in order, like ones once -/
def insS (x : Str) : List Str → List Str
  | [] => [x]
  | y :: ys => if x.cps.toList < y.cps.toList then x :: y :: ys else if x = y then y :: ys else y :: insS x ys
def sset : List Str → List Str
  | [] => []
  | x :: xs => insS x (sset xs)
def tupMin (ds : List D) (h : Hs) : R D := match ds with
  | .int i :: xs => opt (intsL xs) (fun l => .int (leastI l i)) h
  | _ => .bad
def tupMax (ds : List D) (h : Hs) : R D := match ds with
  | .int i :: xs => opt (intsL xs) (fun l => .int (mostI l i)) h
  | _ => .bad
/-- a number and a point -/
def quadOf : D → Option (Int × Int × Int × Int)
  | .tup [.int w, .tup [.int n, .int x, .int y]] => some (w, n, x, y)
  | _ => none
def quadsL : List D → Option (List (Int × Int × Int × Int))
  | [] => some []
  | d :: r => match quadOf d with
    | some q => (quadsL r).map (q :: ·)
    | none => none
def quadD (q : Int × Int × Int × Int) : D := .tup [.int q.1, .tup [.int q.2.1, .int q.2.2.1, .int q.2.2.2]]
def qlt (a b : Int × Int × Int × Int) : Bool := if a.1 = b.1 then (if a.2.1 = b.2.1 then (if a.2.2.1 = b.2.2.1 then (if a.2.2.2 = b.2.2.2 then false else decide (a.2.2.2 < b.2.2.2)) else decide (a.2.2.1 < b.2.2.1)) else decide (a.2.1 < b.2.1)) else decide (a.1 < b.1)
def qmin (l : List (Int × Int × Int × Int)) (q : Int × Int × Int × Int) : Int × Int × Int × Int := l.foldl (fun a y => if qlt y a = true then y else a) q
def quadMin2 (a b : List D) (h : Hs) : R D := match quadOf (.tup a), quadOf (.tup b) with
  | some x, some y => .ok (if qlt y x = true then .tup b else .tup a) h
  | _, _ => .bad
def quadMin (t : List D) (xs : List D) (h : Hs) : R D := match quadOf (.tup t), quadsL xs with
  | some q, some l => .ok (quadD (qmin l q)) h
  | _, _ => .bad
def Bi.run : Bi → List D → Hs → R D
  | .len, [.str x], h => if x.length ≤ SZ then .ok (.int x.length) h else .bad
  | .len, [.tup xs], h => .ok (.int xs.length) h
  | .len, [.ref n], h => match h[n]? with
    | some (.lst xs) => .ok (.int xs.length) h
    | some (.frz xs) => .ok (.int xs.length) h
    | some (.dic false xs) => .ok (.int xs.length) h
    | _ => .bad
  | .abs, [.int i], h => .ok (.int (if i < 0 then -i else i)) h
  | .min, [.int i, .int j], h => .ok (.int (if j < i then j else i)) h
  | .max, [.int i, .int j], h => .ok (.int (if j > i then j else i)) h
  | .min, [.tup a, .tup b], h => quadMin2 a b h
  | .min, [.tup ds], h => tupMin ds h
  | .max, [.tup ds], h => tupMax ds h
  | .min, [d], h => match listOf h d with
    | some (.int i :: xs) => opt (intsL xs) (fun l => .int (leastI l i)) h
    | some (.tup t :: xs) => quadMin t xs h
    | _ => .bad
  | .max, [d], h => match listOf h d with
    | some (.int i :: xs) => opt (intsL xs) (fun l => .int (mostI l i)) h
    | _ => .bad
  | .int, [.int i], h => .ok (.int i) h
  | .int, [.bl b], h => .ok (.int (b2i b)) h
  | .int, [.str x], h => if x.length ≤ 640 then opt (PySem.intText? x) .int h else .bad
  | .str, [.int i], h => if strB i ∧ PySem.PyData.strOk (toStr i) = true then .ok (.str (toStr i)) h else .bad
  | .tuple, [d], h => opt (itemsOf h d) D.tup h
  | .list, [.tup xs], h => .ok (.ref h.length) (h ++ [.lst xs])
  | .list, [.ref n], h => match h[n]? with
    | some (.lst xs) => .ok (.ref h.length) (h ++ [.lst xs])
    | some (.frz xs) => .ok (.ref h.length) (h ++ [.lst xs])
    | some (.dic false kvs) => .ok (.ref h.length) (h ++ [.lst (kvs.map (·.1))])
    | _ => .bad
  | .sum, [d], h => opt ((itemsOf h d).bind intsL) (fun l => .int l.sum) h
  | .any, [d], h => opt ((listOf h d).bind boolsL) (fun l => .bl (l.any id)) h
  | .all, [d], h => opt ((listOf h d).bind boolsL) (fun l => .bl (l.all id)) h
  | .sortedset, [d], h => match (listOf h d).bind strsL with
    | some l => if l.length < 60 then .ok (.ref h.length) (h ++ [.lst ((sset l).map .str)]) else .bad
    | none => match ((listOf h d).bind tupsI).bind pairsI with
      | some l => if l.length < 60 then .ok (.ref h.length) (h ++ [.lst ((pset l).map pairD)]) else .bad
      | none => .bad
  | .sorted, [.ref n], h => match h[n]? with
    | some (.dic false kvs) => if kvs.length < 60 then (match strsL (kvs.map (·.1)) with
      | some l => .ok (.ref h.length) (h ++ [.lst ((sset l).map .str)])
      | none => match intsL (kvs.map (·.1)) with
        | some l => .ok (.ref h.length) (h ++ [.lst ((iset l).map .int)])
        | none => .bad) else .bad
    | _ => .bad
  | .lenset, [d], h => match (listOf h d).bind tupsI with
    | some l => if l.length < 60 ∧ l.Nodup then .ok (.int l.length) h else .bad
    | none => .bad
  | _, _, _ => .bad

def lenAll : List Str → Nat
  | [] => 0
  | x :: xs => x.length + lenAll xs
/-- what has the method -/
inductive Rk where | l | d | s deriving DecidableEq
def Bm.rk : Bm → Rk
  | .split | .join => .s
  | .get | .dpop => .d
  | _ => .l
def bmK (f : Bm) (x : D) (h : Hs) : Bool := match x with
  | .str _ => f.rk == .s
  | .ref n => match h[n]? with
    | some (.lst _) => f.rk == .l
    | some (.frz _) => f.rk == .l
    | some (.dic t _) => !t && f.rk == .d
    | none => false
  | _ => false
def bmD {α : Type} (f : Bm) (x : D) (g : Hs → R α) (h : Hs) : R α := if bmK f x h then g h else .bad
def Bm.run : Bm → D → List D → Hs → R D
  | .append, .ref n, [d], h => match h[n]? with
    | some (.lst xs) => if xs.length < SZ then .ok .non (h.set n (.lst (xs ++ [d]))) else .bad
    | _ => .bad
  | .extend, .ref n, [.ref m], h => match h[n]?, h[m]? with
    | some (.lst xs), some (.lst ys) => if xs.length + ys.length ≤ SZ then .ok .non (h.set n (.lst (xs ++ ys))) else .bad
    | _, _ => .bad
  | .insert, .ref n, [.int i, d], h => match h[n]? with
    | some (.lst xs) => if 0 ≤ i ∧ i ≤ xs.length ∧ xs.length < SZ then .ok .non (h.set n (.lst (xs.take i.toNat ++ d :: xs.drop i.toNat))) else .bad
    | _ => .bad
  | .pop, .ref n, [], h => match h[n]? with
    | some (.lst xs) => match xs[xs.length - 1]? with
      | some d => .ok d (h.set n (.lst xs.dropLast))
      | none => .bad
    | _ => .bad
  | .popAt, .ref n, [.int i], h => match h[n]? with
    | some (.lst (x :: r)) => if i = 0 then .ok x (h.set n (.lst r)) else .bad
    | _ => .bad
  | .clear, .ref n, [], h => match h[n]? with
    | some (.lst _) => .ok .non (h.set n (.lst []))
    | _ => .bad
  | .count, .ref n, [d], h => match rdN h 7 n, rsv h d with
    | some (.lv ys), some x => if ddeps ys ≤ 62 ∧ ddep x ≤ 62 then .ok (.int (ys.countP (fun y => deq y x) : Nat)) h else .bad
    | _, _ => .bad
  | .index, .ref n, [d], h => match rdN h 7 n, rsv h d with
    | some (.lv ys), some x => if ddeps ys ≤ 62 ∧ ddep x ≤ 62 then opt (ys.findIdx? fun y => deq y x) (fun n => .int n) h else .bad
    | _, _ => .bad
  | .split, .str x, [.str y], h => if y.length ≠ 0 ∧ x.length + 2 ≤ SZ ∧ (PySem.Txt.split x y).all PySem.PyData.strOk = true then .ok (.ref h.length) (h ++ [.lst ((PySem.Txt.split x y).map .str)]) else .bad
  | .join, .str sep, [d], h => match (itemsOf h d).bind strsL with
    | some l => if (l.map (·.length)).sum + l.length * sep.length ≤ 16777216 ∧ PySem.PyData.strOk (PySem.Txt.join sep l) = true then .ok (.str (PySem.Txt.join sep l)) h else .bad
    | none => .bad
  | .get, .ref n, [k, d], h => match h[n]? with
    | some (.dic false kvs) => if kOk false k then .ok ((dlook k kvs).getD d) h else .bad
    | _ => .bad
  | .dpop, .ref n, [k], h => match h[n]? with
    | some (.dic false kvs) => if kOk false k then (match dlook k kvs with
      | some v => .ok v (h.set n (.dic false (ddel k kvs)))
      | none => .bad) else .bad
    | _ => .bad
  | _, _, _, _ => .bad

/-! ### classes -/
def Cn.up : Cn → Option Cn
  | .SayError | .Saying | .Desk => none
  | .NoText | .NoRows | .NoLine | .NoCall | .NoName | .NoNumber | .TooMany | .NoPoint | .NoLetter | .NoCut => some .SayError
  | .Never | .Always | .Letter | .Not | .Fold => some .Saying
  | .More | .Less | .Greater | .Lesser | .Leads => some .Fold
def Cn.isExc : Cn → Bool
  | .SayError | .NoText | .NoRows | .NoLine | .NoCall | .NoName | .NoNumber | .TooMany | .NoPoint | .NoLetter | .NoCut => true
  | _ => false
/-- c is d or below it -/
def Cn.under (c d : Cn) : Bool := c == d || match c.up with
  | some e => e == d || (match e.up with
    | some f => f == d
    | none => false)
  | none => false
/-- the fields, in the order in which they are given -/
def Cn.flds : Cn → List String
  | .NoText | .NoRows => ["at"]
  | .NoLine => ["word", "at"]
  | .NoCall => ["line"]
  | .NoName => ["name"]
  | .Letter => ["name"]
  | .Not => ["part"]
  | .More | .Less | .Greater | .Lesser | .Leads => ["one", "other"]
  | .Desk => ["kept"]
  | _ => []
def fldOf : List String → List D → String → Option D
  | f :: fs, d :: ds, g => if f = g then some d else fldOf fs ds g
  | _, _, _ => none
/-- exception classes that are made of one text (no own __init__) -/
def Cn.plainExc : Cn → Bool
  | .NoNumber | .TooMany | .NoPoint | .NoLetter | .NoCut | .SayError => true
  | _ => false
/-- is d of the type t -/
def isTy (h : Hs) (d : D) (t : Ty) : Option Bool := match d with
  | .non => some false
  | .bl _ => some (t == .tint || t == .tbool)
  | .int _ => some (t == .tint)
  | .str _ => some (t == .tstr)
  | .tup _ => some (t == .ttuple)
  | .obj c _ => some (match t with
    | .own e => c.under e
    | .tval => c.isExc
    | _ => false)
  | .ref n => match h[n]? with
    | some (.lst _) => some (t == .tlist)
    | some (.frz _) => some (t == .tlist)
    | some (.dic _ _) => some false
    | none => none
  | .lv _ => none
def isTys (h : Hs) (d : D) : List Ty → Option Bool
  | [] => some false
  | t :: ts => match isTy h d t, isTys h d ts with
    | some a, some b => some (a || b)
    | _, _ => none

/-! ### the interpreter -/
/-- a for's target -/
def asg : Tg → D → Ev → Option Ev
  | .one i, d, s => some (s.set i (some d))
  | .many is, .tup ds, s => if is.length = ds.length then some ((is.zip ds).foldl (fun s p => s.set p.1 (some p.2)) s) else none
  | _, _, _ => none
def wipe (s : Ev) : List Nat → Ev
  | [] => s
  | v :: vs => (wipe s vs).set v none
/-- what a for walks: its things, and what must stay true meanwhile -/
structure Walk where
  items : List D
  ok : Hs → Prop
def rangeL (lo : Int) : Nat → List D
  | 0 => []
  | n + 1 => .int lo :: rangeL (lo + 1) n
def rangeC (lo c : Int) : Nat → List D
  | 0 => []
  | n + 1 => .int lo :: rangeC (lo + c) c n
def walkSq (h : Hs) : D → Option Walk
  | .tup xs => some ⟨xs, fun _ => True⟩
  | .ref n => match h[n]? with
    | some (.lst xs) => some ⟨xs, fun h => h[n]? = some (.lst xs)⟩
    | some (.frz xs) => some ⟨xs, fun h => h[n]? = some (.frz xs)⟩
    | _ => none
  | _ => none
def enumL : Nat → List D → List D
  | _, [] => []
  | n, x :: xs => .tup [.int n, x] :: enumL (n + 1) xs
def zipL : List D → List D → List D
  | x :: xs, y :: ys => .tup [x, y] :: zipL xs ys
  | _, _ => []
open Classical in
/-- a for's turns -/
noncomputable def forL (ok : Hs → Prop) (g : D → Ev → Hs → SR) : List D → Ev → Hs → SR
  | [], s, h => if ok h then .nx s h else .bad
  | d :: ds, s, h => if ok h then (match g d s h with
    | .nx s h => forL ok g ds s h
    | .ct s h => forL ok g ds s h
    | .bk s h => .nx s h
    | r => r) else .bad
open Classical in
/-- a comprehension's turns: the element, or nothing -/
noncomputable def compL (ok : Hs → Prop) (g : D → Hs → R (Option D)) : List D → Hs → R (List D)
  | [], h => if ok h then .ok [] h else .bad
  | d :: ds, h => if ok h then (match g d h with
    | .ok r h => (match compL ok g ds h with
      | .ok l h => .ok (match r with
        | some x => x :: l
        | none => l) h
      | _ => .bad)
    | _ => .bad) else .bad
/-- a while, n turns at most -/
def whI (c : Ev → Hs → R Bool) (b : Ev → Hs → SR) : Nat → Ev → Hs → Option SR
  | 0, _, _ => none
  | n + 1, s, h => match c s h with
    | .ok true h => (match b s h with
      | .nx s h => whI c b n s h
      | .ct s h => whI c b n s h
      | .bk s h => some (.nx s h)
      | r => some r)
    | .ok false h => some (.nx s h)
    | .exc e fs h => some (.exc e fs s h)
    | .bad => some .bad
open Classical in
noncomputable def whU (c : Ev → Hs → R Bool) (b : Ev → Hs → SR) (s : Ev) (h : Hs) : SR :=
  if H : ∃ n r, whI c b n s h = some r then H.choose_spec.choose else .bad
/-- where a text is run: the program, what a call does -/
structure Cl where
  T : Tab
  call : String → List D → Hs → R D
def optI : D → Hs → R (Option Int)
  | .int i, h => .ok (some i) h
  | _, _ => .bad
def walkOf (r : Option Walk) (h : Hs) : R Walk := match r with
  | some w => .ok w h
  | none => .bad
def small (i : Int) : Prop := -(2 ^ 62) ≤ i ∧ i < 2 ^ 62
instance (i : Int) : Decidable (small i) := inferInstanceAs (Decidable (_ ∧ _))
def rng1 : D → Hs → R Walk
  | .int j, h => if small j then .ok ⟨rangeL 0 j.toNat, fun _ => True⟩ h else .bad
  | _, _ => .bad
def rng2 : D → D → Hs → R Walk
  | .int i, .int j, h => if small i ∧ small j then .ok ⟨rangeL i (j - i).toNat, fun _ => True⟩ h else .bad
  | _, _, _ => .bad
def rng3 : D → D → D → Hs → R Walk
  | .int i, .int j, .int c, h => if small i ∧ small j ∧ 0 < c ∧ c < 1000 then .ok ⟨rangeC i c ((j - i + c - 1) / c).toNat, fun _ => True⟩ h else .bad
  | _, _, _, _ => .bad
def enumOf (h : Hs) (d : D) : Option Walk := match d with
  | .ref n => (walkSq h (.ref n)).map fun w => ⟨enumL 0 w.items, w.ok⟩
  | .tup xs => some ⟨enumL 0 xs, fun _ => True⟩
  | _ => none
def zipOf (h : Hs) (a b : D) : Option Walk := match a, b with
  | .ref n, .ref m => (match walkSq h (.ref n), walkSq h (.ref m) with
    | some w, some u => some ⟨zipL w.items u.items, fun h => w.ok h ∧ u.ok h⟩
    | _, _ => none)
  | .tup xs, .tup ys => some ⟨zipL xs ys, fun _ => True⟩
  | _, _ => none
def itemsDic (h : Hs) : D → Option Walk
  | .ref n => match h[n]? with
    | some (.dic t kvs) => some ⟨kvs.map fun p => .tup [p.1, p.2], fun h => h[n]? = some (.dic t kvs)⟩
    | _ => none
  | _ => none
/-- a new thing of a class -/
def mkO (c : Cn) (ds : List D) (h : Hs) : R D := match c, ds with
  | .Desk, [] => .ok (.obj .Desk [.ref h.length]) (h ++ [.dic false []])
  | .Desk, _ => .bad
  | c, ds => if ds.length = c.flds.length ∧ c.isExc = false then .ok (.obj c ds) h else .bad
def fldD (f : String) (d : D) (h : Hs) : R D := match d with
  | .obj c ds => opt (fldOf c.flds ds f) id h
  | _ => .bad
def mthD {α : Type} (C : Cl) (m : String) (d : D) (g : String → Hs → R α) (h : Hs) : R α := match d with
  | .obj c _ => (match C.T.meth c m with
    | some f => g f h
    | none => .bad)
  | _ => .bad
def isN : D → Bool
  | .non => true
  | _ => false
def isBl (b : Bool) : D → Bool
  | .bl c => b == c
  | _ => false
def gget (C : Cl) (x : String) (d : D) (h : Hs) : R D := match C.T.dic x, d with
  | some kvs, .str z => opt (kvs.lookup z) id h
  | _, _ => .bad
def gin (C : Cl) (x : String) (neg : Bool) (d : D) (h : Hs) : R D := match C.T.dic x, d with
  | some kvs, .str z => .ok (.bl ((kvs.lookup z).isSome != neg)) h
  | _, _ => .bad
def newDic : List D → Option (List (D × D))
  | [] => some []
  | k :: v :: r => (newDic r).map fun l => (k, v) :: l
  | _ => none
/-- pairs put one behind another -/
def putAll : List (D × D) → List (D × D) → List (D × D)
  | [], acc => acc
  | (k, v) :: r, acc => putAll r (dput k v acc)
def mkDic (t : Bool) (ds : List D) (h : Hs) : R D := match newDic ds with
  | some kvs => if (kvs.map (·.1)).all (fun k => !t && kOk false k) then .ok (.ref h.length) (h ++ [.dic t (putAll kvs [])]) else .bad
  | none => .bad
def partS : D → Option Str
  | .str x => some x
  | .int i => if strB i then some (toStr i) else none
  | _ => none
def partsS : List D → Option (List Str)
  | [] => some []
  | d :: ds => match partS d, partsS ds with
    | some x, some xs => some (x :: xs)
    | _, _ => none
def catS : List Str → Str
  | [] => S ""
  | x :: xs => x ++ catS xs
/-- a value's truth -/
def truR (x : D) (h : Hs) : R Bool := match tru h x with
  | some c => .ok c h
  | none => .bad
/-- one turn of a comprehension -/
def compG (tg : Tg) (own : List Nat) (c : Ev → Hs → R Bool) (e : Ev → Hs → R D) (s : Ev) (d : D) (h : Hs) : R (Option D) := match asg tg d (wipe s own) with
  | some s2 => (match c s2 h with
    | .ok true h => (match e s2 h with
      | .ok x h => .ok (some x) h
      | _ => .bad)
    | .ok false h => .ok none h
    | _ => .bad)
  | none => .bad
noncomputable def compE (w : Walk) (g : D → Hs → R (Option D)) (h : Hs) : R D := match compL w.ok g w.items h with
  | .ok l h => if w.items.length ≤ SZ then .ok (.ref h.length) (h ++ [.lst l]) else .bad
  | _ => .bad
def negD (x : D) (h : Hs) : R D := match x with
  | .int i => .ok (.int (-i)) h
  | _ => .bad
/-- the second comparison of a chain -/
def chnD (t : D) (f : Hs → R D) (h : Hs) : R D := match t with
  | .bl true => f h
  | .bl false => .ok (.bl false) h
  | _ => .bad
def andD (x : D) (f : Hs → R D) (h : Hs) : R D := match x with
  | .bl true => f h
  | .bl false => .ok (.bl false) h
  | _ => .bad
def orD (x : D) (f : Hs → R D) (h : Hs) : R D := match x with
  | .bl true => .ok (.bl true) h
  | .bl false => f h
  | _ => .bad
def orvD (x : D) (f : Hs → R D) (h : Hs) : R D := match tru h x with
  | some true => .ok x h
  | some false => f h
  | none => .bad
def iteD (x : D) (f g : Hs → R D) (h : Hs) : R D := match tru h x with
  | some true => f h
  | some false => g h
  | none => .bad
def jstD (ds : List D) (h : Hs) : R D := match partsS ds with
  | some l => if lenAll l ≤ SZ then .ok (.str (catS l)) h else .bad
  | none => .bad
def getV (s : Ev) (i : Nat) (h : Hs) : R D := match s[i]? with
  | some (some d) => .ok d h
  | _ => .bad
mutual
noncomputable def evE (C : Cl) : Ex → Ev → Hs → R D
  | .v i, s, h => getV s i h
  | .k d, _, h => .ok d h
  | .g x, _, h => opt (C.T.con x) id h
  | .tup es, s, h => (evs C es s h).bind fun ds h => .ok (.tup ds) h
  | .lst es, s, h => (evs C es s h).bind fun ds h => .ok (.ref h.length) (h ++ [.lst ds])
  | .dic t es, s, h => (evs C es s h).bind fun ds h => mkDic t ds h
  | .bin o a b, s, h => (evE C a s h).bind fun x h => (evE C b s h).bind fun y h => o.run x y h
  | .neg a, s, h => (evE C a s h).bind fun x h => negD x h
  | .cmp o a b, s, h => (evE C a s h).bind fun x h => (evE C b s h).bind fun y h => o.run x y h
  | .chn o p a b c, s, h => (evE C a s h).bind fun x h => (evE C b s h).bind fun y h => (o.run x y h).bind fun t h => chnD t (fun h => (evE C c s h).bind fun z h => p.run y z h) h
  | .isn a n, s, h => (evE C a s h).bind fun x h => .ok (.bl (isN x != n)) h
  | .ist a b n, s, h => (evE C a s h).bind fun x h => .ok (.bl (isBl b x != n)) h
  | .not a, s, h => (evE C a s h).bind fun x h => opt (tru h x) (fun c => .bl (!c)) h
  | .and es, s, h => evAnd C es s h
  | .or es, s, h => evOr C es s h
  | .orv a b, s, h => (evE C a s h).bind fun x h => orvD x (fun h => evE C b s h) h
  | .ite c a b, s, h => (evE C c s h).bind fun x h => iteD x (fun h => evE C a s h) (fun h => evE C b s h) h
  | .sub a i, s, h => (evE C a s h).bind fun x h => (evE C i s h).bind fun y h => getI x y h
  | .slc a lo hi, s, h => (evE C a s h).bind fun x h => (evO C lo s h).bind fun l h => (evO C hi s h).bind fun u h => slice x l u h
  | .fld a f, s, h => (evE C a s h).bind fun x h => fldD f x h
  | .call f es, s, h => (evs C es s h).bind fun ds h => C.call f ds h
  | .mk c es, s, h => (evs C es s h).bind fun ds h => mkO c ds h
  | .mth a m es, s, h => (evE C a s h).bind fun x h => mthD C m x (fun f h => (evs C es s h).bind fun ds h => C.call f (x :: ds) h) h
  | .b f es, s, h => (evs C es s h).bind fun ds h => f.run ds h
  | .bm m a es, s, h => (evE C a s h).bind fun x h => bmD m x (fun h => (evs C es s h).bind fun ds h => m.run x ds h) h
  | .isi a ts, s, h => (evE C a s h).bind fun x h => opt (isTys h x ts) D.bl h
  | .gget x a, s, h => (evE C a s h).bind fun d h => gget C x d h
  | .gin a x n, s, h => (evE C a s h).bind fun d h => gin C x n d h
  | .comp e tg it c own, s, h => (walk C it s h).bind fun w h => compE w (compG tg own (fun s h => evC C c s h) (fun s h => evE C e s h) s) h
  | .jst es, s, h => (evs C es s h).bind fun ds h => jstD ds h
noncomputable def evs (C : Cl) : Exs → Ev → Hs → R (List D)
  | .nil, _, h => .ok [] h
  | .cons e es, s, h => (evE C e s h).bind fun d h => (evs C es s h).bind fun ds h => .ok (d :: ds) h
noncomputable def evAnd (C : Cl) : Exs → Ev → Hs → R D
  | .nil, _, _ => .bad
  | .cons e .nil, s, h => evE C e s h
  | .cons e es, s, h => (evE C e s h).bind fun x h => andD x (fun h => evAnd C es s h) h
noncomputable def evOr (C : Cl) : Exs → Ev → Hs → R D
  | .nil, _, _ => .bad
  | .cons e .nil, s, h => evE C e s h
  | .cons e es, s, h => (evE C e s h).bind fun x h => orD x (fun h => evOr C es s h) h
noncomputable def evC (C : Cl) : Eo → Ev → Hs → R Bool
  | .none, _, h => .ok true h
  | .some e, s, h => (evE C e s h).bind fun x h => truR x h
noncomputable def evO (C : Cl) : Eo → Ev → Hs → R (Option Int)
  | .none, _, h => .ok none h
  | .some e, s, h => (evE C e s h).bind fun d h => optI d h
noncomputable def walk (C : Cl) : It → Ev → Hs → R Walk
  | .sq e, s, h => (evE C e s h).bind fun d h => walkOf (walkSq h d) h
  | .r1 a, s, h => (evE C a s h).bind fun x h => rng1 x h
  | .r2 a b, s, h => (evE C a s h).bind fun x h => (evE C b s h).bind fun y h => rng2 x y h
  | .r3 a b c, s, h => (evE C a s h).bind fun x h => (evE C b s h).bind fun y h => (evE C c s h).bind fun z h => rng3 x y z h
  | .enum e, s, h => (evE C e s h).bind fun d h => walkOf (enumOf h d) h
  | .zip a b, s, h => (evE C a s h).bind fun x h => (evE C b s h).bind fun y h => walkOf (zipOf h x y) h
  | .items e, s, h => (evE C e s h).bind fun d h => walkOf (itemsDic h d) h
end
/-- an expression within a statement -/
@[reducible] def R.st {α : Type} (r : R α) (s : Ev) (f : α → Hs → SR) : SR := match r with
  | .ok a h => f a h
  | .exc c fs h => .exc c fs s h
  | .bad => .bad
@[simp] theorem R.st_ok {α : Type} (a : α) (h : Hs) (s : Ev) (f : α → Hs → SR) : R.st (.ok a h) s f = f a h := rfl
@[simp] theorem R.st_exc {α : Type} (c : Cn) (fs : List D) (h : Hs) (s : Ev) (f : α → Hs → SR) : R.st (.exc c fs h) s f = .exc c fs s h := rfl
@[simp] theorem R.st_bad {α : Type} (s : Ev) (f : α → Hs → SR) : R.st (.bad : R α) s f = .bad := rfl
/-- a test -/
noncomputable def evT (C : Cl) (e : Ex) (s : Ev) (h : Hs) : R Bool := (evE C e s h).bind fun x h => truR x h
/-- what is unpacked -/
def unp (n : Nat) (d : D) (h : Hs) : Option (List D) := match itemsOf h d with
  | some ds => if ds.length = n then some ds else none
  | none => none
def setAll (s : Ev) : List Nat → List D → Ev
  | i :: is, d :: ds => setAll (s.set i (some d)) is ds
  | _, _ => s
/-- what is raised -/
def excO (c : Cn) (ds : List D) : Option (List D) := if c.plainExc then (match ds with
  | [.str _] => some []
  | _ => none) else if c.isExc ∧ ds.length = c.flds.length then some ds else none
def setTR (is : List Nat) (d : D) (s : Ev) (h : Hs) : SR := match unp is.length d h with
  | some ds => .nx (setAll s is ds) h
  | none => .bad
def setIR (x y d : D) (s : Ev) (h : Hs) : SR := match setI x y d h with
  | some h => .nx s h
  | none => .bad
def forG (tg : Tg) (b : Ev → Hs → SR) (d : D) (s : Ev) (h : Hs) : SR := match asg tg d s with
  | some s => b s h
  | none => .bad
def raiseR (c : Cn) (ds : List D) (s : Ev) (h : Hs) : SR := match excO c ds with
  | some fs => .exc c fs s h
  | none => .bad
@[reducible] def SR.then (r : SR) (f : Ev → Hs → SR) : SR := match r with
  | .nx s h => f s h
  | .rt d h => .rt d h
  | .bk s h => .bk s h
  | .ct s h => .ct s h
  | .exc c fs s h => .exc c fs s h
  | .bad => .bad
@[reducible] def SR.caught (r : SR) (f : Cn → List D → Ev → Hs → SR) : SR := match r with
  | .exc c fs s h => f c fs s h
  | .nx s h => .nx s h
  | .rt d h => .rt d h
  | .bk s h => .bk s h
  | .ct s h => .ct s h
  | .bad => .bad
/-- an except's suite; i: the name's place -/
def suite (i : Option Nat) (c : Cn) (fs : List D) (s : Ev) (b : Ev → Hs → SR) (h : Hs) : SR := match i with
  | some i => (match b (s.set i (some (.obj c fs))) h with
    | .nx s h => .nx (s.set i none) h
    | .rt d h => .rt d h
    | _ => .bad)
  | none => (match b s h with
    | .nx s h => .nx s h
    | .rt d h => .rt d h
    | _ => .bad)
mutual
noncomputable def exS (C : Cl) : Sm → Ev → Hs → SR
  | .pass, s, h => .nx s h
  | .set i e, s, h => (evE C e s h).st s fun d h => .nx (s.set i (some d)) h
  | .setT is e, s, h => (evE C e s h).st s fun d h => setTR is d s h
  | .par i j a b, s, h => (evE C a s h).st s fun x h => (evE C b s h).st s fun y h => .nx ((s.set i (some x)).set j (some y)) h
  | .setI o i e, s, h => (evE C e s h).st s fun d h => (evE C o s h).st s fun x h => (evE C i s h).st s fun y h => setIR x y d s h
  | .ex e, s, h => (evE C e s h).st s fun _ h => .nx s h
  | .ret e, s, h => (evE C e s h).st s fun d h => .rt d h
  | .retN, _, h => .rt .non h
  | .ite c a b, s, h => (evT C c s h).st s fun t h => if t then exB C a s h else exB C b s h
  | .whl c a, s, h => whU (fun s h => evT C c s h) (fun s h => exB C a s h) s h
  | .for tg it a, s, h => (walk C it s h).st s fun w h => forL w.ok (forG tg (fun s h => exB C a s h)) w.items s h
  | .brk, s, h => .bk s h
  | .cnt, s, h => .ct s h
  | .raise c es, s, h => (evs C es s h).st s fun ds h => raiseR c ds s h
  | .try a hs, s, h => (exB C a s h).caught fun c fs s h => exH C hs c fs s h
noncomputable def exB (C : Cl) : Bl → Ev → Hs → SR
  | .nil, s, h => .nx s h
  | .cons x r, s, h => (exS C x s h).then fun s h => exB C r s h
noncomputable def exH (C : Cl) : Hds → Cn → List D → Ev → Hs → SR
  | .nil, c, fs, s, h => .exc c fs s h
  | .cons d i b r, c, fs, s, h => if c.under d then suite i c fs s (fun s h => exB C b s h) h else exH C r c fs s h
end
/-- a def's end -/
def SR.fin : SR → R D
  | .nx _ h => .ok .non h
  | .rt d h => .ok d h
  | .exc c fs _ h => .exc c fs h
  | _ => .bad
def start (n : Nat) (ds : List D) : Ev := ds.map some ++ List.replicate (n - ds.length) none
/-- a call, k calls deep at most -/
noncomputable def call (T : Tab) : Nat → String → List D → Hs → R D
  | 0, _, _, _ => .bad
  | k + 1, f, ds, h => match T.fn f with
    | some g => if ds.length = g.np then (exB ⟨T, call T k⟩ g.body (start g.ns ds) h).fin else .bad
    | none => .bad
end Q

/-! dicts whose keys are tuples of numbers, texts and truths -/
namespace Q
open PySem PySem.Spec PyProof.Rows L2
def b2' (b : Bool) : Int := if b = true then 1 else 0
/-- a key: a number (or the truth that is it), a text -/
def keyB : Key → Value → Bool
  | .inl i, .bool b => b2' b == i
  | k, v => keyIs k v
theorem keyB_shape {k : Key} {v : Value} (h : keyB k v = true) : (∃ i t, k = Sum.inl i ∧ v = Value.int i t) ∨ (∃ b, k = Sum.inl (b2' b) ∧ v = Value.bool b) ∨ (∃ x t, k = Sum.inr x ∧ v = Value.str x t) := by
  unfold keyB at h
  split at h
  · rename_i i b
    exact .inr (.inl ⟨b, by rw [beq_iff_eq.mp h], rfl⟩)
  · rcases keyIs_shape h with ⟨i, t, e, e2⟩ | ⟨x, t, e, e2⟩
    · exact .inl ⟨i, t, e, e2⟩
    · exact .inr (.inr ⟨x, t, e, e2⟩)
theorem keyB_int (i : Int) (t : Tok) : keyB (.inl i) (.int i t) = true := keyIs_int i t
theorem keyB_str (x : Str) (t : Tok) : keyB (.inr x) (.str x t) = true := keyIs_str x t
theorem keyB_bool (b : Bool) : keyB (.inl (b2' b)) (.bool b) = true := beq_self_eq_true _
def mixB (prog : Program) (w : World) : PySem.KeyKind prog w Key where
  is := keyB
  hash := keyH w
  inj := fun v a b ha hb => by
    rcases keyB_shape ha with ⟨i, t, rfl, rfl⟩ | ⟨i, rfl, rfl⟩ | ⟨x, t, rfl, rfl⟩
    · rcases keyB_shape hb with ⟨j, u, rfl, e⟩ | ⟨j, rfl, e⟩ | ⟨y, u, rfl, e⟩
      · injection e with e1 _; rw [e1]
      · exact nomatch e
      · exact nomatch e
    · rcases keyB_shape hb with ⟨j, u, rfl, e⟩ | ⟨j, rfl, e⟩ | ⟨y, u, rfl, e⟩
      · exact nomatch e
      · injection e with e1; rw [e1]
      · exact nomatch e
    · rcases keyB_shape hb with ⟨j, u, rfl, e⟩ | ⟨j, rfl, e⟩ | ⟨y, u, rfl, e⟩
      · exact nomatch e
      · exact nomatch e
      · injection e with e1 _; rw [e1]
  byValue := fun k v h => by
    rcases keyB_shape h with ⟨i, t, rfl, rfl⟩ | ⟨i, rfl, rfl⟩ | ⟨x, t, rfl, rfl⟩ <;> rfl
  pyHash := fun hv h => by
    rcases keyB_shape hv with ⟨i, t, rfl, rfl⟩ | ⟨i, rfl, rfl⟩ | ⟨x, t, rfl, rfl⟩
    · exact wpAny_pyHash_int h
    · exact PpSet.pyHash_bool h
    · exact wpAny_pyHash_str h
  eqBool := fun hu hv h => by
    rcases keyB_shape hu with ⟨i, t, rfl, rfl⟩ | ⟨i, rfl, rfl⟩ | ⟨x, t, rfl, rfl⟩
    · rcases keyB_shape hv with ⟨j, u, rfl, rfl⟩ | ⟨j, rfl, rfl⟩ | ⟨y, u, rfl, rfl⟩
      · rw [key_ll] at h; exact wpAny_eqBool_int h
      · rw [key_ll] at h; exact SeqAt.EqAt.int_bool i t j _ _ _ _ h
      · rw [key_lr] at h; exact SeqAt.EqAt.int_str i t y u _ _ _ _ h
    · rcases keyB_shape hv with ⟨j, u, rfl, rfl⟩ | ⟨j, rfl, rfl⟩ | ⟨y, u, rfl, rfl⟩
      · rw [key_ll] at h; exact SeqAt.EqAt.bool_int i j u _ _ _ _ h
      · rw [key_ll] at h; exact SeqAt.EqAt.bool_bool i j _ _ _ _ (by
          have e : (b2' i == b2' j) = (i == j) := by cases i <;> cases j <;> rfl
          rw [← e]; exact h)
      · rw [key_lr] at h; exact SeqAt.EqAt.bool_str i y u _ _ _ _ h
    · rcases keyB_shape hv with ⟨j, u, rfl, rfl⟩ | ⟨j, rfl, rfl⟩ | ⟨y, u, rfl, rfl⟩
      · rw [key_rl] at h; exact SeqAt.EqAt.str_int x t j u _ _ _ _ h
      · rw [key_rl] at h; exact SeqAt.EqAt.str_bool x t j _ _ _ _ h
      · rw [key_rr] at h; exact wpAny_eqBool_str h
  «strs» := fun k x t v h => by
    rcases keyB_shape h with ⟨i, u, rfl, e⟩ | ⟨i, rfl, e⟩ | ⟨y, u, rfl, e⟩
    · exact nomatch e
    · exact nomatch e
    · injection e with e1 _
      subst e1
      cases v <;> rfl
/-- a value as a key -/
def kOfV : V → Option Key
  | .int i => some (.inl i)
  | .bl b => some (.inl (b2' b))
  | .str x => some (.inr x)
  | _ => none
def keysV : List V → Option (List Key)
  | [] => some []
  | v :: r => match kOfV v, keysV r with
    | some k, some ks => some (k :: ks)
    | _, _ => none
theorem kOfV_is {P : Program} {w : World} {v : V} {k : Key} {u : Value} (e : kOfV v = some k) (r : RelV v u) : (mixB P w).is k u = true := by
  cases v <;> cases e
  · cases r; exact keyB_bool _
  · obtain ⟨t, rfl⟩ := r; exact keyB_int _ t
  · obtain ⟨t, rfl⟩ := r; exact keyB_str _ t
theorem items_areB {P : Program} {w : World} : ∀ {vs : List V} {ks : List Key} {us : List Value}, keysV vs = some ks → Vals vs us → ItemsAre (mixB P w) ks us
  | [], ks, _, e, .nil => by cases e; exact .nil
  | v :: vs, ks, _, e, .cons r t => by
    simp only [keysV] at e
    split at e
    · rename_i k ks' h1 h2
      cases e
      exact .cons (kOfV_is h1 r) (items_areB h2 t)
    · cases e

/-- the pairs of a dict: a key, its tuple's place, the value -/
abbrev XE := List Key × Addr × V
def XT : List XE → List (List Key × Addr × Value) → Prop := Paired fun p q => p.1 = q.1 ∧ p.2.1 = q.2.1 ∧ RelV p.2.2 q.2.2
def dXo (P : Program) (w : World) (a : Addr) (xs : List XE) : HO := .ext fun h => xs.length ≤ sizeLine ∧ (a == sysModules) = false ∧
  ∃ ys, XT xs ys ∧ (∃ o es ep, h.get? a = some o ∧ o.ExactDict ∧ o.data = .dict es ep ∧ es.toList = ys.map (entryOfKey (tupleKind (mixB P w)))) ∧ (ys.map (·.1)).Nodup
/-- the tuple at b is the key k -/
def KeyAt (K : PySem.W.Frag) (H : Hp) (b : Addr) (k : List Key) : Prop := ∃ vs, SqT K H b vs ∧ keysV vs = some k
def IsX (K : PySem.W.Frag) (P : Program) (w : World) (H : Hp) (a : Addr) (xs : List XE) : Prop := (H a = some (dXo P w a xs) ∧ ∀ x ∈ xs, KeyAt K H x.2.1 x.1) ∨ (xs = [] ∧ H a = some (.dT []))
def xat (xs : List XE) (k : List Key) : Option V := (xs.find? fun x => decide (x.1 = k)).map (·.2.2)
def xput (xs : List XE) (k : List Key) (b : Addr) (v : V) : List XE := if (xat xs k).isSome then xs.map (fun x => if x.1 = k then (x.1, x.2.1, v) else x) else xs ++ [(k, b, v)]
theorem XT.at {xs : List XE} {ys : List (List Key × Addr × Value)} (r : XT xs ys) (k : List Key) : RelO (xat xs k) ((atKey ys k).map (·.2)) := by
  induction r with
  | nil => exact True.intro
  | @cons p q ps qs h t ih =>
    obtain ⟨h1, _, h2⟩ := h
    by_cases e : p.1 = k
    · have e' : q.1 = k := h1.symm.trans e
      have b : atKey (q :: qs) k = some q.2 := by simp [atKey, List.find?_cons, e']
      have a : xat (p :: ps) k = some p.2.2 := by simp [xat, List.find?_cons, e]
      rw [a, b]; exact h2
    · have e' : ¬ q.1 = k := fun z => e (h1.trans z)
      have b : atKey (q :: qs) k = atKey qs k := by simp [atKey, List.find?_cons, e']
      have a : xat (p :: ps) k = xat ps k := by simp [xat, List.find?_cons, e]
      rw [a, b]; exact ih
theorem XT.repl {xs : List XE} {ys : List (List Key × Addr × Value)} (r : XT xs ys) (k : List Key) {y : V} {u : Value} (ry : RelV y u) : XT (xs.map fun x => if x.1 = k then (x.1, x.2.1, y) else x) (ys.map (putAt k u)) := by
  induction r with
  | nil => exact .nil
  | @cons p q ps qs h t ih =>
    rw [List.map_cons, List.map_cons]
    refine .cons ?_ ih
    obtain ⟨h1, h2, h3⟩ := h
    unfold putAt
    by_cases e : p.1 = k
    · rw [if_pos e, if_pos (h1.symm.trans e)]; exact ⟨h1, h2, ry⟩
    · rw [if_neg e, if_neg (fun z => e (h1.trans z))]; exact ⟨h1, h2, h3⟩
theorem XT.put {xs : List XE} {ys : List (List Key × Addr × Value)} (r : XT xs ys) (k : List Key) {b : Addr} {y : V} {u : Value} (ry : RelV y u) : XT (xput xs k b y) (storedH ys k b u) := by
  have e : (xat xs k).isSome = (atKey ys k).isSome := by rw [(r.at k).isSome_eq, Option.isSome_map]
  unfold xput storedH
  rw [e]
  by_cases q : (atKey ys k).isSome = true
  · rw [if_pos q, if_pos q]; exact r.repl k ry
  · rw [if_neg q, if_neg q]; exact Paired.snoc r ⟨rfl, rfl, ry⟩
theorem xput_len (xs : List XE) (k : List Key) (b : Addr) (v : V) : (xput xs k b v).length ≤ xs.length + 1 := by
  unfold xput
  split
  · simp
  · simp
theorem XT.mem {xs : List XE} {ys : List (List Key × Addr × Value)} (r : XT xs ys) : ∀ y ∈ ys, ∃ x ∈ xs, x.1 = y.1 ∧ x.2.1 = y.2.1 := by
  induction r with
  | nil => intro y hy; cases hy
  | @cons p q ps qs h t ih =>
    intro y hy
    rcases List.mem_cons.mp hy with e | hy
    · subst e; exact ⟨p, List.mem_cons_self, h.1, h.2.1⟩
    · obtain ⟨x, hx, e⟩ := ih y hy
      exact ⟨x, List.mem_cons_of_mem _ hx, e⟩
section
variable {X : Cx} {pins : List (Addr × Obj)} {σ : L2.St} {H : Hp} {s : Shared} {a b : Addr} {k : List Key} {xs : List XE} {A : Around} {E : Value → Shared → Prop}
theorem key_is (I : Inv X pins σ H s) (h : KeyAt X.K H b k) : (tupleKind (mixB X.prog X.w)).is s.heap k b := by
  obtain ⟨vs, h1, h2⟩ := h
  obtain ⟨its, r, ⟨o, ho, hc, n, hd⟩, _⟩ := I.tuple h1
  exact ⟨o, its.toArray, n, ho, hc, hd, by simpa using items_areB h2 r⟩
theorem dx_of (I : Inv X pins σ H s) (e : IsX X.K X.prog X.w H a xs) : xs.length ≤ sizeLine ∧ (a == sysModules) = false ∧ ∃ ys, XT xs ys ∧ s.heap.DictOfH (tupleKind (mixB X.prog X.w)) a ys := by
  rcases e with ⟨e, hk⟩ | ⟨e0, e⟩
  · obtain ⟨z, hd, ys, r, ⟨o, es, ep, h1, h2, h3, h4⟩, h5⟩ := (I.hok a _ e).1
    refine ⟨z, hd, ys, r, o, es, ep, h1, h2, h3, h4, fun y hy => ?_, h5⟩
    obtain ⟨x, hx, e1, e2⟩ := r.mem y hy
    rw [← e1, ← e2]
    exact key_is I (hk x hx)
  · subst e0
    obtain ⟨z, hd, xs, r, o, es, ep, h1, h2, h3, h4, _⟩ := dt_of I.hok e
    cases r
    exact ⟨Nat.zero_le _, hd, [], .nil, o, es, ep, h1, h2, h3, h4, (fun _ q => nomatch q), List.nodup_nil⟩
theorem dx_typeIs (I : Inv X pins σ H s) (e : IsX X.K X.prog X.w H a xs) : s.TypeIs (.ref a) "dict" := by
  obtain ⟨_, _, ys, _, d⟩ := dx_of I e
  exact d.typeIs
theorem dx_getItem {v : V} {Q : Value → Shared → Prop} (hu : A.units + 1 < cLine) (I : Inv X pins σ H s) (e : IsX X.K X.prog X.w H a xs) (hk : KeyAt X.K H b k) (l : xat xs k = some v) (h : ∀ w' s', Inv X pins σ H s' → RelV v w' → Q w' s') :
    wpAny (model X.prog X.w) A (getItem (.ref a) (.ref b)) Q E s := by
  obtain ⟨z, hd, ys, rel, dd⟩ := dx_of I e
  obtain ⟨w', hw, rw'⟩ := RelO.some_of (v := v) (o := (atKey ys k).map (·.2)) (by rw [← l]; exact rel.at k)
  obtain ⟨p, hp, hp2⟩ := Option.map_eq_some_iff.mp hw
  refine wpAny_getItem_heap (tupleKind_room_in1 hu) (key_is I hk) dd hp ?_
  rw [hp2]
  exact h w' _ (I.tok _) rw'
theorem dx_in {Q : Value → Shared → Prop} (hu : A.units + 1 < cLine) (I : Inv X pins σ H s) (e : IsX X.K X.prog X.w H a xs) (hk : KeyAt X.K H b k) (h : ∀ s', Inv X pins σ H s' → Q (.bool (xat xs k).isSome) s') :
    wpAny (model X.prog X.w) A (compareOp .In (.ref b) (.ref a)) Q E s := by
  obtain ⟨z, hd, ys, rel, dd⟩ := dx_of I e
  refine wpAny_in_heap (tupleKind_room_in1 hu) (key_is I hk) hd dd ?_
  have q := (rel.at k).isSome_eq
  rw [Option.isSome_map] at q
  rw [← q]
  exact h _ (I.tok _)
theorem dx_notIn {Q : Value → Shared → Prop} (hu : A.units + 1 < cLine) (I : Inv X pins σ H s) (e : IsX X.K X.prog X.w H a xs) (hk : KeyAt X.K H b k) (h : ∀ s', Inv X pins σ H s' → Q (.bool (!(xat xs k).isSome)) s') :
    wpAny (model X.prog X.w) A (compareOp .NotIn (.ref b) (.ref a)) Q E s := by
  obtain ⟨z, hd, ys, rel, dd⟩ := dx_of I e
  refine wpAny_notIn_heap (tupleKind_room_in1 hu) (key_is I hk) hd dd ?_
  have q := (rel.at k).isSome_eq
  rw [Option.isSome_map] at q
  rw [← q]
  exact h _ (I.tok _)
theorem IsX.mut {K : PySem.W.Frag} {P : Program} {w : World} (e : IsX K P w H a xs) : Mut (H a) := by
  rcases e with ⟨e, _⟩ | ⟨_, e⟩ <;> rw [e] <;> exact True.intro
theorem dx_setItem {v : V} {u : Value} {Q : Unit → Shared → Prop} (hu : A.units + 1 < cLine) (I : Inv X pins σ H s) (e : IsX X.K X.prog X.w H a xs) (hk : KeyAt X.K H b k) (rv : RelV v u) (hl : xs.length < sizeLine)
    (h : ∀ s', Inv X pins σ (upd H a (dXo X.prog X.w a (xput xs k b v))) s' → Q () s') : wpAny (model X.prog X.w) A (setItem (.ref a) (.ref b) u) Q E s := by
  obtain ⟨z, hd, ys, rel, dd⟩ := dx_of I e
  have hz : ys.length ≤ sizeLine := by rw [← Paired.length rel]; exact z
  have hl2 : (xput xs k b v).length ≤ sizeLine := by have := xput_len xs k b v; omega
  refine wpAny_setItem_heap (hsz := hz) (tupleKind_room_in1 hu) (key_is I hk) dd fun h' dd' hs => h _ ?_
  obtain ⟨q, es, ep, hq, h2, h3, h4, _, h5⟩ := dd'
  refine d_write I e.mut hs ⟨q, hq⟩ ⟨⟨hl2, hd, _, rel.put k rv, ⟨q, es, ep, hq, h2, h3, h4⟩, h5⟩, ⟨q, hq⟩, fun h1 h2 p kk => ?_⟩
  obtain ⟨z1, z2, ys', r', ⟨o', es', ep', ho', rest⟩, nd'⟩ := p
  exact ⟨z1, z2, ys', r', ⟨o', es', ep', kk o' ho', rest⟩, nd'⟩
end
end Q

/-! how my values and my heap stand for those of the layer -/
namespace Q
open PySem PySem.Spec PyProof.Rows L2

/-- the static world: the written part, the classes -/
structure Wd where
  K : PySem.W.Frag
  C : Cn → Addr
  has : Cn → Bool
  P : Program
  w : World

/-- an exception that was caught: kept by the layer's heap -/
def exT (a C : Addr) (d : Option Addr) : HO := .ext fun h => ∃ oe vs, h.get? a = some oe ∧ oe.cls = .ref C ∧ oe.dict = d ∧ oe.data = .fields vs

/-- values as rows are -/
def rowV : List V → Bool
  | [.str x] => x != S "leaf"
  | [.str _, .int _] => true
  | [.str _, .int _, .int _] => true
  | _ => false
/-- a tuple made as the program runs; or one of the program's own, which is never as rows are -/
def TupAt (W : Wd) (r : List Addr) (H : Hp) (a : Addr) (vs : List V) : Prop :=
  (H a = some (.tup vs) ∧ a ∉ r) ∨ ((∃ (o : Obj) (its : Array Value) (n : Nat), W.K.lookup a = some o ∧ o.cls = .type "tuple" ∧ o.data = .seq its n ∧ its.size ≤ sizeLine ∧ Vals vs its.toList) ∧ rowV vs = false)
theorem TupAt.sq {W : Wd} {r : List Addr} {H : Hp} {a : Addr} {vs : List V} (h : TupAt W r H a vs) : SqT W.K H a vs := by
  rcases h with h | h
  · exact .inl (.inl h.1)
  · exact .inr h.1
/-- a field's name -/
def fN (f : String) : Str := Str.ofString f
/-- the attributes of a thing, as they were put -/
def zipF : List String → List V → List (Str × V)
  | f :: fs, v :: vs => (fN f, v) :: zipF fs vs
  | _, _ => []
def LkAll : List String → List V → List (Str × V) → Prop
  | f :: fs, v :: vs, l => l.lookup (fN f) = some v ∧ LkAll fs vs l
  | _, _, _ => True

mutual
inductive Rv (W : Wd) (r : List Addr) (H : Hp) : D → V → Prop where
  | non : Rv W r H .non .non
  | bl (b : Bool) : Rv W r H (.bl b) (.bl b)
  | int (i : Int) : Rv W r H (.int i) (.int i)
  | str (x : Str) (k : PyData.strOk x = true) : Rv W r H (.str x) (.str x)
  | tup {ds : List D} {vs : List V} {a : Addr} (h : TupAt W r H a vs) (e : Rvs W r H ds vs) : Rv W r H (.tup ds) (.ref a)
  | obj {c : Cn} {ds : List D} {vs : List V} {a dx : Addr} (pr : W.has c = true) (x : c.isExc = false) (h : H a = some (.ins (W.C c) dx (zipF c.flds vs))) (n : a ∉ r) (l : ds.length = c.flds.length) (e : Rvs W r H ds vs) : Rv W r H (.obj c ds) (.ref a)
  | exc0 {c : Cn} {a : Addr} (pr : W.has c = true) (x : c.isExc = true) (f : c.flds = []) (h : H a = some (exT a (W.C c) none)) (n : a ∉ r) : Rv W r H (.obj c []) (.ref a)
  | exc1 {c : Cn} {ds : List D} {vs : List V} {a dx : Addr} {l : List (Str × V)} (pr : W.has c = true) (x : c.isExc = true) (h : H a = some (exT a (W.C c) (some dx))) (n : a ∉ r) (hd : H dx = some (.xd l)) (nd : dx ∉ r) (e : Rvs W r H ds vs) (k : LkAll c.flds vs l)
      (ll : ds.length = c.flds.length) : Rv W r H (.obj c ds) (.ref a)
  | ref {n : Nat} {a : Addr} (h : r[n]? = some a) : Rv W r H (.ref n) (.ref a)
inductive Rvs (W : Wd) (r : List Addr) (H : Hp) : List D → List V → Prop where
  | nil : Rvs W r H [] []
  | cons {d : D} {ds : List D} {v : V} {vs : List V} (h : Rv W r H d v) (t : Rvs W r H ds vs) : Rvs W r H (d :: ds) (v :: vs)
end

/-- what goes on: further places, all else that is known stays -/
structure Ext (r : List Addr) (H : Hp) (r' : List Addr) (H' : Hp) : Prop where
  pre : ∃ e, r' = r ++ e
  keep : ∀ a o, H a = some o → a ∉ r → H' a = some o ∧ a ∉ r'
theorem Ext.refl (r : List Addr) (H : Hp) : Ext r H r H := ⟨⟨[], by simp⟩, fun a o h n => ⟨h, n⟩⟩
theorem Ext.trans {r r1 r2 : List Addr} {H H1 H2 : Hp} (a : Ext r H r1 H1) (b : Ext r1 H1 r2 H2) : Ext r H r2 H2 := by
  obtain ⟨⟨e, rfl⟩, k⟩ := a
  obtain ⟨⟨f, rfl⟩, k2⟩ := b
  exact ⟨⟨e ++ f, by simp⟩, fun c o h n => let ⟨h1, n1⟩ := k c o h n; k2 c o h1 n1⟩
theorem Ext.at {r r' : List Addr} {H H' : Hp} (x : Ext r H r' H') {n : Nat} {a : Addr} (h : r[n]? = some a) : r'[n]? = some a := by
  obtain ⟨⟨e, rfl⟩, _⟩ := x
  rw [List.getElem?_append_left (by have := List.getElem?_eq_some_iff.mp h; exact this.1)]
  exact h
theorem TupAt.mono {W : Wd} {r r' : List Addr} {H H' : Hp} {a : Addr} {vs : List V} (h : TupAt W r H a vs) (x : Ext r H r' H') : TupAt W r' H' a vs := by
  rcases h with ⟨h, n⟩ | h
  · exact .inl (x.keep a _ h n)
  · exact .inr h
mutual
theorem Rv.mono {W : Wd} {r r' : List Addr} {H H' : Hp} {d : D} {v : V} (h : Rv W r H d v) (x : Ext r H r' H') : Rv W r' H' d v := by
  cases h with
  | non => exact .non
  | bl b => exact .bl b
  | int i => exact .int i
  | str y k => exact .str y k
  | tup h e => exact .tup (h.mono x) (Rvs.mono e x)
  | obj pr xx h n l e => exact .obj pr xx (x.keep _ _ h n).1 (x.keep _ _ h n).2 l (Rvs.mono e x)
  | exc0 pr xx f h n => exact .exc0 pr xx f (x.keep _ _ h n).1 (x.keep _ _ h n).2
  | exc1 pr xx h n hd nd e k ll => exact .exc1 pr xx (x.keep _ _ h n).1 (x.keep _ _ h n).2 (x.keep _ _ hd nd).1 (x.keep _ _ hd nd).2 (Rvs.mono e x) k ll
  | ref h => exact .ref (x.at h)
theorem Rvs.mono {W : Wd} {r r' : List Addr} {H H' : Hp} {d : List D} {v : List V} (h : Rvs W r H d v) (x : Ext r H r' H') : Rvs W r' H' d v := by
  cases h with
  | nil => exact .nil
  | cons h t => exact .cons (Rv.mono h x) (Rvs.mono t x)
end
theorem Rvs.length {W : Wd} {r : List Addr} {H : Hp} : ∀ {d : List D} {v : List V}, Rvs W r H d v → v.length = d.length
  | _, _, .nil => rfl
  | _, _, .cons h t => by rw [List.length_cons, List.length_cons, Rvs.length t]
theorem Rvs.get {W : Wd} {r : List Addr} {H : Hp} : ∀ {ds : List D} {vs : List V} {i : Nat} {d : D}, Rvs W r H ds vs → ds[i]? = some d → ∃ v, vs[i]? = some v ∧ Rv W r H d v
  | _, _, _, _, .nil, e => by simp at e
  | _, _, 0, _, .cons h t, e => by
    simp at e
    subst e
    exact ⟨_, rfl, h⟩
  | _, _, i + 1, d, .cons h t, e => by
    obtain ⟨v, e1, e2⟩ := Rvs.get (i := i) (d := d) t (by simpa using e)
    exact ⟨v, by simpa using e1, e2⟩
theorem Rvs.append {W : Wd} {r : List Addr} {H : Hp} : ∀ {ds es : List D} {vs us : List V}, Rvs W r H ds vs → Rvs W r H es us → Rvs W r H (ds ++ es) (vs ++ us)
  | _, _, _, _, .nil, s => s
  | _, _, _, _, .cons h t, s => .cons h (Rvs.append t s)
theorem Rvs.set {W : Wd} {r : List Addr} {H : Hp} {d : D} {v : V} (x : Rv W r H d v) : ∀ {ds : List D} {vs : List V} (i : Nat), Rvs W r H ds vs → Rvs W r H (ds.set i d) (vs.set i v)
  | _, _, _, .nil => .nil
  | _, _, 0, .cons h t => .cons x t
  | _, _, i + 1, .cons h t => .cons h (Rvs.set x i t)
theorem Rvs.drop {W : Wd} {r : List Addr} {H : Hp} : ∀ {ds : List D} {vs : List V} (i : Nat), Rvs W r H ds vs → Rvs W r H (ds.drop i) (vs.drop i)
  | _, _, 0, h => h
  | _, _, _ + 1, .nil => .nil
  | _, _, i + 1, .cons h t => Rvs.drop i t
theorem Rvs.take {W : Wd} {r : List Addr} {H : Hp} : ∀ {ds : List D} {vs : List V} (i : Nat), Rvs W r H ds vs → Rvs W r H (ds.take i) (vs.take i)
  | _, _, 0, _ => .nil
  | _, _, _ + 1, .nil => .nil
  | _, _, i + 1, .cons h t => .cons h (Rvs.take i t)
theorem Rvs.rep {W : Wd} {r : List Addr} {H : Hp} {ds : List D} {vs : List V} (h : Rvs W r H ds vs) : ∀ n : Nat, Rvs W r H (List.replicate n ds).flatten (List.replicate n vs).flatten
  | 0 => .nil
  | n + 1 => by
    rw [List.replicate_succ, List.replicate_succ, List.flatten_cons, List.flatten_cons]
    exact h.append (Rvs.rep h n)
theorem Rvs.dropLast {W : Wd} {r : List Addr} {H : Hp} {ds : List D} {vs : List V} (h : Rvs W r H ds vs) : Rvs W r H ds.dropLast vs.dropLast := by
  rw [List.dropLast_eq_take, List.dropLast_eq_take, h.length]
  exact h.take _

/-! ### the heap -/
def keyD : Key → D
  | .inl i => .int i
  | .inr x => .str x
/-- a key's value, as a key -/
def kOfD : D → Option Key
  | .int i => some (.inl i)
  | .bl b => some (.inl (b2' b))
  | .str x => some (.inr x)
  | _ => none
def keysD : List D → Option (List Key)
  | [] => some []
  | d :: r => match kOfD d, keysD r with
    | some k, some ks => some (k :: ks)
    | _, _ => none
/-- the pairs of a dict with tuples for keys -/
def XAt (W : Wd) (r : List Addr) (H : Hp) (a : Addr) (xs : List XE) : Prop := (H a = some (dXo W.P W.w a xs) ∧ ∀ x ∈ xs, ∃ vs, TupAt W r H x.2.1 vs ∧ keysV vs = some x.1) ∨ (xs = [] ∧ H a = some (.dT []))
def KX (W : Wd) (r : List Addr) (H : Hp) : List (D × D) → List XE → Prop := Paired fun p x => (∃ kds, p.1 = .tup kds ∧ keysD kds = some x.1) ∧ Rv W r H p.2 x.2.2
theorem XAt.isX {W : Wd} {r : List Addr} {H : Hp} {a : Addr} {xs : List XE} (h : XAt W r H a xs) : IsX W.K W.P W.w H a xs := by
  rcases h with ⟨e, h⟩ | h
  · exact .inl ⟨e, fun x hx => let ⟨vs, t, k⟩ := h x hx; ⟨vs, t.sq, k⟩⟩
  · exact .inr h
theorem XAt.there {W : Wd} {r : List Addr} {H : Hp} {a : Addr} {xs : List XE} (h : XAt W r H a xs) : ∃ u, H a = some u := by
  rcases h with ⟨e, _⟩ | ⟨_, e⟩ <;> exact ⟨_, e⟩
theorem XAt.mono {W : Wd} {r r' : List Addr} {H H' : Hp} {a : Addr} {xs : List XE} (h : XAt W r H a xs) (x : Ext r H r' H') (e : H' a = H a) : XAt W r' H' a xs := by
  rcases h with ⟨q, h⟩ | ⟨h, q⟩
  · exact .inl ⟨e.trans q, fun y hy => let ⟨vs, t, k⟩ := h y hy; ⟨vs, t.mono x, k⟩⟩
  · exact .inr ⟨h, e.trans q⟩
theorem KX.mono {W : Wd} {r r' : List Addr} {H H' : Hp} {kvs : List (D × D)} {xs : List XE} (h : KX W r H kvs xs) (x : Ext r H r' H') : KX W r' H' kvs xs := Paired.mapP h fun _ _ z => ⟨z.1, z.2.mono x⟩
def OAt (W : Wd) (r : List Addr) (H : Hp) (a : Addr) : O → Prop
  | .lst ds => ∃ vs, H a = some (.lst vs) ∧ Rvs W r H ds vs
  | .frz ds => ∃ ob vs, H a = some (.frz ob (.lst vs)) ∧ Rvs W r H ds vs
  | .dic false kvs => ∃ (ks : List Key) (ds : List D) (vs : List V), H a = some (.dK (ks.zip vs)) ∧ kvs = (ks.map keyD).zip ds ∧ ks.length = ds.length ∧ (ks.Nodup ∧ ∀ x : Str, Sum.inr x ∈ ks → PyData.strOk x = true) ∧ Rvs W r H ds vs
  | .dic true kvs => ∃ xs, XAt W r H a xs ∧ KX W r H kvs xs ∧ (xs.map (·.1)).Nodup
theorem OAt.there {W : Wd} {r : List Addr} {H : Hp} {a : Addr} {o : O} (h : OAt W r H a o) : ∃ u, H a = some u := by
  cases o with
  | lst ds => obtain ⟨vs, e, _⟩ := h; exact ⟨_, e⟩
  | frz ds => obtain ⟨ob, vs, e, _⟩ := h; exact ⟨_, e⟩
  | dic t kvs =>
    cases t with
    | false => obtain ⟨ks, ds, vs, e, _⟩ := h; exact ⟨_, e⟩
    | true => obtain ⟨xs, h, _⟩ := h; exact h.there
/-- the places stand for my heap -/
structure Mt (W : Wd) (r : List Addr) (H : Hp) (hs : Hs) : Prop where
  len : r.length = hs.length
  nd : r.Nodup
  at_ : ∀ (n : Nat) (a : Addr) (o : O), r[n]? = some a → hs[n]? = some o → OAt W r H a o
theorem OAt.mono {W : Wd} {r r' : List Addr} {H H' : Hp} {a : Addr} {o : O} (h : OAt W r H a o) (x : Ext r H r' H') (e : H' a = H a) : OAt W r' H' a o := by
  cases o with
  | lst ds => obtain ⟨vs, q, k⟩ := h; exact ⟨vs, e.trans q, k.mono x⟩
  | frz ds => obtain ⟨ob, vs, q, k⟩ := h; exact ⟨ob, vs, e.trans q, k.mono x⟩
  | dic t kvs =>
    cases t with
    | false => obtain ⟨ks, ds, vs, q, k1, k2, k4, k3⟩ := h; exact ⟨ks, ds, vs, e.trans q, k1, k2, k4, k3.mono x⟩
    | true => obtain ⟨xs, q, k, nd⟩ := h; exact ⟨xs, q.mono x e, k.mono x, nd⟩
section
variable {W : Wd} {r : List Addr} {H : Hp} {hs : Hs}
theorem Mt.get (m : Mt W r H hs) {n : Nat} {o : O} (h : hs[n]? = some o) : ∃ a, r[n]? = some a ∧ OAt W r H a o := by
  have hn := (List.getElem?_eq_some_iff.mp h).1
  rw [← m.len] at hn
  exact ⟨r[n], List.getElem?_eq_getElem hn, m.at_ n _ o (List.getElem?_eq_getElem hn) h⟩
theorem Mt.atR (m : Mt W r H hs) {n : Nat} {a : Addr} (h : r[n]? = some a) : ∃ o, hs[n]? = some o ∧ OAt W r H a o := by
  have hn := (List.getElem?_eq_some_iff.mp h).1
  rw [m.len] at hn
  exact ⟨hs[n], List.getElem?_eq_getElem hn, m.at_ n a _ h (List.getElem?_eq_getElem hn)⟩
theorem Mt.notNew (m : Mt W r H hs) {p : Addr} (h : H p = none) : p ∉ r := fun q => by
  obtain ⟨n, hn, e⟩ := List.mem_iff_getElem.mp q
  obtain ⟨o, _, t⟩ := m.atR (n := n) (a := p) (by rw [List.getElem?_eq_getElem hn, e])
  obtain ⟨u, e2⟩ := t.there
  rw [h] at e2
  cases e2
/-- a new thing that is no place of mine -/
theorem ext_new {p : Addr} (h : H p = none) (o : HO) : Ext r H r (upd H p o) := ⟨⟨[], by simp⟩, fun a u e n => ⟨by rw [upd_ne (ne_of_none e h)]; exact e, n⟩⟩
theorem Mt.new (m : Mt W r H hs) {p : Addr} (h : H p = none) (o : HO) : Mt W r (upd H p o) hs := ⟨m.len, m.nd, fun n a u h1 h2 => by
  obtain t := m.at_ n a u h1 h2
  obtain ⟨v, e⟩ := t.there
  exact t.mono (ext_new h o) (by rw [upd_ne (ne_of_none e h)])⟩
/-- a new place -/
theorem ext_push (m : Mt W r H hs) {p : Addr} (h : H p = none) (o : HO) : Ext r H (r ++ [p]) (upd H p o) := ⟨⟨[p], rfl⟩, fun a u e n => by
  have ne := ne_of_none e h
  refine ⟨by rw [upd_ne ne]; exact e, fun q => ?_⟩
  rcases List.mem_append.mp q with q | q
  · exact n q
  · exact ne (List.mem_singleton.mp q)⟩
theorem Mt.push (m : Mt W r H hs) {p : Addr} {o : HO} {u : O} (h : H p = none) (t : OAt W (r ++ [p]) (upd H p o) p u) : Mt W (r ++ [p]) (upd H p o) (hs ++ [u]) := by
  have hp := m.notNew h
  refine ⟨by simp [m.len], ?_, fun n a v h1 h2 => ?_⟩
  · rw [List.nodup_append]
    refine ⟨m.nd, by simp, fun a ha b hb e => ?_⟩
    rw [List.mem_singleton] at hb
    subst e
    rw [hb] at ha
    exact hp ha
  · by_cases hn : n < r.length
    · rw [List.getElem?_append_left hn] at h1
      rw [List.getElem?_append_left (by rw [← m.len]; exact hn)] at h2
      obtain t := m.at_ n a v h1 h2
      obtain ⟨w, e⟩ := t.there
      exact t.mono (ext_push m h o) (by rw [upd_ne (ne_of_none e h)])
    · rw [List.getElem?_append_right (by omega)] at h1
      rw [List.getElem?_append_right (by rw [← m.len]; omega)] at h2
      rw [m.len] at h1
      cases e : n - hs.length with
      | zero =>
        rw [e] at h1 h2
        simp at h1 h2
        subst h1 h2
        exact t
      | succ k =>
        rw [e] at h1
        simp at h1
/-- a place is written -/
theorem ext_set (m : Mt W r H hs) {n : Nat} {p : Addr} (h : r[n]? = some p) (o : HO) : Ext r H r (upd H p o) := ⟨⟨[], by simp⟩, fun a u e q => by
  have ne : a ≠ p := fun z => q (by rw [z]; exact List.mem_of_getElem? h)
  exact ⟨by rw [upd_ne ne]; exact e, q⟩⟩
theorem Mt.set (m : Mt W r H hs) {n : Nat} {p : Addr} {o : HO} {u : O} (h : r[n]? = some p) (t : OAt W r (upd H p o) p u) : Mt W r (upd H p o) (hs.set n u) := by
  refine ⟨by simp [m.len], m.nd, fun k a v h1 h2 => ?_⟩
  have hn := (List.getElem?_eq_some_iff.mp h).1
  by_cases hk : k = n
  · subst hk
    rw [h] at h1
    cases h1
    rw [List.getElem?_set_self (by rw [← m.len]; exact hn)] at h2
    cases h2
    exact t
  · rw [List.getElem?_set_ne (Ne.symm hk)] at h2
    have ne : a ≠ p := fun z => hk (by
      have h1' := List.getElem?_eq_some_iff.mp h1
      have h' := List.getElem?_eq_some_iff.mp h
      exact (List.getElem_inj m.nd).mp (by rw [h1'.2, h'.2, z]))
    obtain t := m.at_ k a v h1 h2
    exact t.mono (ext_set m h o) (by rw [upd_ne ne])
end

/-- the frame's values -/
def EnvR (W : Wd) (r : List Addr) (H : Hp) (s : Ev) (σ : L2.St) : Prop := s.length = σ.length ∧ ∀ (i : Nat) (d : D), s[i]? = some (some d) → ∃ v, σ[i]? = some (some v) ∧ Rv W r H d v
theorem EnvR.mono {W : Wd} {r r' : List Addr} {H H' : Hp} {s : Ev} {σ : L2.St} (h : EnvR W r H s σ) (x : Ext r H r' H') : EnvR W r' H' s σ := ⟨h.1, fun i d e => by
  obtain ⟨v, e1, e2⟩ := h.2 i d e
  exact ⟨v, e1, e2.mono x⟩⟩
theorem EnvR.set {W : Wd} {r : List Addr} {H : Hp} {s : Ev} {σ : L2.St} (h : EnvR W r H s σ) {d : D} {v : V} (x : Rv W r H d v) (i : Nat) : EnvR W r H (s.set i (some d)) (σ.set i (some v)) := by
  refine ⟨by simp [h.1], fun j e hj => ?_⟩
  by_cases hi : j = i
  · subst hi
    have hl : j < s.length := by
      by_cases hl : j < s.length
      · exact hl
      · rw [List.getElem?_eq_none (by simpa using hl)] at hj
        cases hj
    rw [List.getElem?_set_self hl] at hj
    cases hj
    exact ⟨v, by rw [List.getElem?_set_self (by rw [← h.1]; exact hl)], x⟩
  · rw [List.getElem?_set_ne (Ne.symm hi)] at hj ⊢
    exact h.2 j e hj
theorem EnvR.gone {W : Wd} {r : List Addr} {H : Hp} {s : Ev} {σ : L2.St} (h : EnvR W r H s σ) (i : Nat) : EnvR W r H (s.set i none) (σ.set i none) := by
  refine ⟨by simp [h.1], fun j e hj => ?_⟩
  by_cases hi : j = i
  · subst hi
    by_cases hl : j < s.length
    · rw [List.getElem?_set_self hl] at hj
      cases hj
    · rw [List.getElem?_eq_none (by simpa using hl)] at hj
      cases hj
  · rw [List.getElem?_set_ne (Ne.symm hi)] at hj ⊢
    exact h.2 j e hj

/-- an exception as it leaves -/
def ExR (W : Wd) (r : List Addr) (H : Hp) (c : Cn) (fs : List D) (cls : Value) (dx : Option Addr) : Prop :=
  (c.isExc = true ∧ W.has c = true) ∧ cls = .ref (W.C c) ∧ ((c.flds = [] ∧ fs = [] ∧ dx = none) ∨
    ∃ (d : Addr) (l : List (Str × V)) (vs : List V), dx = some d ∧ H d = some (.xd l) ∧ d ∉ r ∧ Rvs W r H fs vs ∧ LkAll c.flds vs l ∧ fs.length = c.flds.length)
theorem ExR.mono {W : Wd} {r r' : List Addr} {H H' : Hp} {c : Cn} {fs : List D} {cls : Value} {dx : Option Addr} (h : ExR W r H c fs cls dx) (x : Ext r H r' H') : ExR W r' H' c fs cls dx := by
  obtain ⟨h1, h2, h3⟩ := h
  refine ⟨h1, h2, ?_⟩
  rcases h3 with h3 | ⟨d, l, vs, e1, e2, e3, e4, e5, e6⟩
  · exact .inl h3
  · exact .inr ⟨d, l, vs, e1, (x.keep _ _ e2 e3).1, (x.keep _ _ e2 e3).2, e4.mono x, e5, e6⟩

/-- what is wanted behind my result -/
def Post {α β : Type} (rel : List Addr → Hp → α → β → Prop) (W : Wd) (X : WX) (σ : L2.St) (r : List Addr) (H : Hp) (res : R α) (Q : β → Hp → Prop) : Prop := match res with
  | .ok d hs' => ∀ r' H' v, Ext r H r' H' → Mt W r' H' hs' → rel r' H' d v → Q v H'
  | .exc c fs hs' => ∀ r' H' cls dx, Ext r H r' H' → Mt W r' H' hs' → ExR W r' H' c fs cls dx → X cls dx σ H'
  | .bad => False
theorem Post.mono {α β : Type} {rel : List Addr → Hp → α → β → Prop} {W : Wd} {X : WX} {σ : L2.St} {r r' : List Addr} {H H' : Hp} {res : R α} {Q Q' : β → Hp → Prop} (p : Post rel W X σ r H res Q) (x : Ext r H r' H') (hQ : ∀ v H, Q v H → Q' v H) :
    Post rel W X σ r' H' res Q' := by
  cases res with
  | ok d hs' => exact fun r2 H2 v x2 m rv => hQ _ _ (p r2 H2 v (x.trans x2) m rv)
  | exc c fs hs' => exact fun r2 H2 cls dx x2 m e => p r2 H2 cls dx (x.trans x2) m e
  | bad => exact p
/-- a reading of the layer's, from a function of mine -/
def rd {α β : Type} (rel : List Addr → Hp → α → β → Prop) (W : Wd) (X : WX) (f : Ev → Hs → R α) : L2.St → Hp → (β → Hp → Prop) → Prop :=
  fun σ H Q => ∃ r hs s, Mt W r H hs ∧ EnvR W r H s σ ∧ Post rel W X σ r H (f s hs) Q
abbrev rdE (W : Wd) (X : WX) (f : Ev → Hs → R D) : TE := rd (Rv W) W X f
abbrev rdA (W : Wd) (X : WX) (f : Ev → Hs → R (List D)) : TA := rd (Rvs W) W X f
abbrev rdT (W : Wd) (X : WX) (f : Ev → Hs → R Bool) : TT := rd (fun _ _ (a b : Bool) => a = b) W X f
/-- one thing behind another -/
theorem rd_bind {α β γ δ : Type} {rel : List Addr → Hp → α → β → Prop} {rel2 : List Addr → Hp → γ → δ → Prop} {W : Wd} {X : WX} {f : Ev → Hs → R α} {g : α → Hs → R γ} {σ : L2.St} {H : Hp} {r : List Addr} {hs : Hs} {s : Ev} {Q : δ → Hp → Prop} {K : β → Hp → Prop}
    (m : Mt W r H hs) (e : EnvR W r H s σ) (p : Post rel2 W X σ r H ((f s hs).bind g) Q)
    (k : ∀ d r1 H1 hs1 v, Ext r H r1 H1 → Mt W r1 H1 hs1 → EnvR W r1 H1 s σ → rel r1 H1 d v → f s hs = .ok d hs1 → Post rel2 W X σ r1 H1 (g d hs1) Q → K v H1) : rd rel W X f σ H K := by
  refine ⟨r, hs, s, m, e, ?_⟩
  cases q : f s hs with
  | ok d hs1 =>
    rw [q] at p
    exact fun r' H' v x m' rv => k d r' H' hs1 v x m' (e.mono x) rv q (p.mono x fun _ _ z => z)
  | exc c fs hs1 =>
    rw [q] at p
    exact p
  | bad =>
    rw [q] at p
    exact p
theorem pe_weak {X : Cx} {e : Expr} {t t' : TE} (h : PE X e t) (w : ∀ σ H Q, t' σ H Q → t σ H Q) : PE X e t' := ⟨fun pins s σ H Q I q => h.run pins s σ H Q I (w σ H Q q)⟩
theorem pt_weak {X : Cx} {e : Expr} {t t' : TT} (h : PT X e t) (w : ∀ σ H Q, t' σ H Q → t σ H Q) : PT X e t' := ⟨fun pins s σ H Q I q => h.run pins s σ H Q I (w σ H Q q)⟩
theorem pa_weak {X : Cx} {e : List Expr} {t t' : TA} (h : PA X e t) (w : ∀ σ H Q, t' σ H Q → t σ H Q) : PA X e t' := ⟨fun pos pins s σ H Q I q => h.run pos pins s σ H Q I (w σ H Q q)⟩
end Q

/-! the operations by values: mine against the layer's -/
namespace Q
open PySem PySem.Spec PyProof.Rows L2

theorem sz_eq : SZ = sizeLine := by rw [sizeLine_eq]; rfl
theorem sl_eq : sizeLine = SZ := sz_eq.symm
abbrev PD (W : Wd) (X : WX) (σ : L2.St) (r : List Addr) (H : Hp) (res : R D) (Q : VK) : Prop := Post (Rv W) W X σ r H res Q

/-! ### ends that make something -/
section
variable {W : Wd} {X : WX} {σ : L2.St} {r : List Addr} {H : Hp} {hs : Hs} {Q : VK} {d : D} {v : V}
theorem pd_ok (p : PD W X σ r H (.ok d hs) Q) (m : Mt W r H hs) (x : Rv W r H d v) : Q v H := p r H v (Ext.refl _ _) m x
/-- a tuple made -/
theorem pd_tup {ds : List D} {vs : List V} (p : PD W X σ r H (.ok (.tup ds) hs) Q) (m : Mt W r H hs) (e : Rvs W r H ds vs) : ∀ a, H a = none → Q (.ref a) (upd H a (.tup vs)) := fun a n =>
  p r _ _ (ext_new n _) (m.new n _) (.tup (.inl ⟨upd_same, m.notNew n⟩) (e.mono (ext_new n _)))
/-- a list made -/
theorem pd_lst {ds : List D} {vs : List V} (p : PD W X σ r H (.ok (.ref hs.length) (hs ++ [.lst ds])) Q) (m : Mt W r H hs) (e : Rvs W r H ds vs) : ∀ a, H a = none → Q (.ref a) (upd H a (.lst vs)) := fun a n =>
  p (r ++ [a]) _ _ (ext_push m n _) (m.push n ⟨vs, upd_same, e.mono (ext_push m n _)⟩) (.ref (by rw [← m.len]; simp))
/-- a place written -/
theorem pd_set {d' : D} {v' : V} {n : Nat} {a : Addr} {o : HO} {u : O} (p : PD W X σ r H (.ok d' (hs.set n u)) Q) (m : Mt W r H hs) (h : r[n]? = some a) (t : OAt W r (upd H a o) a u) (x : Rv W r (upd H a o) d' v') : Q v' (upd H a o) :=
  p r _ _ (ext_set m h o) (m.set h t) x
theorem set_lst {n : Nat} {a : Addr} {ds : List D} {vs : List V} (m : Mt W r H hs) (h : r[n]? = some a) (e : Rvs W r H ds vs) : OAt W r (upd H a (.lst vs)) a (.lst ds) := ⟨vs, upd_same, e.mono (ext_set m h _)⟩
/-- the list at a place -/
theorem Mt.lst (m : Mt W r H hs) {n : Nat} {a : Addr} {ds : List D} (h : r[n]? = some a) (e : hs[n]? = some (.lst ds)) : ∃ vs, H a = some (.lst vs) ∧ Rvs W r H ds vs := m.at_ n a _ h e
theorem Mt.frz (m : Mt W r H hs) {n : Nat} {a : Addr} {ds : List D} (h : r[n]? = some a) (e : hs[n]? = some (.frz ds)) : ∃ ob vs, H a = some (.frz ob (.lst vs)) ∧ Rvs W r H ds vs := m.at_ n a _ h e
end


/-! ### arithmetic -/
section
variable {X : Cx} {W : Wd} {Y : WX} {σ : L2.St} {r : List Addr} {H : Hp} {hs : Hs} {Q : VK} {d e : D} {v u : V}
abbrev RAdd (K : PySem.W.Frag) : R2 := fun x y H Q => ((rI0 (fun i j => .int (i + j)) x y H Q) ∨ (∃ i j, x = .str i ∧ y = .str j ∧ i.length + j.length ≤ sizeLine ∧ Q (.str (i ++ j)) H) ∨ rCat x y H Q) ∨ rCatA K x y H Q
theorem op_addU : OpR X (binaryOp .Add) (RAdd X.K) := (op_add.or (op_add_str.or op_cat)).or op_catA
abbrev RMul : R2 := fun x y H Q => rI (fun i j => mulB i ∧ mulB j) (fun i j => .int (i * j)) x y H Q ∨ rRep x y H Q
theorem mul_ok {i j : Int} (h1 : mulB i) (h2 : mulB j) : IntMulOk i j := by
  unfold mulB at h1 h2
  unfold IntMulOk
  intro h
  rw [Bool.and_eq_true, Bool.and_eq_true] at h
  have h3 := h.2
  unfold Builtin.Int.intTooBig at h3
  have h4 := of_decide_eq_true h3
  have h5 : bitsLine = 134217728 := rfl
  rw [h5] at h4
  unfold Builtin.Int.intBits at h4
  split at h4 <;> split at h4 <;> omega
theorem op_mulU : OpR X (binaryOp .Mult) RMul := (opI fun _ _ _ _ _ _ _ hc q => mul_int q (mul_ok hc.1 hc.2)).or op_rep
abbrev RDiv : R2 := rI (fun i j => j ≠ 0 ∧ divB j) (fun i j => .int (i.fdiv j))
theorem op_divU : OpR X (binaryOp .FloorDiv) RDiv := opI fun _ _ _ _ _ _ _ hc q => floordiv_int hc.1 q (.inl (PyProof.noPylong_of_log2 hc.2))
abbrev RMod : R2 := rI (fun _ j => j ≠ 0) (fun i j => .int (i.fmod j))
abbrev RPow : R2 := rI CPow fun i j => .int (i ^ j.toNat)
def Bop.op : Bop → Operator
  | .add => .Add
  | .sub => .Sub
  | .mul => .Mult
  | .fdiv => .FloorDiv
  | .mod => .Mod
  | .pow => .Pow
def RB (K : PySem.W.Frag) : Bop → R2
  | .add => RAdd K
  | .sub => rI0 fun i j => .int (i - j)
  | .mul => RMul
  | .fdiv => RDiv
  | .mod => RMod
  | .pow => RPow
theorem op_bin : ∀ o : Bop, OpR X (binaryOp o.op) (RB X.K o)
  | .add => op_addU
  | .sub => op_sub
  | .mul => op_mulU
  | .fdiv => op_divU
  | .mod => op_modN
  | .pow => op_pow
theorem strOk_app {x y : Str} (a : PyData.strOk x = true) (b : PyData.strOk y = true) : PyData.strOk (x ++ y) = true := by
  unfold PyData.strOk at *
  show (x.cps ++ y.cps).all _ = true
  rw [Array.all_append, a, b] <;> rfl
theorem q_add (m : Mt W r H hs) (x : Rv W r H d v) (y : Rv W r H e u) (p : PD W Y σ r H (Bop.add.run d e hs) Q) : RAdd W.K v u H Q := by
  cases d <;> cases e <;> first | exact False.elim p | skip
  case int.int i j =>
    cases x; cases y
    exact .inl (.inl ⟨_, _, rfl, rfl, pd_ok p m (.int _)⟩)
  case str.str i j =>
    cases x with | str _ k => cases y with | str _ k2 =>
    simp only [Bop.run] at p
    split at p
    · rename_i h
      exact .inl (.inr (.inl ⟨_, _, rfl, rfl, by rw [sl_eq]; exact h, pd_ok p m (.str _ (strOk_app k k2))⟩))
    · exact False.elim p
  case tup.tup i j =>
    cases x with | tup t1 e1 => cases y with | tup t2 e2 =>
    simp only [Bop.run] at p
    split at p
    · rename_i h3
      rename_i vs1 a1 vs2 a2
      refine .inr ⟨_, _, vs1, vs2, rfl, rfl, t1.sq, t2.sq, by rw [sl_eq, e1.length, e2.length]; exact h3, fun z => ?_, fun _ z => ?_, fun _ _ => pd_tup p m (e1.append e2)⟩
      · subst z
        cases e1
        exact pd_ok p m (.tup t2 e2)
      · subst z
        cases e2
        rw [List.append_nil] at p
        exact pd_ok p m (.tup t1 e1)
    · exact False.elim p
  case ref.ref i j =>
    cases x with | ref a1 => cases y with | ref a2 =>
    simp only [Bop.run] at p
    split at p
    · rename_i xs ys h1 h2
      split at p
      · rename_i h
        obtain ⟨vs, g1, e1⟩ := m.lst a1 h1
        obtain ⟨us, g2, e2⟩ := m.lst a2 h2
        exact .inl (.inr (.inr ⟨_, _, vs, us, rfl, rfl, g1, g2, by rw [sl_eq, e1.length, e2.length]; exact h, pd_lst p m (e1.append e2)⟩))
      · exact False.elim p
    · exact False.elim p
theorem q_bin (m : Mt W r H hs) (x : Rv W r H d v) (y : Rv W r H e u) : ∀ o : Bop, PD W Y σ r H (o.run d e hs) Q → RB W.K o v u H Q
  | .add, p => q_add m x y p
  | .sub, p => by
    cases d <;> cases e <;> first | exact False.elim p | skip
    cases x; cases y
    exact ⟨_, _, rfl, rfl, pd_ok p m (.int _)⟩
  | .mul, p => by
    cases d <;> cases e <;> first | exact False.elim p | skip
    case int.int i j =>
      cases x; cases y
      simp only [Bop.run] at p
      split at p
      · rename_i h
        exact .inl ⟨_, _, rfl, rfl, h, pd_ok p m (.int _)⟩
      · exact False.elim p
    case ref.int n j =>
      cases x with | ref a1 =>
      cases y
      simp only [Bop.run] at p
      split at p
      · rename_i xs h1
        split at p
        · rename_i h
          obtain ⟨vs, g1, e1⟩ := m.lst a1 h1
          exact .inr ⟨_, _, vs, rfl, rfl, g1, h.1, h.2.1, by rw [sl_eq, e1.length]; exact h.2.2, pd_lst p m (e1.rep _)⟩
        · exact False.elim p
      · exact False.elim p
  | .fdiv, p => by
    cases d <;> cases e <;> first | exact False.elim p | skip
    cases x; cases y
    simp only [Bop.run] at p
    split at p
    · rename_i h
      exact ⟨_, _, rfl, rfl, h, pd_ok p m (.int _)⟩
    · exact False.elim p
  | .mod, p => by
    cases d <;> cases e <;> first | exact False.elim p | skip
    cases x; cases y
    simp only [Bop.run] at p
    split at p
    · rename_i h
      exact ⟨_, _, rfl, rfl, h, pd_ok p m (.int _)⟩
    · exact False.elim p
  | .pow, p => by
    cases d <;> cases e <;> first | exact False.elim p | skip
    cases x; cases y
    simp only [Bop.run] at p
    split at p
    · rename_i h
      exact ⟨_, _, rfl, rfl, ⟨h.1, by omega, by omega⟩, pd_ok p m (.int _)⟩
    · exact False.elim p
end

/-! ### equality -/
mutual
def toP : D → PyData
  | .non => .none
  | .bl b => .bool b
  | .int i => .int i
  | .str x => .str x
  | .tup xs => .tuple (toPs xs)
  | .lv xs => .list (toPs xs)
  | .obj _ _ => .none
  | .ref _ => .none
def toPs : List D → List PyData
  | [] => []
  | x :: xs => toP x :: toPs xs
end
mutual
theorem deq_toP : ∀ x y : D, pur x = true → pur y = true → deq x y = PyData.eqv (toP x) (toP y)
  | .tup xs, y, h, k => by
    cases y <;> first | (simp [pur] at k; done) | simp only [toP, deq, PyData.eqv]
    exact deqs_toP xs _ h k
  | .lv xs, y, h, k => by
    cases y <;> first | (simp [pur] at k; done) | simp only [toP, deq, PyData.eqv]
    exact deqs_toP xs _ h k
  | .non, y, h, k => by cases y <;> first | (simp [pur] at k; done) | simp only [toP, deq, PyData.eqv]
  | .bl b, y, h, k => by cases y <;> first | (simp [pur] at k; done) | simp only [toP, deq, PyData.eqv, b2i]
  | .int b, y, h, k => by cases y <;> first | (simp [pur] at k; done) | simp only [toP, deq, PyData.eqv, b2i]
  | .str b, y, h, k => by cases y <;> first | (simp [pur] at k; done) | simp only [toP, deq, PyData.eqv]
  | .obj _ _, _, h, _ => by simp [pur] at h
  | .ref _, _, h, _ => by simp [pur] at h
theorem deqs_toP : ∀ xs ys : List D, purs xs = true → purs ys = true → deqs xs ys = PyData.eqvAll (toPs xs) (toPs ys)
  | [], [], _, _ => by simp only [toPs, deqs, PyData.eqvAll]
  | [], _ :: _, _, _ => by simp only [toPs, deqs, PyData.eqvAll]
  | _ :: _, [], _, _ => by simp only [toPs, deqs, PyData.eqvAll]
  | x :: xs, y :: ys, h, k => by
    simp only [purs, Bool.and_eq_true] at h k
    simp only [toPs, deqs, PyData.eqvAll]
    rw [deq_toP x y h.1 k.1, deqs_toP xs ys h.2 k.2]
end
mutual
theorem ddep_toP : ∀ x : D, (toP x).depth = ddep x
  | .tup xs => by simp only [toP, ddep, PyData.depth, ddeps_toP xs]
  | .lv xs => by simp only [toP, ddep, PyData.depth, ddeps_toP xs]
  | .non | .bl _ | .int _ | .str _ | .obj _ _ | .ref _ => by simp only [toP, ddep, PyData.depth]
theorem ddeps_toP : ∀ xs : List D, PyData.depthAll (toPs xs) = ddeps xs
  | [] => by simp only [toPs, ddeps, PyData.depthAll]
  | x :: xs => by simp only [toPs, ddeps, PyData.depthAll, ddep_toP x, ddeps_toP xs]
end
/-- a value that is read as data -/
structure Gd (K : PySem.W.Frag) (H : Hp) (v : V) (x : D) : Prop where
  dp : Dp K H v (toP x)
  can : (toP x).canLay0 = true
  pu : pur x = true
structure Gds (K : PySem.W.Frag) (H : Hp) (v : List V) (x : List D) : Prop where
  dp : DpAll K H v (toPs x)
  can : PyData.canLayAll0 (toPs x) = true
  pu : purs x = true
section
variable {W : Wd} {r : List Addr} {H : Hp} {hs : Hs}
mutual
theorem rs_gd {f : Nat → Option D} (hf : ∀ n y a, f n = some y → r[n]? = some a → Gd W.K H (.ref a) y) {d : D} {v : V} {x : D} (h : Rv W r H d v) (e : rsF f d = some x) : Gd W.K H v x := by
  cases h with
  | non => cases e; exact ⟨.non, rfl, rfl⟩
  | bl b => cases e; exact ⟨.bl b, rfl, rfl⟩
  | int i => cases e; exact ⟨.int i, rfl, rfl⟩
  | str y k => cases e; exact ⟨.str y, by simpa [toP, PyData.canLay0] using k, rfl⟩
  | @tup ds vs a h es =>
    simp only [rsF] at e
    cases q : rsFs f ds with
    | none => rw [q] at e; cases e
    | some ys =>
      rw [q] at e
      cases e
      have g := rs_gds hf es q
      exact ⟨.tup h.sq g.dp, by simpa [toP, PyData.canLay0] using g.can, g.pu⟩
  | obj => cases e
  | exc0 => cases e
  | exc1 => cases e
  | ref h => exact hf _ _ _ e h
theorem rs_gds {f : Nat → Option D} (hf : ∀ n y a, f n = some y → r[n]? = some a → Gd W.K H (.ref a) y) {d : List D} {v : List V} {x : List D} (h : Rvs W r H d v) (e : rsFs f d = some x) : Gds W.K H v x := by
  cases h with
  | nil => cases e; exact ⟨.nil, rfl, rfl⟩
  | @cons d ds v vs h t =>
    simp only [rsFs] at e
    cases q : rsF f d with
    | none => rw [q] at e; cases e
    | some y =>
      cases q2 : rsFs f ds with
      | none => rw [q, q2] at e; cases e
      | some ys =>
        rw [q, q2] at e
        cases e
        have g := rs_gd hf h q
        have g2 := rs_gds hf t q2
        exact ⟨.cons g.dp g2.dp, by simp only [toPs, PyData.canLayAll0, g.can, g2.can, Bool.and_self], by simp only [purs, g.pu, g2.pu, Bool.and_self]⟩
end
theorem rdN_gd (m : Mt W r H hs) : ∀ (k n : Nat) (y : D) (a : Addr), rdN hs k n = some y → r[n]? = some a → Gd W.K H (.ref a) y
  | 0, _, _, _, e, _ => by cases e
  | k + 1, n, y, a, e, ha => by
    unfold rdN at e
    split at e
    · rename_i xs hx
      obtain ⟨vs, h1, h2⟩ := m.lst ha hx
      cases q : rsFs (rdN hs k) xs with
      | none => rw [q] at e; cases e
      | some ys =>
        rw [q] at e
        cases e
        have g := rs_gds (rdN_gd m k) h2 q
        exact ⟨.lst (SqL.of h1) g.dp, by simpa [toP, PyData.canLay0] using g.can, g.pu⟩
    · rename_i xs hx
      obtain ⟨ob, vs, h1, h2⟩ := m.frz ha hx
      cases q : rsFs (rdN hs k) xs with
      | none => rw [q] at e; cases e
      | some ys =>
        rw [q] at e
        cases e
        have g := rs_gds (rdN_gd m k) h2 q
        exact ⟨.lst (.inl (.inr ⟨ob, h1⟩)) g.dp, by simpa [toP, PyData.canLay0] using g.can, g.pu⟩
    · cases e
theorem rsv_gd (m : Mt W r H hs) {d : D} {v : V} {x : D} (h : Rv W r H d v) (e : rsv hs d = some x) : Gd W.K H v x := rs_gd (rdN_gd m 6) h e
end
/-- == of data; neg: != -/
def REq (K : PySem.W.Frag) (neg : Bool) : R2 := fun v u H Q => ∃ x y : PyData, Dp K H v x ∧ Dp K H u y ∧ x.canLay0 = true ∧ y.canLay0 = true ∧ min x.depth y.depth ≤ 150 ∧ Q (.bl (PyData.eqv x y != neg)) H
theorem op_eqU {X : Cx} (hu : X.A.units + 151 < cLine) : OpR X (compareOp .Eq) (REq X.K false) := by
  intro pins s σ H v u a b Q I rx ry h
  obtain ⟨x, y, h1, h2, c1, c2, dd, q⟩ := h
  obtain ⟨as, r1⟩ := Dp.reads I _ _ _ h1 rx
  obtain ⟨bs, r2⟩ := Dp.reads I _ _ _ h2 ry
  exact SeqAt.compareEq_reads r1 r2 c1 c2 (by omega) ⟨.bl _, H, I, by simp [L2.RelV], q⟩
theorem op_neU {X : Cx} (hu : X.A.units + 151 < cLine) : OpR X (compareOp .NotEq) (REq X.K true) := by
  intro pins s σ H v u a b Q I rx ry h
  obtain ⟨x, y, h1, h2, c1, c2, dd, q⟩ := h
  obtain ⟨as, r1⟩ := Dp.reads I _ _ _ h1 rx
  obtain ⟨bs, r2⟩ := Dp.reads I _ _ _ h2 ry
  exact SeqAt.compareNe_reads r1 r2 c1 c2 (by omega) ⟨.bl _, H, I, by simp [L2.RelV], q⟩
theorem eqv_some {hs : Hs} {d e : D} {b : Bool} (h : eqv hs d e = some b) : ∃ x y, rsv hs d = some x ∧ rsv hs e = some y ∧ min (ddep x) (ddep y) ≤ 150 ∧ b = deq x y := by
  unfold eqv at h
  split at h
  · rename_i x y h1 h2
    split at h
    · rename_i h3
      cases h
      exact ⟨x, y, h1, h2, h3, rfl⟩
    · cases h
  · cases h
section
variable {X : Cx} {W : Wd} {Y : WX} {σ : L2.St} {r : List Addr} {H : Hp} {hs : Hs} {Q : VK} {d e : D} {v u : V}
theorem q_eq (m : Mt W r H hs) (x : Rv W r H d v) (y : Rv W r H e u) {b neg : Bool} (h : eqv hs d e = some b) (q : Q (.bl (b != neg)) H) : REq W.K neg v u H Q := by
  obtain ⟨x', y', h1, h2, h3, h4⟩ := eqv_some h
  have g1 := rsv_gd m x h1
  have g2 := rsv_gd m y h2
  refine ⟨_, _, g1.dp, g2.dp, g1.can, g2.can, by rw [ddep_toP, ddep_toP]; exact h3, ?_⟩
  rw [← deq_toP _ _ g1.pu g2.pu, ← h4]
  exact q
end

/-! ### in -/
def RInS (K : PySem.W.Frag) (neg : Bool) : R2 := fun v u H Q => ∃ (x : PyData) (ys : List PyData), Dp K H v x ∧ (Dp K H u (.list ys) ∨ Dp K H u (.tuple ys)) ∧ x.canLay0 = true ∧ PyData.canLayAll0 ys = true ∧
  min (PyData.depthAll ys) x.depth ≤ 150 ∧ Q (.bl ((ys.any fun y => PyData.eqv y x) != neg)) H
def RInT (neg : Bool) : R2 := fun x y H Q => ∃ (c : Nat) (z : Str), x = .str ⟨#[c]⟩ ∧ y = .str z ∧ Q (.bl (decide (c ∈ z.cps.toList) != neg)) H
def RInD (neg : Bool) : R2 := fun x y H Q => ∃ a o, y = .ref a ∧ DGet H a x o ∧ Q (.bl (o.isSome != neg)) H
theorem op_inS {X : Cx} (hu : X.A.units + 152 < cLine) : OpR X (compareOp .In) (RInS X.K false) := by
  intro pins s σ H v u a b Q I rx ry h
  obtain ⟨x, ys, h1, h2, c1, c2, dd, q⟩ := h
  obtain ⟨as, r1⟩ := Dp.reads I _ _ _ h1 rx
  rcases h2 with h2 | h2
  · obtain ⟨bs, r2⟩ := Dp.reads I _ _ _ h2 ry
    exact SeqAt.in_list_reads r2 r1 c2 c1 (by omega) ⟨.bl _, H, I, by simp [L2.RelV], q⟩
  · obtain ⟨bs, r2⟩ := Dp.reads I _ _ _ h2 ry
    exact SeqAt.in_tuple_reads r2 r1 c2 c1 (by omega) ⟨.bl _, H, I, by simp [L2.RelV], q⟩
theorem op_notInS {X : Cx} (hu : X.A.units + 152 < cLine) : OpR X (compareOp .NotIn) (RInS X.K true) := by
  intro pins s σ H v u a b Q I rx ry h
  obtain ⟨x, ys, h1, h2, c1, c2, dd, q⟩ := h
  obtain ⟨as, r1⟩ := Dp.reads I _ _ _ h1 rx
  rcases h2 with h2 | h2
  · obtain ⟨bs, r2⟩ := Dp.reads I _ _ _ h2 ry
    exact SeqAt.notIn_list_reads r2 r1 c2 c1 (by omega) ⟨.bl _, H, I, by simp [L2.RelV], q⟩
  · obtain ⟨bs, r2⟩ := Dp.reads I _ _ _ h2 ry
    exact SeqAt.notIn_tuple_reads r2 r1 c2 c1 (by omega) ⟨.bl _, H, I, by simp [L2.RelV], q⟩
theorem op_inT {X : Cx} : OpR X (compareOp .In) (RInT false) := by
  intro pins s σ H v u a b Q I rx ry h
  obtain ⟨c, z, h1, h2, q⟩ := h
  exact op_in_sign pins s σ H v u a b Q I rx ry ⟨c, z, h1, h2, by simpa using q⟩
theorem op_notInT {X : Cx} : OpR X (compareOp .NotIn) (RInT true) := by
  intro pins s σ H v u a b Q I rx ry h
  obtain ⟨c, z, h1, h2, q⟩ := h
  exact op_notIn_sign pins s σ H v u a b Q I rx ry ⟨c, z, h1, h2, by simpa using q⟩
theorem op_inD' {X : Cx} (hu : X.A.units + 1 < cLine) : OpR X (compareOp .In) (RInD false) := by
  intro pins s σ H v u a b Q I rx ry h
  obtain ⟨c, o, h1, h2, q⟩ := h
  subst h1
  cases ry
  exact d_in hu I h2 rx fun s' I' => ⟨.bl _, H, I', by simp [L2.RelV], q⟩
theorem op_notInD' {X : Cx} (hu : X.A.units + 1 < cLine) : OpR X (compareOp .NotIn) (RInD true) := by
  intro pins s σ H v u a b Q I rx ry h
  obtain ⟨c, o, h1, h2, q⟩ := h
  subst h1
  cases ry
  exact d_notIn hu I h2 rx fun s' I' => ⟨.bl _, H, I', by simp [L2.RelV], q⟩
def RInX (K : PySem.W.Frag) (P : Program) (w : World) (neg : Bool) : R2 := fun x y H Q => ∃ a b k xs, y = .ref a ∧ x = .ref b ∧ IsX K P w H a xs ∧ KeyAt K H b k ∧ Q (.bl ((xat xs k).isSome != neg)) H
theorem op_inX {X : Cx} (hu : X.A.units + 1 < cLine) : OpR X (compareOp .In) (RInX X.K X.prog X.w false) := by
  intro pins s σ H v u a b Q I rx ry h
  obtain ⟨c, d, k, xs, rfl, rfl, h1, h2, q⟩ := h
  cases ry; cases rx
  exact dx_in hu I h1 h2 fun s' I' => ⟨.bl _, H, I', by simp [L2.RelV], q⟩
theorem op_notInX {X : Cx} (hu : X.A.units + 1 < cLine) : OpR X (compareOp .NotIn) (RInX X.K X.prog X.w true) := by
  intro pins s σ H v u a b Q I rx ry h
  obtain ⟨c, d, k, xs, rfl, rfl, h1, h2, q⟩ := h
  cases ry; cases rx
  exact dx_notIn hu I h1 h2 fun s' I' => ⟨.bl _, H, I', by simp [L2.RelV], q⟩
abbrev RIn (K : PySem.W.Frag) (P : Program) (w : World) (neg : Bool) : R2 := fun x y H Q => RInS K neg x y H Q ∨ RInT neg x y H Q ∨ RInD neg x y H Q ∨ RInX K P w neg x y H Q
/-- two values surely equal -/
def SameV (K : PySem.W.Frag) (H : Hp) (v u : V) : Prop := (∃ a, v = .ref a ∧ u = .ref a) ∨ ∃ x y : PyData, Dp K H v x ∧ Dp K H u y ∧ x.canLay0 = true ∧ y.canLay0 = true ∧ min x.depth y.depth ≤ 140 ∧ PyData.eqv x y = true
def REqX (K : PySem.W.Frag) (neg : Bool) : R2 := fun v u H Q => ∃ a b vs us, v = .ref a ∧ u = .ref b ∧ SqL K H a vs ∧ SqL K H b us ∧ ((vs.length ≠ us.length ∧ Q (.bl neg) H) ∨ (Paired (SameV K H) vs us ∧ Q (.bl (!neg)) H))
theorem same_eqAt {X : Cx} {pins : List (Addr × Obj)} {σ : L2.St} {H : Hp} {s : Shared} (I : Inv X pins σ H s) {A : Around} (hu : A.units + 140 < cLine) {v u : V} (h : SameV X.K H v u) {a b : Value} (rx : RelV v a) (ry : RelV u b) : SeqAt.EqAt A s a b true := by
  rcases h with ⟨c, rfl, rfl⟩ | ⟨x, y, h1, h2, c1, c2, dd, e⟩
  · cases rx; cases ry
    exact SeqAt.EqAt.same _
  · obtain ⟨as, r1⟩ := Dp.reads I _ _ _ h1 rx
    obtain ⟨bs, r2⟩ := Dp.reads I _ _ _ h2 ry
    rw [← e]
    exact SeqAt.eqAt_reads x y A s a b as bs r1 r2 c1 c2 (by omega)
theorem same_eqAts {X : Cx} {pins : List (Addr × Obj)} {σ : L2.St} {H : Hp} {s : Shared} (I : Inv X pins σ H s) {A : Around} (hu : A.units + 140 < cLine) {vs us : List V} (hp : Paired (SameV X.K H) vs us) :
    ∀ {as bs : List Value}, Vals vs as → Vals us bs → ∀ j (h1 : j < as.length) (h2 : j < bs.length), SeqAt.EqAt A s as[j] bs[j] true := by
  induction hp with
  | nil =>
    intro as bs r1 r2 j h1 h2
    cases r1
    exact absurd h1 (Nat.not_lt_zero j)
  | cons h _ k =>
    intro as bs r1 r2 j h1 h2
    cases r1 with
    | cons a1 b1 =>
      cases r2 with
      | cons a2 b2 =>
        cases j with
        | zero => exact same_eqAt I hu h a1 a2
        | succ j => exact k b1 b2 j (Nat.lt_of_succ_lt_succ h1) (Nat.lt_of_succ_lt_succ h2)
theorem op_eqX {X : Cx} (hu : X.A.units + 152 < cLine) : OpR X (compareOp .Eq) (REqX X.K false) := by
  intro pins s σ H v u a b Q I rx ry h
  obtain ⟨c, d, vs, us, rfl, rfl, g1, g2, q⟩ := h
  cases rx; cases ry
  obtain ⟨as, r1, p1, _⟩ := I.list g1
  obtain ⟨bs, r2, p2, _⟩ := I.list g2
  have n1 : as.toArray.size = vs.length := by rw [List.size_toArray, r1.length]
  have n2 : bs.toArray.size = us.length := by rw [List.size_toArray, r2.length]
  rcases q with ⟨ne, q⟩ | ⟨hp, q⟩
  · exact SeqAt.RcAt.lists_lengths p1.isList p2.isList (by rw [n1, n2]; simpa using ne) (by omega) _ _ _ _ ⟨.bl _, H, I, by simp [L2.RelV], q⟩
  · have hsz : as.toArray.size = bs.toArray.size := by rw [n1, n2]; exact Paired.length hp
    have k := SeqAt.RcAt.lists (A := X.A) (e := fun _ => true) p1.isList p2.isList hsz (by omega) (fun j h1 h2 => by
      have k := same_eqAts I (A := X.A.in1) (by show X.A.units + 1 + 140 < cLine; omega) hp r1 r2 j (by simpa using h1) (by simpa using h2)
      simpa using k)
    rw [show ((List.range as.toArray.size).all fun _ => true) = true from List.all_eq_true.mpr fun _ _ => rfl] at k
    exact k _ _ _ _ ⟨.bl _, H, I, by simp [L2.RelV], q⟩
theorem op_neX {X : Cx} (hu : X.A.units + 152 < cLine) : OpR X (compareOp .NotEq) (REqX X.K true) := by
  intro pins s σ H v u a b Q I rx ry h
  obtain ⟨c, d, vs, us, rfl, rfl, g1, g2, q⟩ := h
  cases rx; cases ry
  obtain ⟨as, r1, p1, _⟩ := I.list g1
  obtain ⟨bs, r2, p2, _⟩ := I.list g2
  have n1 : as.toArray.size = vs.length := by rw [List.size_toArray, r1.length]
  have n2 : bs.toArray.size = us.length := by rw [List.size_toArray, r2.length]
  rcases q with ⟨ne, q⟩ | ⟨hp, q⟩
  · exact SeqAt.RcNeAt.lists_lengths p1.isList p2.isList (by rw [n1, n2]; simpa using ne) (by omega) _ _ _ _ ⟨.bl _, H, I, by simp [L2.RelV], q⟩
  · have hsz : as.toArray.size = bs.toArray.size := by rw [n1, n2]; exact Paired.length hp
    have k := SeqAt.RcNeAt.lists (A := X.A) (e := fun _ => true) p1.isList p2.isList hsz (by omega) (fun j h1 h2 => by
      have k := same_eqAts I (A := X.A.in1) (by show X.A.units + 1 + 140 < cLine; omega) hp r1 r2 j (by simpa using h1) (by simpa using h2)
      simpa using k)
    rw [show ((List.range as.toArray.size).all fun _ => true) = true from List.all_eq_true.mpr fun _ _ => rfl] at k
    exact k _ _ _ _ ⟨.bl _, H, I, by simp [L2.RelV], q⟩
def Cop.op : Cop → CmpOp
  | .lt => .Lt
  | .le => .LtE
  | .gt => .Gt
  | .ge => .GtE
  | .eq => .Eq
  | .ne => .NotEq
  | .isin => .In
  | .notin => .NotIn
  | .eqx => .Eq
  | .nex => .NotEq
def RC (K : PySem.W.Frag) (P : Program) (w : World) : Cop → R2
  | .lt => rI0 fun i j => .bl (decide (i < j))
  | .le => rI0 fun i j => .bl (decide (i ≤ j))
  | .gt => rI0 fun i j => .bl (decide (j < i))
  | .ge => rI0 fun i j => .bl (decide (j ≤ i))
  | .eq => REq K false
  | .ne => REq K true
  | .isin => RIn K P w false
  | .notin => RIn K P w true
  | .eqx => REqX K false
  | .nex => REqX K true
theorem op_cmp {X : Cx} (hu : X.A.units + 152 < cLine) : ∀ o : Cop, OpR X (compareOp o.op) (RC X.K X.prog X.w o)
  | .lt => op_lt
  | .le => op_le
  | .gt => op_gt
  | .ge => op_ge
  | .eq => op_eqU (by omega)
  | .ne => op_neU (by omega)
  | .isin => (op_inS hu).or (op_inT.or ((op_inD' (by omega)).or (op_inX (by omega))))
  | .notin => (op_notInS hu).or (op_notInT.or ((op_notInD' (by omega)).or (op_notInX (by omega))))
  | .eqx => op_eqX hu
  | .nex => op_neX hu
section
variable {X : Cx} {W : Wd} {Y : WX} {σ : L2.St} {r : List Addr} {H : Hp} {hs : Hs} {Q : VK} {d e : D} {v u : V}
theorem inSeq_gd (m : Mt W r H hs) (x : Rv W r H d v) : ∀ {ys : List D} {us : List V} {b : Bool}, Rvs W r H ys us → inSeq hs d ys = some b →
    ∃ (x' : D) (zs : List D), rsv hs d = some x' ∧ Gds W.K H us zs ∧ min (ddeps zs) (ddep x') ≤ 150 ∧ b = (toPs zs).any fun y => PyData.eqv y (toP x')
  | [], _, b, .nil, h => by
    simp only [inSeq] at h
    cases q : rsv hs d with
    | none => rw [q] at h; cases h
    | some x' =>
      rw [q] at h
      cases h
      exact ⟨x', [], rfl, ⟨.nil, rfl, rfl⟩, by simp [ddeps], rfl⟩
  | y :: ys, _, b, .cons h1 h2, h => by
    simp only [inSeq] at h
    split at h
    · rename_i a c ha hc
      cases h
      obtain ⟨x', zs, g1, g2, g3, g4⟩ := inSeq_gd m x h2 hc
      obtain ⟨z, x'', k1, k2, k3, k4⟩ := eqv_some ha
      rw [g1] at k2
      cases k2
      have gz := rsv_gd m h1 k1
      have gx := rsv_gd m x g1
      refine ⟨x', z :: zs, g1, ⟨.cons gz.dp g2.dp, by simp only [toPs, PyData.canLayAll0, gz.can, g2.can, Bool.and_self], by simp only [purs, gz.pu, g2.pu, Bool.and_self]⟩, by simp only [ddeps]; omega, ?_⟩
      simp only [toPs, List.any_cons]
      rw [← g4, k4, deq_toP _ _ gz.pu gx.pu]
    · cases h
theorem key_deq (a b : Key) : deq (keyD a) (keyD b) = decide (a = b) := by
  cases a <;> cases b <;> simp only [keyD, deq, key_ll, key_rr, key_lr, key_rl]
  · rename_i x y
    by_cases h : x = y
    · subst h; simp
    · simp [h]
/-- a scalar key -/
theorem key_at (k : kOk false d = true) (x : Rv W r H d v) : ∃ q : Key, d = keyD q ∧ v = kV q := by
  cases d <;> first | (simp [kOk] at k; done) | skip
  · cases x; exact ⟨.inl _, rfl, rfl⟩
  · cases x; exact ⟨.inr _, rfl, rfl⟩
theorem dlook_val (q : Key) : ∀ (ks : List Key) (ds : List D) (vs : List V), ks.length = ds.length → Rvs W r H ds vs →
    match dlook (keyD q) ((ks.map keyD).zip ds) with
    | some e => ∃ w, valV (ks.zip vs) q = some w ∧ Rv W r H e w
    | none => valV (ks.zip vs) q = none
  | [], ds, vs, h, x => by simp [dlook, valV]
  | k :: ks, [], _, h, _ => by simp at h
  | k :: ks, d :: ds, _, h, .cons (v := v) (vs := vs) x t => by
    simp only [List.map_cons, List.zip_cons_cons, dlook, key_deq]
    by_cases e : k = q
    · subst e
      simp only [decide_true, if_true]
      exact ⟨v, valV_pos rfl, x⟩
    · rw [decide_eq_false e, valV_neg (p := (k, v)) e]
      simp only [Bool.false_eq_true, if_false]
      exact dlook_val q ks ds vs (by simpa using h) t
/-! ### tuples for keys -/
theorem rowK_rowV : ∀ {ds : List D} {vs : List V}, Rvs W r H ds vs → rowK ds = false → rowV vs = false := by
  intro ds vs x h
  cases hv : rowV vs
  · rfl
  · exfalso
    unfold rowV at hv
    split at hv
    · cases x with | cons a t =>
      cases t
      cases a
      have h' : (_ != S "leaf") = false := h
      rw [h'] at hv
      cases hv
    · cases x with | cons a t =>
      cases t with | cons b t =>
      cases t
      cases a
      cases b
      cases h
    · cases x with | cons a t =>
      cases t with | cons b t =>
      cases t with | cons c t =>
      cases t
      cases a
      cases b
      cases c
      cases h
    · cases hv
theorem kOfD_deq {x y : D} {a b : Key} (h : kOfD x = some a) (g : kOfD y = some b) : deq x y = decide (a = b) := by
  cases x <;> cases h <;> cases y <;> cases g <;> simp only [deq, key_ll, key_rr, key_lr, key_rl]
  · rename_i p q; cases p <;> cases q <;> rfl
  · rfl
  · rename_i p q
    show (p == b2i q) = (p == b2' q)
    cases q <;> rfl
  · rename_i p q; by_cases h : p = q
    · subst h; simp
    · simp [h]
theorem keysD_deq : ∀ {x y : List D} {a b : List Key}, keysD x = some a → keysD y = some b → deqs x y = decide (a = b)
  | [], [], a, b, h, g => by cases h; cases g; simp [deqs]
  | [], y :: ys, a, b, h, g => by
    cases h
    simp only [keysD] at g
    split at g
    · cases g; simp [deqs]
    · cases g
  | x :: xs, [], a, b, h, g => by
    cases g
    simp only [keysD] at h
    split at h
    · cases h; simp [deqs]
    · cases h
  | x :: xs, y :: ys, a, b, h, g => by
    simp only [keysD] at h g
    split at h
    · rename_i k ks h1 h2
      cases h
      split at g
      · rename_i k' ks' g1 g2
        cases g
        simp only [deqs, kOfD_deq h1 g1, keysD_deq h2 g2]
        by_cases e : k = k' <;> by_cases f : ks = ks' <;> simp [e, f]
      · cases g
    · cases h
theorem keys_all : ∀ {ds : List D}, ds.all scaB = true → ∃ ks, keysD ds = some ks
  | [], _ => ⟨[], rfl⟩
  | d :: ds, h => by
    rw [List.all_cons, Bool.and_eq_true] at h
    obtain ⟨ks, e⟩ := keys_all h.2
    cases d <;> first | (simp [scaB] at h; done) | (simp only [keysD, kOfD, e]; exact ⟨_, rfl⟩)
theorem keys_rv : ∀ {ds : List D} {vs : List V} {ks : List Key}, Rvs W r H ds vs → keysD ds = some ks → keysV vs = some ks
  | [], _, _, .nil, e => by cases e; rfl
  | d :: ds, _, ks, .cons x t, e => by
    simp only [keysD] at e
    split at e
    · rename_i k ks' h1 h2
      cases e
      have h3 := keys_rv t h2
      cases d <;> cases h1 <;> cases x <;> simp only [keysV, kOfV, h3]
    · cases e
theorem tkey_at (k : kOk true d = true) (x : Rv W r H d v) : ∃ (kds : List D) (ks : List Key) (vs : List V) (b : Addr), d = .tup kds ∧ keysD kds = some ks ∧ v = .ref b ∧ TupAt W r H b vs ∧ keysV vs = some ks := by
  cases d <;> first | (simp [kOk] at k; done) | skip
  cases x with | tup h e =>
  obtain ⟨ks, q⟩ := keys_all (by simpa [kOk] using k)
  exact ⟨_, ks, _, _, rfl, q, rfl, h, keys_rv e q⟩
theorem dlook_X {kds : List D} {k : List Key} (hk : keysD kds = some k) {kvs : List (D × D)} {xs : List XE} (h : KX W r H kvs xs) :
    match dlook (.tup kds) kvs with
    | some e => ∃ w, xat xs k = some w ∧ Rv W r H e w
    | none => xat xs k = none := by
  induction h with
  | nil => simp [dlook, xat]
  | @cons p x ps xs h t ih =>
    obtain ⟨⟨kd, e1, e2⟩, e3⟩ := h
    obtain ⟨p1, p2⟩ := p
    simp only at e1
    subst e1
    have de : deq (.tup kd) (.tup kds) = decide (x.1 = k) := keysD_deq e2 hk
    simp only [dlook, de]
    by_cases e : x.1 = k
    · have a : xat (x :: xs) k = some x.2.2 := by simp [xat, List.find?_cons, e]
      rw [decide_eq_true e, a]
      exact ⟨_, rfl, e3⟩
    · have a : xat (x :: xs) k = xat xs k := by simp [xat, List.find?_cons, e]
      rw [decide_eq_false e, a]
      exact ih
theorem dic_get (m : Mt W r H hs) {n : Nat} {a : Addr} {kvs : List (D × D)} (ha : r[n]? = some a) (h : hs[n]? = some (.dic false kvs)) (x : Rv W r H d v) (k : kOk false d = true) :
    match dlook d kvs with
    | some e => ∃ w, DGet H a v (some w) ∧ Rv W r H e w
    | none => DGet H a v none := by
  obtain ⟨ks, ds, vs, h1, h2, h3, h4, h5⟩ := m.at_ n a _ ha h
  obtain ⟨q, rfl, rfl⟩ := key_at k x
  have hd := dlook_val q ks ds vs h3 h5
  subst h2
  split at hd
  · rename_i e he
    obtain ⟨w, hw, rw'⟩ := hd
    exact ⟨w, hw ▸ DGet.k h1, rw'⟩
  · rename_i he
    exact hd ▸ DGet.k h1
theorem dic_getX (m : Mt W r H hs) {n : Nat} {a : Addr} {kvs : List (D × D)} (ha : r[n]? = some a) (h : hs[n]? = some (.dic true kvs)) (x : Rv W r H d v) (k : kOk true d = true) :
    ∃ b ks xs, v = .ref b ∧ IsX W.K W.P W.w H a xs ∧ KeyAt W.K H b ks ∧ match dlook d kvs with
    | some e => ∃ w, xat xs ks = some w ∧ Rv W r H e w
    | none => xat xs ks = none := by
  obtain ⟨xs, h1, h2, h3⟩ := m.at_ n a _ ha h
  obtain ⟨kds, ks, vs, b, rfl, e1, rfl, t, e2⟩ := tkey_at k x
  exact ⟨b, ks, xs, rfl, h1.isX, ⟨vs, t.sq, e2⟩, dlook_X e1 h2⟩
theorem q_in (m : Mt W r H hs) (x : Rv W r H d v) (y : Rv W r H e u) {b neg : Bool} (h : isIn hs d e = some b) (q : Q (.bl (b != neg)) H) : RIn W.K W.P W.w neg v u H Q := by
  cases e <;> first | (cases h; done) | skip
  case str z =>
    cases d <;> first | (cases h; done) | skip
    rename_i c
    cases x; cases y
    simp only [isIn, signIn] at h
    split at h
    · rename_i g hc
      cases h
      refine .inr (.inl ⟨g, z, ?_, rfl, ?_⟩)
      · congr 1
        cases c with | mk cps => cases cps; simp only at hc; subst hc; rfl
      · rw [show decide (g ∈ z.cps.toList) = z.cps.toList.contains g from by simp]
        exact q
    · cases h
  case tup ys =>
    cases y with | tup t es =>
    obtain ⟨x', zs, g1, g2, g3, g4⟩ := inSeq_gd m x es h
    have gx := rsv_gd m x g1
    exact .inl ⟨_, _, gx.dp, .inr (.tup t.sq g2.dp), gx.can, g2.can, by rw [ddep_toP, ddeps_toP]; exact g3, by rw [← g4]; exact q⟩
  case ref n =>
    cases y with | ref ha =>
    simp only [isIn] at h
    split at h
    · rename_i ys hy
      obtain ⟨vs, k1, k2⟩ := m.lst ha hy
      obtain ⟨x', zs, g1, g2, g3, g4⟩ := inSeq_gd m x k2 h
      have gx := rsv_gd m x g1
      exact .inl ⟨_, _, gx.dp, .inl (.lst (SqL.of k1) g2.dp), gx.can, g2.can, by rw [ddep_toP, ddeps_toP]; exact g3, by rw [← g4]; exact q⟩
    · rename_i ys hy
      obtain ⟨ob, vs, k1, k2⟩ := m.frz ha hy
      obtain ⟨x', zs, g1, g2, g3, g4⟩ := inSeq_gd m x k2 h
      have gx := rsv_gd m x g1
      exact .inl ⟨_, _, gx.dp, .inl (.lst (.inl (.inr ⟨ob, k1⟩)) g2.dp), gx.can, g2.can, by rw [ddep_toP, ddeps_toP]; exact g3, by rw [← g4]; exact q⟩
    · rename_i t kvs hy
      split at h
      · rename_i hk
        cases h
        cases t with
        | false =>
          have hd := dic_get m ha hy x hk
          split at hd
          · rename_i e he
            obtain ⟨w, hw, _⟩ := hd
            exact .inr (.inr (.inl ⟨_, _, rfl, hw, by rw [he] at q; exact q⟩))
          · rename_i he
            exact .inr (.inr (.inl ⟨_, _, rfl, hd, by rw [he] at q; exact q⟩))
        | true =>
          obtain ⟨b2, ks, xs, rfl, g1, g2, hd⟩ := dic_getX m ha hy x hk
          refine .inr (.inr (.inr ⟨_, b2, ks, xs, rfl, rfl, g1, g2, ?_⟩))
          split at hd
          · rename_i e he
            obtain ⟨w, hw, _⟩ := hd
            rw [hw]; rw [he] at q; exact q
          · rename_i he
            rw [hd]; rw [he] at q; exact q
      · cases h
    · cases h
theorem pd_opt {α : Type} {ρ : Option α} {f : α → D} (p : PD W Y σ r H (opt ρ f hs) Q) : ∃ a, ρ = some a ∧ PD W Y σ r H (.ok (f a) hs) Q := by
  cases ρ with
  | none => exact False.elim p
  | some a => exact ⟨a, rfl, p⟩
theorem same_V (m : Mt W r H hs) {x y : D} {v u : V} (a : Rv W r H x v) (b : Rv W r H y u) (h : sameD x y = true) : SameV W.K H v u := by
  unfold sameD at h
  split at h
  · cases a with | ref h1 =>
    cases b with | ref h2 =>
    rw [beq_iff_eq] at h
    subst h
    rw [h1] at h2
    cases h2
    exact .inl ⟨_, rfl, rfl⟩
  · split at h
    · rename_i x' y' g1 g2
      simp only [Bool.and_eq_true, decide_eq_true_eq] at h
      have k1 := rs_gd (fun n y a e => by cases e) a g1
      have k2 := rs_gd (fun n y a e => by cases e) b g2
      exact .inr ⟨_, _, k1.dp, k2.dp, k1.can, k2.can, by rw [ddep_toP, ddep_toP]; omega, by rw [← deq_toP _ _ k1.pu k2.pu]; exact h.1⟩
    · cases h
theorem same_Vs (m : Mt W r H hs) : ∀ {xs ys : List D} {vs us : List V}, Rvs W r H xs vs → Rvs W r H ys us → sameL xs ys = true → Paired (SameV W.K H) vs us
  | [], [], _, _, .nil, .nil, _ => .nil
  | [], _ :: _, _, _, _, _, h => by simp [sameL] at h
  | _ :: _, [], _, _, _, _, h => by simp [sameL] at h
  | x :: xs, y :: ys, _, _, .cons a s, .cons b t, h => by
    simp only [sameL, Bool.and_eq_true] at h
    exact .cons (same_V m a b h.1) (same_Vs m s t h.2)
theorem q_eqx (m : Mt W r H hs) (x : Rv W r H d v) (y : Rv W r H e u) {b neg : Bool} (h : eqX hs d e = some b) (q : Q (.bl (b != neg)) H) : REqX W.K neg v u H Q := by
  unfold eqX at h
  split at h
  · split at h
    · rename_i xs ys h1 h2
      cases x with | ref ha =>
      cases y with | ref hb =>
      obtain ⟨vs, o1, r1⟩ := m.lst ha h1
      obtain ⟨us, o2, r2⟩ := m.lst hb h2
      refine ⟨_, _, vs, us, rfl, rfl, SqL.of o1, SqL.of o2, ?_⟩
      split at h
      · rename_i c
        split at h
        · rename_i c2
          cases h
          exact .inr ⟨same_Vs m r1 r2 c2, by simpa using q⟩
        · cases h
      · rename_i c
        cases h
        exact .inl ⟨by rw [r1.length, r2.length]; exact c, by simpa using q⟩
    · cases h
  · cases h
theorem q_cmp (m : Mt W r H hs) (x : Rv W r H d v) (y : Rv W r H e u) : ∀ o : Cop, PD W Y σ r H (o.run d e hs) Q → RC W.K W.P W.w o v u H Q
  | .eq, p => by
    obtain ⟨b, hb, p⟩ := pd_opt p
    exact q_eq m x y hb (by simpa using pd_ok p m (.bl b))
  | .ne, p => by
    obtain ⟨b, hb, p⟩ := pd_opt p
    exact q_eq m x y hb (by simpa using pd_ok p m (.bl (!b)))
  | .isin, p => by
    obtain ⟨b, hb, p⟩ := pd_opt p
    exact q_in m x y hb (by simpa using pd_ok p m (.bl b))
  | .notin, p => by
    obtain ⟨b, hb, p⟩ := pd_opt p
    exact q_in m x y hb (by simpa using pd_ok p m (.bl (!b)))
  | .eqx, p => by
    obtain ⟨b, hb, p⟩ := pd_opt p
    exact q_eqx m x y hb (by simpa using pd_ok p m (.bl b))
  | .nex, p => by
    obtain ⟨b, hb, p⟩ := pd_opt p
    exact q_eqx m x y hb (by simpa using pd_ok p m (.bl (!b)))
  | .lt, p => by
    cases d <;> cases e <;> first | exact False.elim p | skip
    cases x; cases y
    exact ⟨_, _, rfl, rfl, pd_ok p m (.bl _)⟩
  | .le, p => by
    cases d <;> cases e <;> first | exact False.elim p | skip
    cases x; cases y
    exact ⟨_, _, rfl, rfl, pd_ok p m (.bl _)⟩
  | .gt, p => by
    cases d <;> cases e <;> first | exact False.elim p | skip
    cases x; cases y
    exact ⟨_, _, rfl, rfl, pd_ok p m (.bl _)⟩
  | .ge, p => by
    cases d <;> cases e <;> first | exact False.elim p | skip
    cases x; cases y
    exact ⟨_, _, rfl, rfl, pd_ok p m (.bl _)⟩
end
end Q

/-! subscripts, slices, truth, built-in functions and methods: mine against the layer's -/
namespace Q
open PySem PySem.Spec PyProof.Rows L2

section
variable {X : Cx} {W : Wd} {Y : WX} {σ : L2.St} {r : List Addr} {H : Hp} {hs : Hs} {Q : VK} {d e : D} {v u : V}

/-! ### a[i] -/
theorem Rvs.none {W : Wd} {r : List Addr} {H : Hp} {ds : List D} {vs : List V} (h : Rvs W r H ds vs) {i : Nat} (e : ds[i]? = none) : vs[i]? = none := by
  rw [List.getElem?_eq_none_iff] at e ⊢
  rw [h.length]
  exact e
theorem atI_rv {ds : List D} {vs : List V} {i : Int} (h : Rvs W r H ds vs) (e : atI ds i = some d) : ∃ v, L2.atI vs i = some v ∧ Rv W r H d v := by
  unfold atI at e
  unfold L2.atI
  rw [h.length]
  cases q : ixN ds.length i with
  | none => rw [q] at e; cases e
  | some j =>
    rw [q] at e
    have q2 : L2.ixN ds.length i = some j := q
    rw [q2]
    exact h.get e
def RIxD : R2 := fun x y H Q => ∃ a v, x = .ref a ∧ DGet H a y (some v) ∧ Q v H
theorem ix_dic (hu : X.A.units + 1 < cLine) : IxR X RIxD := by
  intro value slice pins s σ H x y v u Q I rx ry h hs
  obtain ⟨a, z, rfl, g, q⟩ := h
  cases rx
  exact tail_any (dict_typeIs I g) PySem.F.slot_dict_getitem.lookup (d_getItem hu I g ry fun w' s3 I3 rw' => ⟨z, H, I3, rw', q⟩) hs
def RIxX (K : PySem.W.Frag) (P : Program) (w : World) : R2 := fun x y H Q => ∃ a b k xs v, x = .ref a ∧ y = .ref b ∧ IsX K P w H a xs ∧ KeyAt K H b k ∧ xat xs k = some v ∧ Q v H
theorem ix_dicX (hu : X.A.units + 1 < cLine) : IxR X (RIxX X.K X.prog X.w) := by
  intro value slice pins s σ H x y v u Q I rx ry h hs
  obtain ⟨a, b, k, xs, z, rfl, rfl, g1, g2, g3, q⟩ := h
  cases rx; cases ry
  exact tail_any (dx_typeIs I g1) PySem.F.slot_dict_getitem.lookup (dx_getItem hu I g1 g2 g3 fun w' s3 I3 rw' => ⟨z, H, I3, rw', q⟩) hs
abbrev RIx (K : PySem.W.Frag) (P : Program) (w : World) : R2 := fun x y H Q => rIx K x y H Q ∨ RIxD x y H Q ∨ RIxX K P w x y H Q
theorem ix_U (hu : X.A.units + 1 < cLine) : IxR X (RIx X.K X.prog X.w) := ix_seq.or ((ix_dic hu).or (ix_dicX hu))
theorem strOk_sign {x : Str} {c : Nat} (h : PyData.strOk x = true) (m : c ∈ x.cps.toList) : PyData.strOk ⟨#[c]⟩ = true := by
  unfold PyData.strOk at *
  rw [Array.all_eq_true'] at h ⊢
  intro y hy
  simp at hy
  subst hy
  exact h y (by simpa using m)
theorem atI_mem {α : Type} {xs : List α} {i : Int} {c : α} (h : atI xs i = some c) : c ∈ xs := by
  unfold atI at h
  cases q : ixN xs.length i with
  | none => rw [q] at h; cases h
  | some j => rw [q] at h; exact List.mem_of_getElem? h
theorem q_ix (m : Mt W r H hs) (x : Rv W r H d v) (y : Rv W r H e u) (p : PD W Y σ r H (getI d e hs) Q) : RIx W.K W.P W.w v u H Q := by
  cases d <;> first | exact False.elim p | skip
  case str z =>
    cases e <;> first | exact False.elim p | skip
    rename_i i
    cases x with | str _ k =>
    cases y
    simp only [getI] at p
    split at p
    · rename_i hz
      obtain ⟨c, hc, p⟩ := pd_opt p
      exact .inl (.inr (.inr ⟨z, i, c, rfl, rfl, by rw [sl_eq]; exact hz, hc, pd_ok p m (.str _ (strOk_sign k (atI_mem hc)))⟩))
    · exact False.elim p
  case tup ds =>
    cases e <;> first | exact False.elim p | skip
    rename_i i
    cases x with | tup t es =>
    cases y
    simp only [getI] at p
    obtain ⟨c, hc, p⟩ := pd_opt p
    obtain ⟨w, hw, rw'⟩ := atI_rv es hc
    exact .inl (.inr (.inl ⟨_, _, i, w, rfl, rfl, t.sq, hw, pd_ok p m rw'⟩))
  case ref n =>
    cases x with | ref ha =>
    simp only [getI] at p
    split at p
    · rename_i _ _ xs i hx
      cases y
      obtain ⟨vs, h1, es⟩ := m.lst ha hx
      obtain ⟨c, hc, p⟩ := pd_opt p
      obtain ⟨w, hw, rw'⟩ := atI_rv es hc
      exact .inl (.inl ⟨_, _, i, w, rfl, rfl, SqL.of h1, hw, pd_ok p m rw'⟩)
    · rename_i _ _ xs i hx
      cases y
      obtain ⟨ob, vs, h1, es⟩ := m.frz ha hx
      obtain ⟨c, hc, p⟩ := pd_opt p
      obtain ⟨w, hw, rw'⟩ := atI_rv es hc
      exact .inl (.inl ⟨_, _, i, w, rfl, rfl, .inl (.inr ⟨ob, h1⟩), hw, pd_ok p m rw'⟩)
    · rename_i t kvs hx
      split at p
      · rename_i hk
        obtain ⟨c, hc, p⟩ := pd_opt p
        cases t with
        | false =>
          have hd := dic_get m ha hx y hk
          rw [hc] at hd
          obtain ⟨w, hw, rw'⟩ := hd
          exact .inr (.inl ⟨_, w, rfl, hw, pd_ok p m rw'⟩)
        | true =>
          obtain ⟨b2, ks, xs, rfl, g1, g2, hd⟩ := dic_getX m ha hx y hk
          rw [hc] at hd
          obtain ⟨w, hw, rw'⟩ := hd
          exact .inr (.inr ⟨_, b2, ks, xs, w, rfl, rfl, g1, g2, hw, pd_ok p m rw'⟩)
      · exact False.elim p
    · exact False.elim p

/-! ### slices -/
theorem sIx_eq (n d : Nat) (o : Option Int) : sIx n d o = HT.sIx n d o := by cases o <;> rfl
abbrev RSl (K : PySem.W.Frag) : V → Option Int → Option Int → Hp → VK → Prop := fun x lo hi H Q => rSlL K x lo hi H Q ∨ rSlA K x lo hi H Q ∨ rSlS x lo hi H Q
theorem sl_U : SlR X (RSl X.K) := sl_list.or (sl_tupA.or sl_str)
theorem cut_rvs {ds : List D} {vs : List V} (h : Rvs W r H ds vs) (lo hi : Option Int) : Rvs W r H (cut ds lo hi) (cutV vs lo hi) := by
  unfold cut cutV
  rw [h.length, ← sIx_eq, ← sIx_eq]
  exact (h.drop _).take _
theorem strOk_cut {x : Str} {lo hi : Option Int} (h : PyData.strOk x = true) : PyData.strOk ⟨(cut x.cps.toList lo hi).toArray⟩ = true := by
  unfold PyData.strOk at *
  rw [Array.all_eq_true'] at h ⊢
  intro y hy
  have hy' : y ∈ cut x.cps.toList lo hi := by simpa using hy
  unfold cut at hy'
  exact h y (by simpa using List.mem_of_mem_drop (List.mem_of_mem_take hy'))
theorem q_slice (m : Mt W r H hs) (x : Rv W r H d v) {lo hi : Option Int} (p : PD W Y σ r H (slice d lo hi hs) Q) : RSl W.K v lo hi H Q := by
  cases d <;> first | exact False.elim p | skip
  case str z =>
    cases x with | str _ k =>
    simp only [slice] at p
    split at p
    · rename_i hz
      refine .inr (.inr ⟨z, rfl, by rw [sl_eq]; exact hz, ?_⟩)
      have e : cutS z lo hi = ⟨(cut z.cps.toList lo hi).toArray⟩ := by
        unfold cutS cut
        rw [← sIx_eq, ← sIx_eq] <;> simp [Str.length]
      rw [e]
      exact pd_ok p m (.str _ (strOk_cut k))
    · exact False.elim p
  case tup ds =>
    cases x with | tup t es =>
    simp only [slice] at p
    refine .inr (.inl ⟨_, _, rfl, t.sq, fun hw => ?_, fun _ => pd_tup p m (cut_rvs es lo hi)⟩)
    rw [es.length, ← sIx_eq, ← sIx_eq] at hw
    have e : cut ds lo hi = ds := by
      unfold cut
      rw [hw.1, hw.2, List.drop_zero, Nat.sub_zero, List.take_length]
    rw [e] at p
    exact pd_ok p m (.tup t es)
  case ref n =>
    cases x with | ref ha =>
    simp only [slice] at p
    split at p
    · rename_i xs hx
      obtain ⟨vs, h1, es⟩ := m.lst ha hx
      exact .inl ⟨_, _, rfl, SqL.of h1, pd_lst p m (cut_rvs es lo hi)⟩
    · rename_i xs hx
      obtain ⟨ob, vs, h1, es⟩ := m.frz ha hx
      exact .inl ⟨_, _, rfl, .inl (.inr ⟨ob, h1⟩), pd_lst p m (cut_rvs es lo hi)⟩
    · exact False.elim p

/-! ### truth -/
theorem Rvs.empty {W : Wd} {r : List Addr} {H : Hp} {ds : List D} {vs : List V} (h : Rvs W r H ds vs) : vs.isEmpty = ds.isEmpty := by cases h <;> rfl
theorem q_tru (m : Mt W r H hs) (x : Rv W r H d v) {b : Bool} (h : tru hs d = some b) : TruV W.K v H b := by
  cases d <;> first | (cases h; done) | skip
  case non => cases x; cases h; exact rfl
  case bl => cases x; cases h; exact rfl
  case int => cases x; cases h; exact rfl
  case str z =>
    cases x
    simp only [tru] at h
    split at h
    · rename_i hz
      cases h
      exact ⟨by rw [sl_eq]; exact hz, by
        show _ = ((z.length : Int) != 0)
        cases z.length <;> rfl⟩
    · cases h
  case tup ds =>
    cases x with | tup t es =>
    cases h
    exact .inr (.inl ⟨_, t.sq, by rw [es.empty]⟩)
  case ref n =>
    cases x with | ref ha =>
    simp only [tru] at h
    split at h
    · rename_i xs hx
      obtain ⟨vs, h1, es⟩ := m.lst ha hx
      cases h
      exact .inl ⟨_, SqL.of h1, by rw [es.empty]⟩
    · rename_i xs hx
      obtain ⟨ks, ds, vs, h1, h2, h3, h4, h5⟩ := m.at_ n _ _ ha hx
      cases h
      refine .inr (.inr ⟨_, h1, ?_⟩)
      subst h2
      have := h5.length
      cases ks <;> cases ds <;> cases vs <;> simp at * 
    · cases h
end
end Q

/-! min, max of a tuple of numbers -/
namespace L2
open PySem PySem.Spec PyProof.Rows
section
variable {prog : Program} {w : World} {A : Around} {E : Value → Shared → Prop} {s : Shared} {l : Addr} {its : List Value} {ns : List Int} {Q : Value → Shared → Prop}
theorem minT_raw (hh : A.handled = none) (hl : s.heap.IsTuple l its.toArray) (hi : IntsAre its ns) (hne : 0 < ns.length)
    (h : ∀ h' tk M t', (∀ b o, s.heap.get? b = some o → h'.get? b = some o) → M ∈ ns → (∀ a, a ∈ ns → M ≤ a) → Q (.int M t') { s with heap := h', toks := tk }) : wpAny (model prog w) A (call (.builtin "min") [.ref l]) Q E s := by
  obtain ⟨xs, e⟩ := hi.allInts.items
  have hn : numsOf (intItems xs).toList = ns := by rw [← e]; exact hi.numsOf
  rw [nums_intItems] at hn
  subst hn
  rw [e] at hl
  have hsz : 0 < xs.size := by simpa using hne
  refine PySem.call_min_walkH (PySem.W.iter_tupleW (A := A.in1) hh hl fun s₂ e2 W st hfp hw hk => ?_)
  refine ⟨_, _, _, _, _, _, _, s.heap, _, rfl, W, st, hfp, by simpa [intItems] using hsz, hw, hk, (fun i j vi vj s Q E _ hi hj h => CmpOf.ints_lt (numAt xs) (fun _ _ => intItems_at) i j vi vj s Q E hi hj h), fun v s' hP m => ?_⟩
  obtain ⟨h', tk, rfl, hk'⟩ := PySem.W.moved_old e2 rfl m
  obtain ⟨t, rfl⟩ := intItems_at hP
  have e3 : (intItems xs).size = xs.size := by simp [intItems]
  obtain ⟨h1, h2⟩ := argBest_lt (numAt xs) (xs.size - 1)
  rw [e3]
  refine h h' tk _ t hk' ?_ fun a ha => ?_
  · rw [numAt_eq]; exact PySem.getD_mem (by rw [List.length_map, Array.length_toList]; omega)
  · obtain ⟨j, hj, rfl⟩ := mem_getD ha
    rw [List.length_map, Array.length_toList] at hj
    rw [← numAt_eq]; exact h2 j (by omega)
theorem maxT_raw (hh : A.handled = none) (hl : s.heap.IsTuple l its.toArray) (hi : IntsAre its ns) (hne : 0 < ns.length)
    (h : ∀ h' tk M t', (∀ b o, s.heap.get? b = some o → h'.get? b = some o) → M ∈ ns → (∀ a, a ∈ ns → a ≤ M) → Q (.int M t') { s with heap := h', toks := tk }) : wpAny (model prog w) A (call (.builtin "max") [.ref l]) Q E s := by
  obtain ⟨xs, e⟩ := hi.allInts.items
  have hn : numsOf (intItems xs).toList = ns := by rw [← e]; exact hi.numsOf
  rw [nums_intItems] at hn
  subst hn
  rw [e] at hl
  have hsz : 0 < xs.size := by simpa using hne
  refine PySem.call_max_walkH (PySem.W.iter_tupleW (A := A.in1) hh hl fun s₂ e2 W st hfp hw hk => ?_)
  refine ⟨_, _, _, _, _, _, _, s.heap, _, rfl, W, st, hfp, by simpa [intItems] using hsz, hw, hk, (fun i j vi vj s Q E _ hi hj h => CmpOf.ints_gt (numAt xs) (fun _ _ => intItems_at) i j vi vj s Q E hi hj h), fun v s' hP m => ?_⟩
  obtain ⟨h', tk, rfl, hk'⟩ := PySem.W.moved_old e2 rfl m
  obtain ⟨t, rfl⟩ := intItems_at hP
  have e3 : (intItems xs).size = xs.size := by simp [intItems]
  obtain ⟨h1, h2⟩ := argBest_gt (numAt xs) (xs.size - 1)
  rw [e3]
  refine h h' tk _ t hk' ?_ fun a ha => ?_
  · rw [numAt_eq]; exact PySem.getD_mem (by rw [List.length_map, Array.length_toList]; omega)
  · obtain ⟨j, hj, rfl⟩ := mem_getD ha
    rw [List.length_map, Array.length_toList] at hj
    rw [← numAt_eq]; exact h2 j (by omega)
end
section
variable {X : Cx}
def rMinT (K : PySem.W.Frag) : List V → Hp → VK → Prop := fun vs H Q => ∃ (a : Addr) (ns : List Int), vs = [V.ref a] ∧ SqT K H a (ns.map V.int) ∧ 0 < ns.length ∧ ∀ m, m ∈ ns → (∀ y, y ∈ ns → m ≤ y) → Q (.int m) H
def rMaxT (K : PySem.W.Frag) : List V → Hp → VK → Prop := fun vs H Q => ∃ (a : Addr) (ns : List Int), vs = [V.ref a] ∧ SqT K H a (ns.map V.int) ∧ 0 < ns.length ∧ ∀ m, m ∈ ns → (∀ y, y ∈ ns → y ≤ m) → Q (.int m) H
theorem cr_minT (hc : X.calm = true) : CallR X (.builtin "min") (rMinT X.K) := by
  intro pins s σ H vs us Q I r h
  obtain ⟨a, ns, rfl, hs, hne, q⟩ := h
  obtain ⟨its, rv, hl, _⟩ := I.tuple hs
  rw [Vals.ref1 r]
  exact minT_raw (I.ok.hd hc) hl rv.ints hne fun h' tk m t' hk h1 h2 => ⟨.int _, H, I.kept hk, ⟨_, rfl⟩, q m h1 h2⟩
theorem cr_maxT (hc : X.calm = true) : CallR X (.builtin "max") (rMaxT X.K) := by
  intro pins s σ H vs us Q I r h
  obtain ⟨a, ns, rfl, hs, hne, q⟩ := h
  obtain ⟨its, rv, hl, _⟩ := I.tuple hs
  rw [Vals.ref1 r]
  exact maxT_raw (I.ok.hd hc) hl rv.ints hne fun h' tk m t' hk h1 h2 => ⟨.int _, H, I.kept hk, ⟨_, rfl⟩, q m h1 h2⟩
def rSumT (K : PySem.W.Frag) : List V → Hp → VK → Prop := fun vs H Q => ∃ (a : Addr) (ns : List Int), vs = [V.ref a] ∧ SqT K H a (ns.map V.int) ∧ Q (.int ns.sum) H
theorem cr_sumT (hc : X.calm = true) : CallR X (.builtin "sum") (rSumT X.K) := by
  intro pins s σ H vs us Q I r h
  obtain ⟨a, ns, rfl, hs, q⟩ := h
  obtain ⟨its, rv, hl, _⟩ := I.tuple hs
  rw [Vals.ref1 r]
  have hi := rv.ints
  obtain ⟨xs, e⟩ := hi.allInts.items
  have hn : numsOf (intItems xs).toList = ns := by rw [← e]; exact hi.numsOf
  rw [nums_intItems] at hn
  rw [e] at hl
  refine PySem.W.ktm_sumG (I.ok.hd hc) hl fun h' tk t' hk => ?_
  rw [preSum_eq, List.take_of_length_le (by simp), hn]
  exact ⟨.int _, H, I.kept hk, ⟨_, rfl⟩, q⟩
end
end L2

/-! min of tuples: a number and a point -/
namespace L2
open PySem PySem.Spec PyProof.Rows PySem.W
section
variable {prog : Program} {w : World} {A : Around} {E : Value → Shared → Prop} {s : Shared} {α : Type} [DecidableEq α] [DatumOrd α]
theorem minPair_raw {a b : Value} {x y : α} {Q : Value → Shared → Prop} (hh : A.handled = none) (Ha : Holds s.heap a x) (Hb : Holds s.heap b y) (hu : A.units + 1 + Datum.depth α < cLine)
    (h : ∀ h' tk, (∀ b o, s.heap.get? b = some o → h'.get? b = some o) → Q (if DatumOrd.lt y x = true then b else a) { s with heap := h', toks := tk }) : wpAny (model prog w) A (call (.builtin "min") [a, b]) Q E s := by
  have nm : (toString "min" ++ toString ".loop" : String) = "min.loop" := by decide
  refine call_function_tree F.kind_min F.plain_min F.entry_min (PySem.F.args_min2 a b) ?_
  change wpAny _ A.in1 (Builtin.Builtins.bindParams "min" ["key", "default"] 0 ⟨[], []⟩ >>= _) _ _ s
  refine wpAny_bind (wpAny_of_eq (a := [none, none]) (by rfl) ?_)
  change wpAny _ A.in1 (newTuple [a, b] >>= _) _ _ s; refine wpAny_bind (wpAny_newObj_type ?_)
  have kp : ∀ c o, s.heap.get? c = some o → (s.heap.push { cls := .type "tuple", data := .seq #[a, b] }).get? c = some o := fun c o e => Heap.get?_push_of_some _ e
  have HA : HoldAll (s.heap.push { cls := .type "tuple", data := .seq #[a, b] }) [a, b] [x, y] := .cons (Ha.keeps kp) (.cons (Hb.keeps kp) .nil)
  obtain ⟨as, rs⟩ := HA
  have tp : (s.heap.push { cls := .type "tuple", data := .seq #[a, b] }).IsTuple s.heap.objs.size #[a, b] := ⟨_, Heap.get?_push_size _ rfl, rfl, _, rfl⟩
  refine wpAny_bind (PySem.W.iter_tupleW (A := A.in1) (s := { s with heap := s.heap.push { cls := .type "tuple", data := .seq #[a, b] } }) hh tp fun s2 e2 W st hfp hw hk => ?_)
  refine wpAny_bind (wpAny_newObj_type ?_)
  have nf : s2.heap.objs.size ∉ [(s.heap.push { cls := .type "tuple", data := .seq #[a, b] }).objs.size, s.heap.objs.size] := fun hm => Nat.lt_irrefl _ (hfp _ hm)
  rw [nm]
  have hc := PySem.W.cmpIn_lt (prog := prog) (w := w) (A := A.in1) (s := { s with heap := s.heap.push { cls := .type "tuple", data := .seq #[a, b] } }) (vs := #[a, b]) rs (alikeAll_datum [x, y]) (by
    have := depthAll_map [x, y]
    show A.units + 1 + _ < _
    omega)
  refine wpAny_pure ⟨plainId_quiet F.plain_min_loop _, codeAny_min_loop_firstH W _ hw _ hc s2.heap.objs.size nf (fresh_in hk) _ (Nat.succ_pos 1) (fun b o e => Heap.get?_push_of_some _ (hk b o e)) (W.frame 0 s2 _ s2.toks st (Nat.le_refl _) fun b _ o e => Heap.get?_push_of_some _ e) (Heap.get?_push_size _ rfl) fun v s' hP hm => ?_⟩
  obtain ⟨h', tk, rfl, hk'⟩ := PySem.W.moved_old e2 rfl (Moved.drop_new (tk := s2.toks) hm (Nat.le_refl _))
  have q := h h' tk fun c o e => hk' c o (kp c o e)
  have ev : v = if DatumOrd.lt y x = true then b else a := by
    have ab : argBest (fun i j => dataLt (([x, y].map Datum.toD).getD i .none) (([x, y].map Datum.toD).getD j .none)) 1 = if DatumOrd.lt y x = true then 1 else 0 := by
      show (if dataLt (Datum.toD y) (Datum.toD x) = true then 1 else 0) = _
      rw [DatumOrd.lt_eq]
    have hP' : (#[a, b] : Array Value)[argBest (fun i j => dataLt (([x, y].map Datum.toD).getD i .none) (([x, y].map Datum.toD).getD j .none)) 1]? = some v := hP
    rw [ab] at hP'
    cases c : DatumOrd.lt y x with
    | true => rw [c] at hP'; simpa using hP'.symm
    | false => rw [c] at hP'; simpa using hP'.symm
  rw [ev]
  exact q
end
section
variable {X : Cx}
def rMinP (K : PySem.W.Frag) : List V → Hp → VK → Prop := fun vs H Q => ∃ (v u : V) (x y : Int × Tup Int), vs = [v, u] ∧ Dp K H v (Datum.toD x) ∧ Dp K H u (Datum.toD y) ∧ Q (if DatumOrd.lt y x = true then u else v) H
def rMinL (K : PySem.W.Frag) : List V → Hp → VK → Prop := fun vs H Q => ∃ (a : Addr) (ys : List V) (x : Int × Tup Int) (l : List (Int × Tup Int)), vs = [V.ref a] ∧ SqL K H a ys ∧ DpAll K H ys ((x :: l).map Datum.toD) ∧ ∀ (i : Nat) (y : V), ys[i]? = some y → (x :: l)[i]? = some (minOf x l) → Q y H
theorem cr_minP (hc : X.calm = true) (hu : X.A.units + 152 < cLine) : CallR X (.builtin "min") (rMinP X.K) := by
  intro pins s σ H vs us Q I r h
  obtain ⟨v, u, x, y, rfl, h1, h2, q⟩ := h
  obtain ⟨a, b, rfl, r1, r2⟩ := r.two
  obtain ⟨as, ra⟩ := Dp.reads I _ _ _ h1 r1
  obtain ⟨bs, rb⟩ := Dp.reads I _ _ _ h2 r2
  refine minPair_raw (x := x) (y := y) (I.ok.hd hc) ⟨as, ra⟩ ⟨bs, rb⟩ (by show _ + 1 + 2 < _; omega) fun h' tk hk => ⟨_, H, I.kept hk, ?_, q⟩
  cases DatumOrd.lt y x with
  | true => exact r2
  | false => exact r1
theorem cr_minL (hc : X.calm = true) (hu : X.A.units + 152 < cLine) : CallR X (.builtin "min") (rMinL X.K) := by
  intro pins s σ H vs us Q I r h
  obtain ⟨a, ys, x, l, rfl, hs, hd, q⟩ := h
  obtain ⟨its, rv, hl, hlen⟩ := I.list hs
  rw [Vals.ref1 r]
  obtain ⟨as, rs⟩ := Dp.readsAll I _ _ its hd rv
  have rs' : ReadsAll s.heap its.toArray.toList ((x :: l).map Datum.toD) as := rs
  refine min_list_datum (x := x) (xs := l) (I.ok.hd hc) (PlainL.isList hl) ⟨as, rs'⟩ (by show _ + 1 + 2 < _; omega) fun i v h' tk hi hv hk => ?_
  have hi' : its[i]? = some v := by simpa using hi
  have lt : i < ys.length := by
    rw [rv.length]
    exact (List.getElem?_eq_some_iff.mp hi').1
  obtain ⟨u, hu1, hu2⟩ := rv.get (List.getElem?_eq_getElem lt)
  rw [hi'] at hu1
  cases hu1
  obtain ⟨bs, r1, lt2, _, _⟩ := readsAll_atA rs' i v hi
  rw [List.length_map] at lt2
  have e1 : ((x :: l).map Datum.toD).getD i .none = Datum.toD ((x :: l)[i]) := by
    rw [List.getD_eq_getElem?_getD, List.getElem?_map, List.getElem?_eq_getElem lt2]; rfl
  rw [e1] at r1
  obtain ⟨cs, r2⟩ := hv
  have e2 := PySem.SeqAt.plain_unique _ _ _ _ _ (Datum.plain _) (reads_keeps hk r1) r2
  have e3 : (x :: l)[i] = minOf x l := by
    have q := Datum.eqv ((x :: l)[i]) (minOf x l)
    rw [e2, Datum.eqv (minOf x l) (minOf x l)] at q
    simpa using q.symm
  exact ⟨_, H, I.kept hk, hu2, q i _ (List.getElem?_eq_getElem lt) (by rw [List.getElem?_eq_getElem lt2, e3])⟩
end
end L2

/-! put in order: texts, numbers, pairs -/
namespace Q
open PySem PySem.Spec PyProof.Rows L2
theorem strCps {x y : PySem.Str} (h : x.cps.toList = y.cps.toList) : x = y := by
  obtain ⟨⟨a⟩⟩ := x
  obtain ⟨⟨b⟩⟩ := y
  have h' : a = b := h
  rw [h']
theorem strsOk {W : Wd} {r : List Addr} {H : Hp} : ∀ {l : List D} {us : List V} {zs : List PySem.Str}, Rvs W r H l us → strsL l = some zs → ∀ x ∈ zs, PyData.strOk x = true
  | [], _, zs, .nil, e, x, hx => by
    simp only [strsL, Option.some.injEq] at e
    subst e; cases hx
  | d :: l, _, zs, .cons h t, e, x, hx => by
    cases d <;> first | (simp [strsL] at e; done) | skip
    rename_i z
    simp only [strsL] at e
    cases q : strsL l with
    | none => rw [q] at e; cases e
    | some l2 =>
      rw [q] at e
      simp only [Option.map_some, Option.some.injEq] at e
      subst e
      rcases List.mem_cons.mp hx with e | hx
      · subst e; cases h with | str _ kk => exact kk
      · exact strsOk t q x hx
theorem sset_uniq (zs : List PySem.Str) : (sset zs).Pairwise (fun x y => x.cps.toList < y.cps.toList) ∧ ∀ k, k ∈ sset zs ↔ k ∈ zs := by
  have ins : ∀ (x : PySem.Str) (ys : List PySem.Str), ys.Pairwise (fun x y => x.cps.toList < y.cps.toList) → (insS x ys).Pairwise (fun x y => x.cps.toList < y.cps.toList) ∧ ∀ k, k ∈ insS x ys ↔ k = x ∨ k ∈ ys := by
    intro x ys
    induction ys with
    | nil => intro _; exact ⟨by simp [insS], by simp [insS]⟩
    | cons y ys ih =>
      intro h
      obtain ⟨h1, h2⟩ := List.pairwise_cons.mp h
      unfold insS
      by_cases c : x.cps.toList < y.cps.toList
      · rw [if_pos c]
        refine ⟨List.pairwise_cons.mpr ⟨fun z hz => ?_, h⟩, fun k => by simp⟩
        rcases List.mem_cons.mp hz with e | hz
        · exact e ▸ c
        · exact List.lt_trans c (h1 z hz)
      · rw [if_neg c]
        by_cases e : x = y
        · rw [if_pos e]
          exact ⟨h, fun k => by subst e; simp⟩
        · rw [if_neg e]
          obtain ⟨i1, i2⟩ := ih h2
          have ne : x.cps.toList ≠ y.cps.toList := fun z => e (strCps z)
          have yx : y.cps.toList < x.cps.toList := by
            rcases List.le_iff_lt_or_eq.mp (List.not_lt.mp c) with q | q
            · exact q
            · exact absurd q.symm ne
          refine ⟨List.pairwise_cons.mpr ⟨fun z hz => ?_, i1⟩, fun k => ?_⟩
          · rcases (i2 z).mp hz with q | q
            · exact q ▸ yx
            · exact h1 z q
          · rw [List.mem_cons, i2 k, List.mem_cons]
            constructor
            · rintro (q | q | q)
              · exact .inr (.inl q)
              · exact .inl q
              · exact .inr (.inr q)
            · rintro (q | q | q)
              · exact .inr (.inl q)
              · exact .inl q
              · exact .inr (.inr q)
  induction zs with
  | nil => exact ⟨.nil, fun k => Iff.rfl⟩
  | cons x xs ih =>
    obtain ⟨a, b⟩ := ins x _ ih.1
    exact ⟨a, fun k => by rw [show sset (x :: xs) = insS x (sset xs) from rfl, b k, ih.2 k, List.mem_cons]⟩
theorem sorted_uniq : ∀ {ys zs : List PySem.Str}, ys.Pairwise (fun x y => x.cps.toList < y.cps.toList) → zs.Pairwise (fun x y => x.cps.toList < y.cps.toList) → (∀ k, k ∈ ys ↔ k ∈ zs) → ys = zs
  | [], [], _, _, _ => rfl
  | [], z :: zs, _, _, h => by have := (h z).mpr List.mem_cons_self; cases this
  | y :: ys, [], _, _, h => by have := (h y).mp List.mem_cons_self; cases this
  | y :: ys, z :: zs, hy, hz, h => by
    obtain ⟨y1, y2⟩ := List.pairwise_cons.mp hy
    obtain ⟨z1, z2⟩ := List.pairwise_cons.mp hz
    have e : y = z := by
      rcases List.mem_cons.mp ((h y).mp List.mem_cons_self) with q | q
      · exact q
      · rcases List.mem_cons.mp ((h z).mpr List.mem_cons_self) with q2 | q2
        · exact q2.symm
        · exact absurd (List.lt_trans (z1 y q) (y1 z q2)) (List.lt_irrefl _)
    subst e
    refine congrArg _ (sorted_uniq y2 z2 fun k => ?_)
    constructor
    · intro q
      rcases List.mem_cons.mp ((h k).mp (List.mem_cons_of_mem _ q)) with e | e
      · exact absurd (e ▸ y1 k q) (List.lt_irrefl _)
      · exact e
    · intro q
      rcases List.mem_cons.mp ((h k).mpr (List.mem_cons_of_mem _ q)) with e | e
      · exact absurd (e ▸ z1 k q) (List.lt_irrefl _)
      · exact e
theorem rising_pw : ∀ (p : PySem.Str) (xs : List PySem.Str), risingS p xs = true → (p :: xs).Nodup → (p :: xs).Pairwise (fun x y => x.cps.toList < y.cps.toList)
  | p, [], _, _ => by simp
  | p, x :: r, h, nd => by
    simp only [risingS, Bool.and_eq_true, Bool.not_eq_true'] at h
    obtain ⟨h1, h2⟩ := h
    rw [ltCps_eq, decide_eq_false_iff_not] at h1
    obtain ⟨n1, n2⟩ := List.nodup_cons.mp nd
    have ih := rising_pw x r h2 n2
    have px : p.cps.toList < x.cps.toList := by
      rcases List.le_iff_lt_or_eq.mp (List.not_lt.mp h1) with q | q
      · exact q
      · exact absurd (strCps q) (fun z => n1 (z ▸ List.mem_cons_self))
    refine List.pairwise_cons.mpr ⟨fun z hz => ?_, ih⟩
    rcases List.mem_cons.mp hz with e | hz
    · exact e ▸ px
    · exact List.lt_trans px ((List.pairwise_cons.mp ih).1 z hz)
theorem sset_of {ys zs : List PySem.Str} (so : sortedS ys = true) (nd : ys.Nodup) (mem : ∀ k, k ∈ ys ↔ k ∈ zs) : ys = sset zs := by
  obtain ⟨u1, u2⟩ := sset_uniq zs
  refine sorted_uniq ?_ u1 fun k => (mem k).trans (u2 k).symm
  cases ys with
  | nil => exact .nil
  | cons y ys => exact rising_pw y ys so nd
theorem uniq_of {α : Type} {lt : α → α → Prop} (asym : ∀ x y, lt x y → ¬ lt y x) : ∀ {l m : List α}, l.Pairwise lt → m.Pairwise lt → (∀ k, k ∈ l ↔ k ∈ m) → l = m
  | [], [], _, _, _ => rfl
  | [], y :: ys, _, _, h => absurd ((h y).mpr List.mem_cons_self) (by simp)
  | x :: xs, [], _, _, h => absurd ((h x).mp List.mem_cons_self) (by simp)
  | x :: xs, y :: ys, hl, hm, h => by
    obtain ⟨l1, l2⟩ := List.pairwise_cons.mp hl
    obtain ⟨m1, m2⟩ := List.pairwise_cons.mp hm
    have e : x = y := by
      rcases List.mem_cons.mp ((h x).mp List.mem_cons_self) with e | hx
      · exact e
      · rcases List.mem_cons.mp ((h y).mpr List.mem_cons_self) with e | hy
        · exact e.symm
        · exact absurd (l1 y hy) (asym _ _ (m1 x hx))
    subst e
    rw [uniq_of asym l2 m2 fun k => ⟨fun hk => ?_, fun hk => ?_⟩]
    · rcases List.mem_cons.mp ((h k).mp (List.mem_cons_of_mem _ hk)) with e | z
      · subst e; exact absurd (l1 k hk) (asym _ _ (l1 k hk))
      · exact z
    · rcases List.mem_cons.mp ((h k).mpr (List.mem_cons_of_mem _ hk)) with e | z
      · subst e; exact absurd (m1 k hk) (asym _ _ (m1 k hk))
      · exact z
theorem plt_iff {a b : Int × Int} : plt a b = true ↔ a.1 < b.1 ∨ (a.1 = b.1 ∧ a.2 < b.2) := by
  simp [plt]
theorem plt_asym (a b : Int × Int) (h : plt a b = true) : ¬ plt b a = true := by
  rw [plt_iff] at h ⊢
  omega
theorem insP_ok (x : Int × Int) : ∀ {l : List (Int × Int)}, l.Pairwise (fun a b => plt a b = true) → (insP x l).Pairwise (fun a b => plt a b = true) ∧ ∀ k, k ∈ insP x l ↔ k = x ∨ k ∈ l
  | [], _ => ⟨by simp [insP], by simp [insP]⟩
  | y :: ys, h => by
    obtain ⟨h1, h2⟩ := List.pairwise_cons.mp h
    unfold insP
    split
    · rename_i c
      refine ⟨List.pairwise_cons.mpr ⟨fun z hz => ?_, h⟩, by simp⟩
      rcases List.mem_cons.mp hz with e | hz
      · subst e; exact c
      · have := h1 z hz
        rw [plt_iff] at c this ⊢
        omega
    · rename_i c
      split
      · rename_i e
        subst e
        exact ⟨h, by simp⟩
      · rename_i ne
        obtain ⟨i1, i2⟩ := insP_ok x h2
        refine ⟨List.pairwise_cons.mpr ⟨fun z hz => ?_, i1⟩, fun k => ?_⟩
        · rcases (i2 z).mp hz with e | hz
          · subst e
            rw [plt_iff] at c ⊢
            have : ¬ (z.1 = y.1 ∧ z.2 = y.2) := fun q => ne (Prod.ext q.1 q.2)
            omega
          · exact h1 z hz
        · rw [List.mem_cons, i2 k, List.mem_cons]
          constructor
          · rintro (e | e | e)
            · exact .inr (.inl e)
            · exact .inl e
            · exact .inr (.inr e)
          · rintro (e | e | e)
            · exact .inr (.inl e)
            · exact .inl e
            · exact .inr (.inr e)
theorem pset_ok : ∀ zs : List (Int × Int), (pset zs).Pairwise (fun a b => plt a b = true) ∧ ∀ k, k ∈ pset zs ↔ k ∈ zs
  | [] => ⟨.nil, by simp [pset]⟩
  | z :: zs => by
    obtain ⟨h1, h2⟩ := pset_ok zs
    obtain ⟨i1, i2⟩ := insP_ok z h1
    exact ⟨i1, fun k => by unfold pset; rw [i2 k, h2 k, List.mem_cons]⟩
theorem insI_ok (x : Int) : ∀ {l : List Int}, l.Pairwise (· < ·) → (insI x l).Pairwise (· < ·) ∧ ∀ k, k ∈ insI x l ↔ k = x ∨ k ∈ l
  | [], _ => ⟨by simp [insI], by simp [insI]⟩
  | y :: ys, h => by
    obtain ⟨h1, h2⟩ := List.pairwise_cons.mp h
    unfold insI
    split
    · rename_i c
      refine ⟨List.pairwise_cons.mpr ⟨fun z hz => ?_, h⟩, by simp⟩
      rcases List.mem_cons.mp hz with e | hz
      · subst e; exact c
      · have := h1 z hz; omega
    · rename_i c
      split
      · rename_i e
        subst e
        exact ⟨h, by simp⟩
      · rename_i ne
        obtain ⟨i1, i2⟩ := insI_ok x h2
        refine ⟨List.pairwise_cons.mpr ⟨fun z hz => ?_, i1⟩, fun k => ?_⟩
        · rcases (i2 z).mp hz with e | hz
          · subst e; omega
          · exact h1 z hz
        · rw [List.mem_cons, i2 k, List.mem_cons]
          constructor
          · rintro (e | e | e)
            · exact .inr (.inl e)
            · exact .inl e
            · exact .inr (.inr e)
          · rintro (e | e | e)
            · exact .inr (.inl e)
            · exact .inl e
            · exact .inr (.inr e)
theorem iset_ok : ∀ zs : List Int, (iset zs).Pairwise (· < ·) ∧ ∀ k, k ∈ iset zs ↔ k ∈ zs
  | [] => ⟨.nil, by simp [iset]⟩
  | z :: zs => by
    obtain ⟨h1, h2⟩ := iset_ok zs
    obtain ⟨i1, i2⟩ := insI_ok z h1
    exact ⟨i1, fun k => by unfold iset; rw [i2 k, h2 k, List.mem_cons]⟩
theorem iset_of {ys zs : List Int} (nd : zs.Nodup) (pm : ys.Perm zs) (so : ys.Pairwise (· ≤ ·)) : ys = iset zs := by
  obtain ⟨u1, u2⟩ := iset_ok zs
  refine uniq_of (lt := (· < ·)) (fun x y h => by omega) ?_ u1 fun k => (pm.mem_iff).trans (u2 k).symm
  have nd2 : ys.Nodup := pm.nodup_iff.mpr nd
  exact (List.pairwise_and_iff.mpr ⟨so, nd2⟩).imp fun {a b} h => by have := h.1; have := h.2; omega
end Q

/-! built-in functions and methods: mine against the layer's -/
namespace Q
open PySem PySem.Spec PyProof.Rows L2

section
variable {X : Cx} {W : Wd} {Y : WX} {σ : L2.St} {r : List Addr} {H : Hp} {hs : Hs} {Q : VK} {d e : D} {v u : V} {ds : List D} {vs : List V}

/-! ### parts -/
theorem items_at (m : Mt W r H hs) (x : Rv W r H d v) {l : List D} (h : itemsOf hs d = some l) : ∃ p us, v = .ref p ∧ (SqL W.K H p us ∨ SqT W.K H p us) ∧ Rvs W r H l us := by
  cases d <;> first | (cases h; done) | skip
  case tup ds =>
    cases x with | tup t es =>
    cases h
    exact ⟨_, _, rfl, .inr t.sq, es⟩
  case ref n =>
    cases x with | ref ha =>
    simp only [itemsOf] at h
    split at h
    · rename_i xs hx
      obtain ⟨vs, h1, es⟩ := m.lst ha hx
      cases h
      exact ⟨_, _, rfl, .inl (SqL.of h1), es⟩
    · rename_i xs hx
      obtain ⟨ob, vs, h1, es⟩ := m.frz ha hx
      cases h
      exact ⟨_, _, rfl, .inl (.inl (.inr ⟨ob, h1⟩)), es⟩
    · cases h
theorem list_at (m : Mt W r H hs) (x : Rv W r H d v) {l : List D} (h : listOf hs d = some l) : ∃ p us, v = .ref p ∧ SqL W.K H p us ∧ Rvs W r H l us := by
  cases d <;> first | (cases h; done) | skip
  case ref n =>
    cases x with | ref ha =>
    simp only [listOf] at h
    split at h
    · rename_i xs hx
      obtain ⟨vs, h1, es⟩ := m.lst ha hx
      cases h
      exact ⟨_, _, rfl, SqL.of h1, es⟩
    · rename_i xs hx
      obtain ⟨ob, vs, h1, es⟩ := m.frz ha hx
      cases h
      exact ⟨_, _, rfl, .inl (.inr ⟨ob, h1⟩), es⟩
    · cases h
theorem ints_at : ∀ {l : List D} {us : List V} {ns : List Int}, Rvs W r H l us → intsL l = some ns → us = ns.map V.int
  | [], _, _, .nil, h => by cases h; rfl
  | d :: l, _, ns, .cons x t, h => by
    cases d <;> first | (cases h; done) | skip
    rename_i i
    cases x
    simp only [intsL] at h
    cases q : intsL l with
    | none => rw [q] at h; cases h
    | some ms =>
      rw [q] at h
      cases h
      rw [List.map_cons, ints_at t q]
theorem bools_at : ∀ {l : List D} {us : List V} {ns : List Bool}, Rvs W r H l us → boolsL l = some ns → us = ns.map V.bl
  | [], _, _, .nil, h => by cases h; rfl
  | d :: l, _, ns, .cons x t, h => by
    cases d <;> first | (cases h; done) | skip
    rename_i i
    cases x
    simp only [boolsL] at h
    cases q : boolsL l with
    | none => rw [q] at h; cases h
    | some ms =>
      rw [q] at h
      cases h
      rw [List.map_cons, bools_at t q]
theorem strs_at : ∀ {l : List D} {us : List V} {ns : List Str}, Rvs W r H l us → strsL l = some ns → us = ns.map V.str
  | [], _, _, .nil, h => by cases h; rfl
  | d :: l, _, ns, .cons x t, h => by
    cases d <;> first | (cases h; done) | skip
    rename_i i
    cases x
    simp only [strsL] at h
    cases q : strsL l with
    | none => rw [q] at h; cases h
    | some ms =>
      rw [q] at h
      cases h
      rw [List.map_cons, strs_at t q]
theorem leastI_le : ∀ (xs : List Int) (m : Int), leastI xs m ≤ m ∧ ∀ y ∈ xs, leastI xs m ≤ y
  | [], m => ⟨Int.le_refl _, fun _ h => nomatch h⟩
  | x :: xs, m => by
    obtain ⟨h1, h2⟩ := leastI_le xs (if x < m then x else m)
    simp only [leastI]
    have h3 : (if x < m then x else m) ≤ m ∧ (if x < m then x else m) ≤ x := by split <;> omega
    refine ⟨by omega, fun y hy => ?_⟩
    rcases List.mem_cons.mp hy with e | hy
    · subst e; omega
    · exact h2 y hy
theorem leastI_mem : ∀ (xs : List Int) (m : Int), leastI xs m ∈ m :: xs
  | [], m => List.mem_cons_self
  | x :: xs, m => by
    have h := leastI_mem xs (if x < m then x else m)
    simp only [leastI]
    rcases List.mem_cons.mp h with e | h
    · rw [e]; split
      · exact List.mem_cons_of_mem _ List.mem_cons_self
      · exact List.mem_cons_self
    · exact List.mem_cons_of_mem _ (List.mem_cons_of_mem _ h)
theorem mostI_le : ∀ (xs : List Int) (m : Int), m ≤ mostI xs m ∧ ∀ y ∈ xs, y ≤ mostI xs m
  | [], m => ⟨Int.le_refl _, fun _ h => nomatch h⟩
  | x :: xs, m => by
    obtain ⟨h1, h2⟩ := mostI_le xs (if m < x then x else m)
    simp only [mostI]
    have h3 : m ≤ (if m < x then x else m) ∧ x ≤ (if m < x then x else m) := by split <;> omega
    refine ⟨by omega, fun y hy => ?_⟩
    rcases List.mem_cons.mp hy with e | hy
    · subst e; omega
    · exact h2 y hy
theorem mostI_mem : ∀ (xs : List Int) (m : Int), mostI xs m ∈ m :: xs
  | [], m => List.mem_cons_self
  | x :: xs, m => by
    have h := mostI_mem xs (if m < x then x else m)
    simp only [mostI]
    rcases List.mem_cons.mp h with e | h
    · rw [e]; split
      · exact List.mem_cons_of_mem _ List.mem_cons_self
      · exact List.mem_cons_self
    · exact List.mem_cons_of_mem _ (List.mem_cons_of_mem _ h)

theorem tups_at : ∀ {l : List D} {us : List V} {kk : List (List Int)}, Rvs W r H l us → tupsI l = some kk →
    ∃ ks : List (Addr × List Int), us = ks.map (fun p => V.ref p.1) ∧ (∀ p ∈ ks, SqT W.K H p.1 (p.2.map V.int)) ∧ ks.map (·.2) = kk
  | [], _, _, .nil, h => by cases h; exact ⟨[], rfl, (fun _ z => nomatch z), rfl⟩
  | d :: l, _, kk, .cons x t, h => by
    cases d <;> first | (cases h; done) | skip
    rename_i ds
    cases x with | tup tt es =>
    simp only [tupsI] at h
    split at h
    · rename_i k ks hk hks
      cases h
      obtain ⟨kss, e1, e2, e3⟩ := tups_at t hks
      have e4 := ints_at es hk
      subst e4
      refine ⟨(_, k) :: kss, by rw [e1]; rfl, fun p hp => ?_, by rw [List.map_cons, e3]⟩
      rcases List.mem_cons.mp hp with e | hp
      · subst e; exact tt.sq
      · exact e2 p hp
    · cases h
theorem keys_strs : ∀ {ks : List Key} {l : List Str}, strsL (ks.map keyD) = some l → ks = l.map Sum.inr
  | [], l, h => by cases h; rfl
  | k :: ks, l, h => by
    cases k with
    | inl i => cases h
    | inr x =>
      simp only [List.map_cons, keyD, strsL] at h
      obtain ⟨l2, e, rfl⟩ := Option.map_eq_some_iff.mp h
      rw [keys_strs e]; rfl
theorem keys_ints : ∀ {ks : List Key} {l : List Int}, intsL (ks.map keyD) = some l → ks = l.map Sum.inl
  | [], l, h => by cases h; rfl
  | k :: ks, l, h => by
    cases k with
    | inr i => cases h
    | inl x =>
      simp only [List.map_cons, keyD, intsL] at h
      obtain ⟨l2, e, rfl⟩ := Option.map_eq_some_iff.mp h
      rw [keys_ints e]; rfl
theorem nodup_of_map' {α β : Type} {f : α → β} : ∀ {l : List α}, (l.map f).Nodup → l.Nodup := fun h => by
  have := List.pairwise_map.mp h
  exact this.imp fun {a b} h e => h (by rw [e])
theorem rvs_ints {W : Wd} {r : List Addr} {H : Hp} : ∀ l : List Int, Rvs W r H (l.map D.int) (l.map V.int)
  | [] => .nil
  | i :: l => .cons (.int i) (rvs_ints l)
theorem rvs_strs : ∀ {l : List Str}, (l.all PyData.strOk) = true → Rvs W r H (l.map .str) (l.map V.str)
  | [], _ => .nil
  | x :: l, h => by
    rw [List.all_cons, Bool.and_eq_true] at h
    exact .cons (.str x h.1) (rvs_strs h.2)
/-! ### built-in functions -/
abbrev RF := List V → Hp → VK → Prop
theorem crU {f : Value} {a b : RF} (h : CallR X f a) (k : CallR X f b) : CallR X f (fun xs H Q => a xs H Q ∨ b xs H Q) := by
  intro pins s σ H xs us Q I rx q
  rcases q with q | q
  · exact h pins s σ H xs us Q I rx q
  · exact k pins s σ H xs us Q I rx q
abbrev RLenA (K : PySem.W.Frag) : RF := fun xs H Q => ∃ x n, xs = [x] ∧ LenV K x H n ∧ Q (.int n) H
abbrev RLenD : RF := fun xs H Q => ∃ a kvs, xs = [V.ref a] ∧ H a = some (.dK kvs) ∧ Q (.int kvs.length) H
abbrev RAbs : RF := fun xs H Q => ∃ i, xs = [.int i] ∧ Q (.int (if i < 0 then -i else i)) H
abbrev RMin2 : RF := fun xs H Q => ∃ i j, xs = [.int i, .int j] ∧ Q (.int (if j < i then j else i)) H
abbrev RMax2 : RF := fun xs H Q => ∃ i j, xs = [.int i, .int j] ∧ Q (.int (if j > i then j else i)) H
abbrev RInt1 : RF := fun xs H Q => (∃ i, xs = [.int i] ∧ Q (.int i) H) ∨ ∃ k, xs = [.bl k] ∧ Q (.int (if k then 1 else 0)) H
abbrev RIntS : RF := fun xs H Q => ∃ a n, xs = [.str a] ∧ PySem.intText? a = some n ∧ a.length ≤ 640 ∧ Q (.int n) H
abbrev RStrI : RF := fun xs H Q => ∃ i, xs = [.int i] ∧ i.natAbs.log2 < 1920 ∧ Q (.str (toString i)) H
abbrev RTupO (K : PySem.W.Frag) : RF := fun xs H Q => ∃ p ys, xs = [.ref p] ∧ ((SqL K H p ys ∧ ∀ l, H l = none → Q (.ref l) (upd H l (.tup ys))) ∨ (SqT K H p ys ∧ Q (.ref p) H))
abbrev RLstO (K : PySem.W.Frag) : RF := fun xs H Q => ∃ p ys, xs = [.ref p] ∧ (SqL K H p ys ∨ SqT K H p ys) ∧ ∀ l, H l = none → Q (.ref l) (upd H l (.lst ys))
abbrev RLstD : RF := fun xs H Q => ∃ (a : Addr) (kvs : List (Key × V)), xs = [.ref a] ∧ Rd H a (.dK kvs) ∧ ∀ p, H p = none → Q (.ref p) (upd H p (.lst (kvs.map fun kv => kV kv.1)))
abbrev RSrtS : RF := fun xs H Q => ∃ (a : Addr) (kvs : List (Key × V)) (ks : List Str), xs = [.ref a] ∧ Rd H a (.dK kvs) ∧ kvs.map (·.1) = ks.map Sum.inr ∧ ks.length < 64 ∧ ∀ ys p, ys.Perm ks → sortedS ys = true → H p = none → Q (.ref p) (upd H p (.lst (ys.map V.str)))
abbrev RSrtI : RF := fun xs H Q => ∃ (a : Addr) (kvs : List (Key × V)) (ks : List Int), xs = [.ref a] ∧ Rd H a (.dK kvs) ∧ kvs.map (·.1) = ks.map Sum.inl ∧ ks.length < 64 ∧ ∀ (ys : List Int) (p : Addr), ys.Perm ks → ys.Pairwise (· ≤ ·) → H p = none → Q (.ref p) (upd H p (.lst (ys.map V.int)))
def RBi (K : PySem.W.Frag) : Bi → RF
  | .len => fun xs H Q => RLenA K xs H Q ∨ RLenD xs H Q
  | .abs => RAbs
  | .min => fun xs H Q => RMin2 xs H Q ∨ ((rMin K xs H Q ∨ rMinT K xs H Q) ∨ (rMinP K xs H Q ∨ rMinL K xs H Q))
  | .max => fun xs H Q => RMax2 xs H Q ∨ (rMax K xs H Q ∨ rMaxT K xs H Q)
  | .int => fun xs H Q => RInt1 xs H Q ∨ RIntS xs H Q
  | .str => RStrI
  | .tuple => RTupO K
  | .list => fun xs H Q => RLstO K xs H Q ∨ RLstD xs H Q
  | .sum => fun xs H Q => rSum K xs H Q ∨ rSumT K xs H Q
  | .any => rAny K
  | .all => rAll K
  | .sorted => fun xs H Q => RSrtS xs H Q ∨ RSrtI xs H Q
  | _ => fun _ _ _ => False
def Bi.val : Bi → String × Value
  | .len => ("len", .builtin "len")
  | .abs => ("abs", .builtin "abs")
  | .min => ("min", .builtin "min")
  | .max => ("max", .builtin "max")
  | .int => ("int", .type "int")
  | .str => ("str", .type "str")
  | .tuple => ("tuple", .type "tuple")
  | .list => ("list", .type "list")
  | .sum => ("sum", .builtin "sum")
  | .any => ("any", .builtin "any")
  | .all => ("all", .builtin "all")
  | .sorted => ("sorted", .builtin "sorted")
  | _ => ("", .none)
theorem cr_none {f : Value} : CallR X f (fun _ _ _ => False) := fun _ _ _ _ _ _ _ _ _ h => h.elim
theorem call_bi (hc : X.calm = true) (hu : X.A.units + 152 < cLine) : ∀ f : Bi, CallR X f.val.2 (RBi X.K f)
  | .len => crU call_len call_lenD
  | .abs => call_abs
  | .min => crU (call_min2 hc) (crU (crU (cr_min hc) (cr_minT hc)) (crU (cr_minP hc hu) (cr_minL hc hu)))
  | .max => crU (call_max2 hc) (crU (cr_max hc) (cr_maxT hc))
  | .int => crU call_int1 call_int_str
  | .str => call_str_int
  | .tuple => call_tuple_of
  | .list => crU call_list_of (call_listD hc)
  | .sum => crU (cr_sum hc) (cr_sumT hc)
  | .any => cr_any hc
  | .all => cr_all hc
  | .sortedset => cr_none
  | .sorted => crU (call_sortedD hc) (call_sortedDI hc)
  | .lenset => cr_none
theorem log_of {i : Int} (h : strB i) : i.natAbs.log2 < 1920 := by
  unfold strB at h
  omega
theorem keys_rvs : ∀ (ks : List Key) (ds : List D) (vs : List V), ks.length = ds.length → vs.length = ds.length → (∀ x : Str, Sum.inr x ∈ ks → PyData.strOk x = true) →
    Rvs W r H (((ks.map keyD).zip ds).map (·.1)) ((ks.zip vs).map fun kv => kV kv.1) := by
  intro ks
  induction ks with
  | nil => intro ds vs _ _ _; exact .nil
  | cons k ks ih =>
    intro ds vs h1 h2 h3
    cases ds with
    | nil => simp at h1
    | cons d ds =>
      cases vs with
      | nil => simp at h2
      | cons v vs =>
        refine .cons ?_ (ih ds vs (by simpa using h1) (by simpa using h2) fun x hx => h3 x (List.mem_cons_of_mem _ hx))
        cases k with
        | inl i => exact .int i
        | inr x => exact .str x (h3 x List.mem_cons_self)
/-! ### a number and a point -/
def toT (q : Int × Int × Int × Int) : Int × PySem.W.Tup Int := (q.1, ⟨[q.2.1, q.2.2.1, q.2.2.2]⟩)
theorem toT_inj {p q : Int × Int × Int × Int} (h : toT p = toT q) : p = q := by
  obtain ⟨a, b, c, d⟩ := p
  obtain ⟨x, y, z, w⟩ := q
  simp only [toT, Prod.mk.injEq, PySem.W.Tup.mk.injEq, List.cons.injEq] at h
  obtain ⟨h1, h2, h3, h4, _⟩ := h
  rw [h1, h2, h3, h4]
theorem qlt_eq (a b : Int × Int × Int × Int) : PySem.W.DatumOrd.lt (toT a) (toT b) = qlt a b := by
  obtain ⟨a1, a2, a3, a4⟩ := a
  obtain ⟨b1, b2, b3, b4⟩ := b
  show (if a1 = b1 then PySem.W.listLt [a2, a3, a4] [b2, b3, b4] else decide (a1 < b1)) = _
  simp only [PySem.W.listLt, qlt]
  rfl
theorem qmin_eq (q : Int × Int × Int × Int) : ∀ l : List (Int × Int × Int × Int), PySem.W.minOf (toT q) (l.map toT) = toT (qmin l q) := fun l => by
  unfold PySem.W.minOf qmin
  induction l generalizing q with
  | nil => rfl
  | cons y l ih =>
    rw [List.map_cons, List.foldl_cons, List.foldl_cons, ← ih, qlt_eq]
    cases qlt y q <;> rfl
theorem quadOf_eq {d : D} {q : Int × Int × Int × Int} (e : quadOf d = some q) : d = quadD q := by
  unfold quadOf at e
  split at e
  · cases e; rfl
  · cases e
theorem quad_dp {d : D} {v : V} {q : Int × Int × Int × Int} (x : Rv W r H d v) (e : quadOf d = some q) : Dp W.K H v (PySem.W.Datum.toD (toT q)) := by
  rw [quadOf_eq e] at x
  exact (rs_gd (f := fun _ => none) (fun _ _ _ h _ => by cases h) x (x := quadD q) (by simp [quadD, rsF, rsFs])).dp
theorem quads_dp : ∀ {ds : List D} {us : List V} {l : List (Int × Int × Int × Int)}, Rvs W r H ds us → quadsL ds = some l → DpAll W.K H us ((l.map toT).map PySem.W.Datum.toD)
  | [], _, l, .nil, e => by cases e; exact .nil
  | d :: ds, _, l, .cons x t, e => by
    simp only [quadsL] at e
    split at e
    · rename_i q hq
      obtain ⟨l2, e2, rfl⟩ := Option.map_eq_some_iff.mp e
      exact .cons (quad_dp x hq) (quads_dp t e2)
    · cases e
theorem quads_at : ∀ {ds : List D} {us : List V} {l : List (Int × Int × Int × Int)} {i : Nat} {y : V} {q : Int × Int × Int × Int}, Rvs W r H ds us → quadsL ds = some l → us[i]? = some y → l[i]? = some q → ∃ d, d = quadD q ∧ Rv W r H d y
  | [], _, l, i, y, q, .nil, _, hi, _ => by simp at hi
  | d :: ds, _, l, i, y, q, .cons x t, e, hi, hl => by
    simp only [quadsL] at e
    split at e
    · rename_i q0 hq
      obtain ⟨l2, e2, rfl⟩ := Option.map_eq_some_iff.mp e
      cases i with
      | zero =>
        cases hi
        cases hl
        exact ⟨d, quadOf_eq hq, x⟩
      | succ i => exact quads_at t e2 (by simpa using hi) (by simpa using hl)
    · cases e
theorem quad_min {l : List (Int × Int × Int × Int)} {q : Int × Int × Int × Int} {i : Nat} (h : ((q :: l)[i]?).map toT = some (PySem.W.minOf (toT q) (l.map toT))) : (q :: l)[i]? = some (qmin l q) := by
  rw [qmin_eq] at h
  obtain ⟨p, h1, h2⟩ := Option.map_eq_some_iff.mp h
  rw [h1, toT_inj h2]
theorem q_bi (m : Mt W r H hs) (x : Rvs W r H ds vs) : ∀ f : Bi, f ≠ .sortedset ∧ f ≠ .lenset → PD W Y σ r H (f.run ds hs) Q → RBi W.K f vs H Q
  | .len, _, p => by
    cases x with
    | nil => exact False.elim p
    | cons x t =>
      cases t with
      | cons _ _ => rename_i d _ _ _ _ _ _ _; cases d <;> exact False.elim p
      | nil =>
        rename_i d v
        cases d <;> first | exact False.elim p | skip
        case str z =>
          cases x
          simp only [Bi.run] at p
          split at p
          · rename_i hz
            exact .inl ⟨_, _, rfl, ⟨by rw [sl_eq]; exact hz, rfl⟩, pd_ok p m (.int _)⟩
          · exact False.elim p
        case tup es =>
          cases x with | tup t es =>
          exact .inl ⟨_, _, rfl, .inr ⟨_, t.sq, rfl⟩, by rw [es.length]; exact pd_ok p m (.int _)⟩
        case ref n =>
          cases x with | ref ha =>
          simp only [Bi.run] at p
          split at p
          · rename_i xs hx
            obtain ⟨us, h1, es⟩ := m.lst ha hx
            exact .inl ⟨_, _, rfl, .inl ⟨_, SqL.of h1, rfl⟩, by rw [es.length]; exact pd_ok p m (.int _)⟩
          · rename_i xs hx
            obtain ⟨ob, us, h1, es⟩ := m.frz ha hx
            exact .inl ⟨_, _, rfl, .inl ⟨_, .inl (.inr ⟨ob, h1⟩), rfl⟩, by rw [es.length]; exact pd_ok p m (.int _)⟩
          · rename_i xs hx
            obtain ⟨ks, ds, us, h1, h2, h3, h4, h5⟩ := m.at_ n _ _ ha hx
            refine .inr ⟨_, _, rfl, h1, ?_⟩
            have e : (ks.zip us).length = xs.length := by
              subst h2
              have := h5.length
              simp [List.length_zip] <;> omega
            rw [e]
            exact pd_ok p m (.int _)
          · exact False.elim p
  | .abs, _, p => by
    cases x with
    | nil => exact False.elim p
    | cons x t =>
      rename_i d _ _ _
      cases t with
      | cons _ _ => cases d <;> exact False.elim p
      | nil =>
        cases d <;> first | exact False.elim p | skip
        cases x
        exact ⟨_, rfl, pd_ok p m (.int _)⟩
  | .min, _, p => by
    cases x with
    | nil => exact False.elim p
    | cons x t =>
      rename_i d _ _ _
      cases t with
      | cons y t =>
        rename_i e _ _ _
        cases t with
        | cons _ _ => cases d <;> cases e <;> exact False.elim p
        | nil =>
          cases d <;> cases e <;> first | exact False.elim p | skip
          · cases x; cases y
            exact .inl ⟨_, _, rfl, pd_ok p m (.int _)⟩
          · rename_i a b
            have p2 : PD W Y σ r H (quadMin2 a b hs) Q := p
            unfold quadMin2 at p2
            split at p2
            · rename_i q1 q2 e1 e2
              have f1 := quad_dp x e1
              have f2 := quad_dp y e2
              refine .inr (.inr (.inl ⟨_, _, _, _, rfl, f1, f2, ?_⟩))
              rw [qlt_eq]
              cases c : qlt q2 q1 with
              | true => rw [c] at p2; exact pd_ok p2 m y
              | false => rw [c] at p2; exact pd_ok p2 m x
            · exact False.elim p2
      | nil =>
        by_cases ht : ∃ ds, d = .tup ds
        · obtain ⟨ds, rfl⟩ := ht
          cases ds with
          | nil => exact False.elim p
          | cons e ds =>
            cases e <;> first | exact False.elim p | skip
            rename_i i
            cases x with | tup t es =>
            obtain ⟨l, hl, p'⟩ := pd_opt p
            cases es with | cons y es =>
            cases y
            have hu := ints_at es hl
            subst hu
            refine .inr (.inl (.inr ⟨_, i :: l, rfl, t.sq, Nat.succ_pos _, fun z hz hm => ?_⟩))
            have h2 := leastI_le l i
            have h3 := leastI_mem l i
            have h4 : z = leastI l i := by
              have h5 := hm _ h3
              rcases List.mem_cons.mp hz with e | e
              · subst e; omega
              · have := h2.2 _ e; omega
            rw [h4]
            exact pd_ok p' m (.int _)
        have p' : PD W Y σ r H (match listOf hs d with
          | some (.int i :: xs) => opt (intsL xs) (fun l => .int (leastI l i)) hs
          | some (.tup t :: xs) => quadMin t xs hs
          | _ => .bad) Q := by cases d <;> first | exact p | exact absurd ⟨_, rfl⟩ ht
        split at p'
        · rename_i i xs hx
          obtain ⟨p1, us, rfl, h1, es⟩ := list_at m x hx
          obtain ⟨l, hl, p'⟩ := pd_opt p'
          cases es with | cons y es =>
          cases y
          have hu := ints_at es hl
          subst hu
          refine .inr (.inl (.inl ⟨p1, i :: l, rfl, h1, Nat.succ_pos _, fun z hz hm => ?_⟩))
          have h2 := leastI_le l i
          have h3 := leastI_mem l i
          have h4 : z = leastI l i := by
            have h5 := hm _ h3
            rcases List.mem_cons.mp hz with e | e
            · subst e; omega
            · have := h2.2 _ e; omega
          rw [h4]
          exact pd_ok p' m (.int _)
        · rename_i t0 xs hx
          obtain ⟨p1, us, rfl, h1, es⟩ := list_at m x hx
          unfold quadMin at p'
          split at p'
          · rename_i q l e1 e2
            have en : quadsL (.tup t0 :: xs) = some (q :: l) := by simp only [quadsL, e1, e2, Option.map_some]
            refine .inr (.inr (.inr ⟨p1, us, _, _, rfl, h1, quads_dp es en, fun i y hi hm => ?_⟩))
            obtain ⟨d, hd1, hd2⟩ := quads_at es en hi (by rw [← List.map_cons (f := toT), List.getElem?_map] at hm; exact quad_min hm)
            rw [hd1] at hd2
            exact pd_ok p' m hd2
          · exact False.elim p'
        · exact False.elim p'
  | .max, _, p => by
    cases x with
    | nil => exact False.elim p
    | cons x t =>
      rename_i d _ _ _
      cases t with
      | cons y t =>
        rename_i e _ _ _
        cases t with
        | cons _ _ => cases d <;> cases e <;> exact False.elim p
        | nil =>
          cases d <;> cases e <;> first | exact False.elim p | skip
          cases x; cases y
          exact .inl ⟨_, _, rfl, pd_ok p m (.int _)⟩
      | nil =>
        by_cases ht : ∃ ds, d = .tup ds
        · obtain ⟨ds, rfl⟩ := ht
          cases ds with
          | nil => exact False.elim p
          | cons e ds =>
            cases e <;> first | exact False.elim p | skip
            rename_i i
            cases x with | tup t es =>
            obtain ⟨l, hl, p'⟩ := pd_opt p
            cases es with | cons y es =>
            cases y
            have hu := ints_at es hl
            subst hu
            refine .inr (.inr ⟨_, i :: l, rfl, t.sq, Nat.succ_pos _, fun z hz hm => ?_⟩)
            have h2 := mostI_le l i
            have h3 := mostI_mem l i
            have h4 : z = mostI l i := by
              have h5 := hm _ h3
              rcases List.mem_cons.mp hz with e | e
              · subst e; omega
              · have := h2.2 _ e; omega
            rw [h4]
            exact pd_ok p' m (.int _)
        have p' : PD W Y σ r H (match listOf hs d with
          | some (.int i :: xs) => opt (intsL xs) (fun l => .int (mostI l i)) hs
          | _ => .bad) Q := by cases d <;> first | exact p | exact absurd ⟨_, rfl⟩ ht
        split at p'
        · rename_i i xs hx
          obtain ⟨p1, us, rfl, h1, es⟩ := list_at m x hx
          obtain ⟨l, hl, p'⟩ := pd_opt p'
          cases es with | cons y es =>
          cases y
          have hu := ints_at es hl
          subst hu
          refine .inr (.inl ⟨p1, i :: l, rfl, h1, Nat.succ_pos _, fun z hz hm => ?_⟩)
          have h2 := mostI_le l i
          have h3 := mostI_mem l i
          have h4 : z = mostI l i := by
            have h5 := hm _ h3
            rcases List.mem_cons.mp hz with e | e
            · subst e; omega
            · have := h2.2 _ e; omega
          rw [h4]
          exact pd_ok p' m (.int _)
        · exact False.elim p'
  | .int, _, p => by
    cases x with
    | nil => exact False.elim p
    | cons x t =>
      rename_i d _ _ _
      cases t with
      | cons _ _ => cases d <;> exact False.elim p
      | nil =>
        cases d <;> first | exact False.elim p | skip
        case bl => cases x; exact .inl (.inr ⟨_, rfl, pd_ok p m (.int _)⟩)
        case int => cases x; exact .inl (.inl ⟨_, rfl, pd_ok p m (.int _)⟩)
        case str =>
          cases x
          simp only [Bi.run] at p
          split at p
          · rename_i hz
            obtain ⟨n, hn, p⟩ := pd_opt p
            exact .inr ⟨_, n, rfl, hn, hz, pd_ok p m (.int _)⟩
          · exact False.elim p
  | .str, _, p => by
    cases x with
    | nil => exact False.elim p
    | cons x t =>
      rename_i d _ _ _
      cases t with
      | cons _ _ => cases d <;> exact False.elim p
      | nil =>
        cases d <;> first | exact False.elim p | skip
        cases x
        simp only [Bi.run] at p
        split at p
        · rename_i hz
          exact ⟨_, rfl, log_of hz.1, pd_ok p m (.str _ hz.2)⟩
        · exact False.elim p
  | .tuple, _, p => by
    cases x with
    | nil => exact False.elim p
    | cons x t =>
      cases t with
      | cons _ _ => exact False.elim p
      | nil =>
        simp only [Bi.run] at p
        obtain ⟨l, hl, p'⟩ := pd_opt p
        rename_i d _
        cases d <;> first | (cases hl; done) | skip
        case tup =>
          cases x with | tup t es' =>
          cases hl
          exact ⟨_, _, rfl, .inr ⟨t.sq, pd_ok p' m (.tup t es')⟩⟩
        case ref n =>
          cases x with | ref ha =>
          simp only [itemsOf] at hl
          split at hl
          · rename_i xs hx
            cases hl
            obtain ⟨us, h1, es⟩ := m.lst ha hx
            exact ⟨_, _, rfl, .inl ⟨SqL.of h1, pd_tup p' m es⟩⟩
          · rename_i xs hx
            cases hl
            obtain ⟨ob, us, h1, es⟩ := m.frz ha hx
            exact ⟨_, _, rfl, .inl ⟨.inl (.inr ⟨ob, h1⟩), pd_tup p' m es⟩⟩
          · cases hl
  | .list, _, p => by
    cases x with
    | nil => exact False.elim p
    | cons x t =>
      rename_i d _ _ _
      cases t with
      | cons _ _ => cases d <;> exact False.elim p
      | nil =>
        cases d <;> first | exact False.elim p | skip
        case tup =>
          cases x with | tup t es =>
          exact .inl ⟨_, _, rfl, .inr t.sq, pd_lst p m es⟩
        case ref n =>
          cases x with | ref ha =>
          simp only [Bi.run] at p
          split at p
          · rename_i xs hx
            obtain ⟨us, h1, es⟩ := m.lst ha hx
            exact .inl ⟨_, _, rfl, .inl (SqL.of h1), pd_lst p m es⟩
          · rename_i xs hx
            obtain ⟨ob, us, h1, es⟩ := m.frz ha hx
            exact .inl ⟨_, _, rfl, .inl (.inl (.inr ⟨ob, h1⟩)), pd_lst p m es⟩
          · rename_i xs hx
            obtain ⟨ks, ds, us, h1, h2, h3, h4, h5⟩ := m.at_ n _ _ ha hx
            subst h2
            exact .inr ⟨_, _, rfl, .inl h1, pd_lst p m (keys_rvs ks ds us h3 h5.length h4.2)⟩
          · exact False.elim p
  | .sum, _, p => by
    cases x with
    | nil => exact False.elim p
    | cons x t =>
      cases t with
      | cons _ _ => exact False.elim p
      | nil =>
        simp only [Bi.run] at p
        obtain ⟨l, hl, p⟩ := pd_opt p
        obtain ⟨l1, hl1, hl2⟩ := Option.bind_eq_some_iff.mp hl
        obtain ⟨p1, us, rfl, h1, es⟩ := items_at m x hl1
        have hu := ints_at es hl2
        subst hu
        rcases h1 with h1 | h1
        · exact .inl ⟨p1, l, rfl, h1, pd_ok p m (.int _)⟩
        · exact .inr ⟨p1, l, rfl, h1, pd_ok p m (.int _)⟩
  | .any, _, p => by
    cases x with
    | nil => exact False.elim p
    | cons x t =>
      cases t with
      | cons _ _ => exact False.elim p
      | nil =>
        simp only [Bi.run] at p
        obtain ⟨l, hl, p⟩ := pd_opt p
        obtain ⟨l1, hl1, hl2⟩ := Option.bind_eq_some_iff.mp hl
        obtain ⟨p1, us, rfl, h1, es⟩ := list_at m x hl1
        have hu := bools_at es hl2
        subst hu
        exact ⟨p1, l, rfl, h1, pd_ok p m (.bl _)⟩
  | .all, _, p => by
    cases x with
    | nil => exact False.elim p
    | cons x t =>
      cases t with
      | cons _ _ => exact False.elim p
      | nil =>
        simp only [Bi.run] at p
        obtain ⟨l, hl, p⟩ := pd_opt p
        obtain ⟨l1, hl1, hl2⟩ := Option.bind_eq_some_iff.mp hl
        obtain ⟨p1, us, rfl, h1, es⟩ := list_at m x hl1
        have hu := bools_at es hl2
        subst hu
        exact ⟨p1, l, rfl, h1, pd_ok p m (.bl _)⟩
  | .sortedset, hf, _ => absurd rfl hf.1
  | .sorted, _, p => by
    cases x with
    | nil => exact False.elim p
    | cons x t =>
      cases t with
      | cons _ _ => rename_i d _ _ _ _ _ _ _; cases d <;> exact False.elim p
      | nil =>
        rename_i d v
        cases d <;> first | exact False.elim p | skip
        cases x with | ref ha =>
        simp only [Bi.run] at p
        split at p
        · rename_i xs hx
          split at p
          · rename_i few
            obtain ⟨ks, ds, us, h1, h2, h3, h4, h5⟩ := m.at_ _ _ _ ha hx
            subst h2
            have e1 : (((ks.map keyD).zip ds).map (·.1)) = ks.map keyD := by
              rw [List.map_fst_zip]; rw [List.length_map, h3]; exact Nat.le_refl _
            have e2 : (ks.zip us).map (·.1) = ks := by
              rw [List.map_fst_zip]; rw [h5.length, h3]; exact Nat.le_refl _
            have few' : ks.length < 60 := by
              have : ((ks.map keyD).zip ds).length = ks.length := by rw [List.length_zip, List.length_map, h3, Nat.min_self]
              omega
            split at p
            · rename_i l hl
              rw [e1] at hl
              have e3 := keys_strs hl
              subst e3
              have nd : l.Nodup := (nodup_of_map' h4.1)
              refine .inl ⟨_, _, l, rfl, .inl h1, by rw [e2], by rw [List.length_map] at few'; omega, fun ys q pm so hn => ?_⟩
              have e4 := sset_of so (pm.nodup_iff.mpr nd) fun k => pm.mem_iff
              subst e4
              have ok : ((sset l).all PyData.strOk) = true := by
                rw [List.all_eq_true]
                intro x hx
                exact h4.2 x (List.mem_map.mpr ⟨x, (pm.mem_iff).mp hx, rfl⟩)
              exact pd_lst p m (rvs_strs ok) q hn
            · rename_i hno
              split at p
              · rename_i l hl
                rw [e1] at hl
                have e3 := keys_ints hl
                subst e3
                have nd : l.Nodup := (nodup_of_map' h4.1)
                refine .inr ⟨_, _, l, rfl, .inl h1, by rw [e2], by rw [List.length_map] at few'; omega, fun ys q pm so hn => ?_⟩
                have e4 := iset_of nd pm so
                subst e4
                exact pd_lst p m (rvs_ints _) q hn
              · exact False.elim p
          · exact False.elim p
        · exact False.elim p
  | .lenset, hf, _ => absurd rfl hf.2
end
end Q

/-! stores into lists and dicts, built-in methods: mine against the layer's -/
namespace Q
open PySem PySem.Spec PyProof.Rows L2

section
variable {X : Cx} {W : Wd} {Y : WX} {σ : L2.St} {r : List Addr} {H : Hp} {hs : Hs} {Q : VK} {d e : D} {v u : V} {ds : List D} {vs : List V}

/-! ### dicts, rewritten -/
def putR (q : Key) (w : V) : List (Key × V) → List (Key × V)
  | [] => [(q, w)]
  | (a, u) :: l => if a = q then (a, w) :: l else (a, u) :: putR q w l
theorem putK_cons_ne {a q : Key} {u w : V} {l : List (Key × V)} (h : ¬ a = q) : putK ((a, u) :: l) q w = (a, u) :: putK l q w := by
  unfold putK
  simp only [List.any_cons, decide_eq_false h, Bool.false_or]
  split
  · simp [h]
  · simp
theorem map_id_of {q : Key} {w : V} : ∀ {l : List (Key × V)}, q ∉ l.map (·.1) → (l.map fun kv => if kv.1 = q then (kv.1, w) else kv) = l
  | [], _ => rfl
  | (a, u) :: l, h => by
    have h1 : ¬ a = q := fun e => h (by simp [e])
    have h2 : q ∉ l.map (·.1) := fun e => h (by simp at e ⊢; exact .inr e)
    simp only [List.map_cons, h1, if_false]
    rw [map_id_of h2]
theorem putK_R {q : Key} {w : V} : ∀ {l : List (Key × V)}, (l.map (·.1)).Nodup → putK l q w = putR q w l
  | [], _ => by simp [putK, putR]
  | (a, u) :: l, h => by
    rw [List.map_cons, List.nodup_cons] at h
    by_cases e : a = q
    · subst e
      have e1 : putK ((a, u) :: l) a w = (a, w) :: l := by
        unfold putK
        simp only [List.any_cons, decide_true, Bool.true_or, if_true, List.map_cons]
        rw [map_id_of h.1]
      rw [e1]
      simp [putR]
    · rw [putK_cons_ne e, putK_R h.2]
      simp [putR, e]
def delR (q : Key) : List (Key × V) → List (Key × V)
  | [] => []
  | (a, u) :: l => if a = q then l else (a, u) :: delR q l
theorem filter_id_of {q : Key} : ∀ {l : List (Key × V)}, q ∉ l.map (·.1) → (l.filter fun kv => decide (kv.1 ≠ q)) = l := by
  intro l h
  rw [List.filter_eq_self]
  intro kv hk
  have : kv.1 ≠ q := fun e => h (e ▸ List.mem_map_of_mem hk)
  simpa using this
theorem dropK_R {q : Key} : ∀ {l : List (Key × V)}, (l.map (·.1)).Nodup → dropK l q = delR q l
  | [], _ => rfl
  | (a, u) :: l, h => by
    rw [List.map_cons, List.nodup_cons] at h
    by_cases e : a = q
    · subst e
      unfold dropK
      rw [List.filter_cons]
      simp only [ne_eq, not_true_eq_false, decide_false, Bool.false_eq_true, if_false, delR, if_true]
      exact filter_id_of h.1
    · have h2 := dropK_R (q := q) h.2
      unfold dropK at h2 ⊢
      rw [List.filter_cons, h2]
      simp [delR, e]
theorem zip_fst {ks : List Key} : ∀ {vs : List V}, vs.length = ks.length → (ks.zip vs).map (·.1) = ks := by
  induction ks with
  | nil => intro vs _; rfl
  | cons k ks ih =>
    intro vs h
    cases vs with
    | nil => simp at h
    | cons v vs => simp only [List.zip_cons_cons, List.map_cons]; rw [ih (by simpa using h)]
theorem put_zip (q : Key) (x : Rv W r H e v) : ∀ (ks : List Key) (ds : List D) (vs : List V), ks.length = ds.length → Rvs W r H ds vs → ks.Nodup →
    ∃ (ks' : List Key) (ds' : List D) (vs' : List V), putR q v (ks.zip vs) = ks'.zip vs' ∧ dput (keyD q) e ((ks.map keyD).zip ds) = (ks'.map keyD).zip ds' ∧ ks'.length = ds'.length ∧ Rvs W r H ds' vs' ∧ ks'.Nodup ∧ (∀ k ∈ ks', k = q ∨ k ∈ ks)
  | [], ds, vs, h, t, _ => by
    cases t with
    | nil => exact ⟨[q], [e], [v], rfl, rfl, rfl, .cons x .nil, by simp, by simp⟩
    | cons _ _ => simp at h
  | k :: ks, [], _, h, _, _ => by simp at h
  | k :: ks, d :: ds, _, h, .cons (v := w) (vs := vs) y t, nd => by
    rw [List.nodup_cons] at nd
    simp only [List.zip_cons_cons, List.map_cons, putR, dput, key_deq]
    by_cases eq : k = q
    · simp only [eq, if_true, decide_true]
      exact ⟨q :: ks, e :: ds, v :: vs, rfl, rfl, by simpa using h, .cons x t, List.nodup_cons.mpr ⟨eq ▸ nd.1, nd.2⟩, fun k' hk' => by
        rcases List.mem_cons.mp hk' with e1 | e1
        · exact .inl e1
        · exact .inr (List.mem_cons_of_mem _ e1)⟩
    · obtain ⟨ks', ds', vs', h1, h2, h3, h4, h5, h6⟩ := put_zip q x ks ds vs (by simpa using h) t nd.2
      simp only [eq, if_false, decide_false, Bool.false_eq_true]
      refine ⟨k :: ks', d :: ds', w :: vs', by rw [h1]; rfl, by rw [h2]; rfl, by simp [h3], .cons y h4, List.nodup_cons.mpr ⟨fun hk => ?_, h5⟩, fun k' hk' => ?_⟩
      · rcases h6 k hk with e1 | e1
        · exact eq e1
        · exact nd.1 e1
      · rcases List.mem_cons.mp hk' with e1 | e1
        · exact .inr (e1 ▸ List.mem_cons_self)
        · rcases h6 k' e1 with e2 | e2
          · exact .inl e2
          · exact .inr (List.mem_cons_of_mem _ e2)
theorem del_zip (q : Key) : ∀ (ks : List Key) (ds : List D) (vs : List V), ks.length = ds.length → Rvs W r H ds vs → ks.Nodup →
    ∃ (ks' : List Key) (ds' : List D) (vs' : List V), delR q (ks.zip vs) = ks'.zip vs' ∧ ddel (keyD q) ((ks.map keyD).zip ds) = (ks'.map keyD).zip ds' ∧ ks'.length = ds'.length ∧ Rvs W r H ds' vs' ∧ ks'.Nodup ∧ (∀ k ∈ ks', k ∈ ks)
  | [], ds, vs, h, t, _ => ⟨[], [], [], rfl, by simp [ddel], rfl, .nil, by simp, by simp⟩
  | k :: ks, [], _, h, _, _ => by simp at h
  | k :: ks, d :: ds, _, h, .cons (v := w) (vs := vs) y t, nd => by
    rw [List.nodup_cons] at nd
    simp only [List.zip_cons_cons, List.map_cons, delR, ddel, key_deq]
    by_cases eq : k = q
    · simp only [eq, if_true, decide_true]
      exact ⟨ks, ds, vs, rfl, rfl, by simpa using h, t, nd.2, fun k' hk' => List.mem_cons_of_mem _ hk'⟩
    · obtain ⟨ks', ds', vs', h1, h2, h3, h4, h5, h6⟩ := del_zip q ks ds vs (by simpa using h) t nd.2
      simp only [eq, if_false, decide_false, Bool.false_eq_true]
      refine ⟨k :: ks', d :: ds', w :: vs', by rw [h1]; rfl, by rw [h2]; rfl, by simp [h3], .cons y h4, List.nodup_cons.mpr ⟨fun hk => nd.1 (h6 k hk), h5⟩, fun k' hk' => ?_⟩
      rcases List.mem_cons.mp hk' with e1 | e1
      · exact e1 ▸ List.mem_cons_self
      · exact List.mem_cons_of_mem _ (h6 k' e1)

/-! ### o[i] = v -/
theorem psU {a b : TSet} (h : PSet X a) (k : PSet X b) : PSet X (fun o i v H Q => a o i v H Q ∨ b o i v H Q) := by
  intro pins s σ H o i v ov iv u Q I ro ri rv q
  rcases q with q | q
  · exact h pins s σ H o i v ov iv u Q I ro ri rv q
  · exact k pins s σ H o i v ov iv u Q I ro ri rv q
def RSetD : TSet := fun o i v H Q => ∃ a H', o = .ref a ∧ DPut H a i v H' ∧ Q H'
theorem set_dic (hu : X.A.units + 1 < cLine) : PSet X RSetD := by
  intro pins s σ H o i v ov iv u Q I ro ri rv h
  obtain ⟨a, H', eo, g, q⟩ := h
  subst eo
  cases ro
  exact d_setItem hu I g ri rv fun s' I' => ⟨H', I', q⟩
def RSetX (K : PySem.W.Frag) (P : Program) (w : World) : TSet := fun o i v H Q => ∃ a b k xs, o = .ref a ∧ i = .ref b ∧ IsX K P w H a xs ∧ KeyAt K H b k ∧ xs.length < sizeLine ∧ Q (upd H a (dXo P w a (xput xs k b v)))
theorem set_dicX (hu : X.A.units + 1 < cLine) : PSet X (RSetX X.K X.prog X.w) := by
  intro pins s σ H o i v ov iv u Q I ro ri rv h
  obtain ⟨a, b, k, xs, rfl, rfl, g1, g2, hl, q⟩ := h
  cases ro; cases ri
  exact dx_setItem hu I g1 g2 rv hl fun s' I' => ⟨_, I', q⟩
abbrev RSet (K : PySem.W.Frag) (P : Program) (w : World) : TSet := fun o i v H Q => rSetL o i v H Q ∨ RSetD o i v H Q ∨ RSetX K P w o i v H Q
theorem set_U (hu : X.A.units + 1 < cLine) : PSet X (RSet X.K X.prog X.w) := psU set_list (psU (set_dic hu) (set_dicX hu))
theorem dk_lt (m : Mt W r H hs) {n : Nat} {a : Addr} {kvs : List (D × D)} (ha : r[n]? = some a) (hx : hs[n]? = some (.dic false kvs)) (hl : kvs.length < SZ) (k : kOk false d = true) (x : Rv W r H d v) (y : Rv W r H e u) :
    ∃ o, DPut H a v u (upd H a o) ∧ OAt W r (upd H a o) a (.dic false (dput d e kvs)) := by
  obtain ⟨ks, ds, vs, h1, h2, h3, h4, h5⟩ := m.at_ n a _ ha hx
  obtain ⟨q, rfl, rfl⟩ := key_at k x
  have hlen : vs.length = ks.length := by rw [h5.length, h3]
  obtain ⟨ks', ds', vs', g1, g2, g3, g4, g5, g6⟩ := put_zip q y ks ds vs h3 h5 h4.1
  refine ⟨.dK (putK (ks.zip vs) q u), DPut.k h1 ?_, ?_⟩
  · have e1 : (ks.zip vs).length = kvs.length := by
      subst h2
      simp [List.length_zip, hlen, h3]
    rw [e1, sl_eq]
    exact hl
  · have e2 : putK (ks.zip vs) q u = ks'.zip vs' := by rw [putK_R (by rw [zip_fst hlen]; exact h4.1), g1]
    refine ⟨ks', ds', vs', by rw [← e2]; exact upd_same, by subst h2; exact g2, g3, ⟨g5, fun z hz => ?_⟩, g4.mono (ext_set m ha _)⟩
    rcases g6 _ hz with e3 | e3
    · subst e3
      simp only [kV] at x
      cases x with | str _ kk => exact kk
    · exact h4.2 z e3
/-! ### the same for tuples as keys -/
section
variable {κ : Type} [DecidableEq κ]
end
theorem KX.repl {kvs : List (D × D)} {xs : List XE} (h : KX W r H kvs xs) {kds : List D} {k : List Key} (hk : keysD kds = some k) {e : D} {u : V} (y : Rv W r H e u) : k ∉ xs.map (·.1) → xs.map (fun x => if x.1 = k then (x.1, x.2.1, u) else x) = xs := by
  intro hn
  have : ∀ l : List XE, k ∉ l.map (·.1) → l.map (fun x => if x.1 = k then (x.1, x.2.1, u) else x) = l := by
    intro l
    induction l with
    | nil => intro _; rfl
    | cons x l ih =>
      intro h
      simp only [List.map_cons, List.mem_cons, not_or] at h ⊢
      rw [if_neg (fun z => h.1 z.symm), ih h.2]
  exact this xs hn
theorem KX.put {kvs : List (D × D)} {xs : List XE} (h : KX W r H kvs xs) {kds : List D} {k : List Key} (hk : keysD kds = some k) {e : D} {u : V} (y : Rv W r H e u) (b : Addr) (nd : (xs.map (·.1)).Nodup) :
    KX W r H (dput (.tup kds) e kvs) (xput xs k b u) ∧ ((xput xs k b u).map (·.1)).Nodup := by
  have key : KX W r H (dput (.tup kds) e kvs) (xput xs k b u) ∧ ((k ∈ xs.map (·.1) ∧ (xput xs k b u).map (·.1) = xs.map (·.1)) ∨ (k ∉ xs.map (·.1) ∧ (xput xs k b u).map (·.1) = xs.map (·.1) ++ [k])) := by
    induction h with
    | nil => exact ⟨.cons ⟨⟨kds, rfl, hk⟩, y⟩ .nil, .inr ⟨by simp, rfl⟩⟩
    | @cons p x ps xs h t ih =>
      obtain ⟨⟨kd, e1, e2⟩, e3⟩ := h
      obtain ⟨p1, p2⟩ := p
      simp only at e1
      subst e1
      simp only [List.map_cons, List.nodup_cons] at nd
      have de : deq (.tup kd) (.tup kds) = decide (x.1 = k) := keysD_deq e2 hk
      simp only [dput, de]
      by_cases q : x.1 = k
      · have a : (xat (x :: xs) k).isSome = true := by simp [xat, List.find?_cons, q]
        have nk : k ∉ xs.map (·.1) := by rw [← q]; exact nd.1
        have pe : xput (x :: xs) k b u = (x.1, x.2.1, u) :: xs := by
          unfold xput
          rw [if_pos a, List.map_cons, if_pos q, KX.repl t hk y nk]
        rw [decide_eq_true q, pe]
        refine ⟨.cons ⟨⟨kd, rfl, e2⟩, y⟩ t, .inl ⟨by simp [q], rfl⟩⟩
      · obtain ⟨i1, i2⟩ := ih nd.2
        have a : xat (x :: xs) k = xat xs k := by simp [xat, List.find?_cons, q]
        have pe : xput (x :: xs) k b u = x :: xput xs k b u := by
          unfold xput
          rw [a]
          by_cases z : (xat xs k).isSome = true
          · rw [if_pos z, if_pos z, List.map_cons, if_neg q]
          · rw [if_neg z, if_neg z]; rfl
        rw [decide_eq_false q, pe]
        refine ⟨.cons ⟨⟨kd, rfl, e2⟩, e3⟩ i1, ?_⟩
        have q' : ¬ k = x.1 := fun z => q z.symm
        simp only [List.map_cons, List.mem_cons, q', false_or]
        rcases i2 with ⟨j1, j2⟩ | ⟨j1, j2⟩
        · exact .inl ⟨j1, by rw [j2]⟩
        · exact .inr ⟨j1, by rw [j2]; rfl⟩
  refine ⟨key.1, ?_⟩
  rcases key.2 with ⟨_, e1⟩ | ⟨hn, e1⟩
  · rw [e1]; exact nd
  · rw [e1, List.nodup_append]
    exact ⟨nd, by simp, fun a ha b hb e => by rw [List.mem_singleton] at hb; subst hb; subst e; exact hn ha⟩
theorem xput_mem {xs : List XE} {k : List Key} {b : Addr} {v : V} {x : XE} (h : x ∈ xput xs k b v) : (∃ y ∈ xs, x.1 = y.1 ∧ x.2.1 = y.2.1) ∨ (x.1 = k ∧ x.2.1 = b) := by
  unfold xput at h
  split at h
  · obtain ⟨y, hy, e⟩ := List.mem_map.mp h
    refine .inl ⟨y, hy, ?_⟩
    split at e <;> subst e <;> exact ⟨rfl, rfl⟩
  · rcases List.mem_append.mp h with h | h
    · exact .inl ⟨x, h, rfl, rfl⟩
    · rw [List.mem_singleton] at h; subst h; exact .inr ⟨rfl, rfl⟩
theorem dt_lt (m : Mt W r H hs) {n : Nat} {a : Addr} {kvs : List (D × D)} (ha : r[n]? = some a) (hx : hs[n]? = some (.dic true kvs)) (hl : kvs.length < SZ) (k : kOk true d = true) (x : Rv W r H d v) (y : Rv W r H e u) :
    ∃ b ks xs, v = .ref b ∧ IsX W.K W.P W.w H a xs ∧ KeyAt W.K H b ks ∧ xs.length < sizeLine ∧ OAt W r (upd H a (dXo W.P W.w a (xput xs ks b u))) a (.dic true (dput d e kvs)) := by
  obtain ⟨xs, h1, h2, h3⟩ := m.at_ n a _ ha hx
  obtain ⟨kds, ks, vs, b, rfl, e1, rfl, t, e2⟩ := tkey_at k x
  have xe := ext_set m ha (dXo W.P W.w a (xput xs ks b u))
  obtain ⟨g1, g2⟩ := h2.put e1 y b h3
  refine ⟨b, ks, xs, rfl, h1.isX, ⟨vs, t.sq, e2⟩, by rw [sl_eq, ← Paired.length h2]; exact hl, _, .inl ⟨upd_same, fun z hz => ?_⟩, g1.mono xe, g2⟩
  rcases xput_mem hz with ⟨z', hz', q1, q2⟩ | ⟨q1, q2⟩
  · rw [q1, q2]
    rcases h1 with ⟨_, h1⟩ | ⟨h1, _⟩
    · obtain ⟨vs', t', k'⟩ := h1 z' hz'
      exact ⟨vs', t'.mono xe, k'⟩
    · subst h1; cases hz'
  · rw [q1, q2]
    exact ⟨vs, t.mono xe, e2⟩
theorem q_set (m : Mt W r H hs) {d1 d2 d3 : D} {v1 v2 v3 : V} (x : Rv W r H d1 v1) (y : Rv W r H d2 v2) (z : Rv W r H d3 v3) {hs' : Hs} (h : setI d1 d2 d3 hs = some hs') {P : Hp → Prop}
    (p : ∀ H', Ext r H r H' → Mt W r H' hs' → P H') : RSet W.K W.P W.w v1 v2 v3 H P := by
  cases d1 <;> first | (cases h; done) | skip
  case ref n =>
    cases x with | ref ha =>
    simp only [setI] at h
    split at h
    · rename_i _ _ xs i hx
      cases y
      obtain ⟨vs, h1, es⟩ := m.lst ha hx
      cases q : ixN xs.length i with
      | none => rw [q] at h; cases h
      | some j =>
        rw [q] at h
        cases h
        refine .inl ⟨_, vs, i, j, rfl, rfl, h1, by rw [es.length]; exact q, p _ (ext_set m ha _) (m.set ha (set_lst m ha (es.set z j)))⟩
    · rename_i t kvs hx
      split at h
      · rename_i hk
        cases h
        cases t with
        | true =>
          obtain ⟨b, ks, xs, rfl, g1, g2, g3, g4⟩ := dt_lt m ha hx hk.2 hk.1 y z
          exact .inr (.inr ⟨_, b, ks, xs, rfl, rfl, g1, g2, g3, p _ (ext_set m ha _) (m.set ha g4)⟩)
        | false =>
          obtain ⟨o, g1, g2⟩ := dk_lt m ha hx hk.2 hk.1 y z
          exact .inr (.inl ⟨_, _, rfl, g1, p _ (ext_set m ha _) (m.set ha g2)⟩)
      · cases h
    · cases h

/-! ### built-in methods -/
abbrev RM := V → List V → Hp → VK → Prop
abbrev RInsert : RM := fun x vs H Q => ∃ (l : Addr) (xs : List V) (i : Int) (y : V), x = .ref l ∧ vs = [.int i, y] ∧ H l = some (.lst xs) ∧ xs.length < sizeLine ∧ 0 ≤ i ∧ i < 2 ^ 63 ∧ Q .non (upd H l (.lst (xs.take i.toNat ++ [y] ++ xs.drop i.toNat)))
abbrev RSplit : RM := fun x xs H Q => ∃ a b, x = .str a ∧ xs = [.str b] ∧ (b.length == 0) = false ∧ a.length + 2 ≤ sizeLine ∧ rNewStrs (Txt.split a b) H Q
abbrev RJoin (K : PySem.W.Frag) : RM := fun x xs H Q => ∃ a p, ∃ ys : List Str, x = .str a ∧ xs = [.ref p] ∧ (SqL K H p (ys.map V.str) ∨ SqT K H p (ys.map V.str)) ∧ (ys.map (·.length)).sum + ys.length * a.length ≤ 16777216 ∧ Q (.str (Txt.join a ys)) H
def RDget : RM := fun x xs H Q => ∃ a y d o, x = .ref a ∧ xs = [y, d] ∧ DGet H a y o ∧ Q (o.getD d) H
def RDpop : RM := fun x xs H Q => ∃ a kvs k v, x = .ref a ∧ xs = [kV k] ∧ H a = some (.dK kvs) ∧ valV kvs k = some v ∧ Q v (upd H a (.dK (dropK kvs k)))
def RCount (K : PySem.W.Frag) : RM := fun x xs H Q => ∃ (a : Addr) (ys : List V) (y : V) (d : PyData) (ds : List PyData), x = V.ref a ∧ xs = [y] ∧ SqL K H a ys ∧ DpAll K H ys ds ∧ Dp K H y d ∧ PyData.canLayAll0 ds = true ∧ d.canLay0 = true ∧ min (PyData.depthAll ds) d.depth ≤ 150 ∧
  Q (.int (ds.countP fun z => PyData.eqv z d : Nat)) H
def RBm (K : PySem.W.Frag) : Bm → RM
  | .append => rAppend
  | .extend => rExtend
  | .insert => RInsert
  | .pop => rPop
  | .popAt => rPopAt
  | .clear => rClear
  | .count => RCount K
  | .index => rIndexD K
  | .split => RSplit
  | .join => RJoin K
  | .get => RDget
  | .dpop => RDpop
  | .indexFrom => fun _ _ _ _ => False
def Rk.ty : Rk → String
  | .s => "str"
  | .d => "dict"
  | .l => "list"
def Bm.ty (m : Bm) : String := m.rk.ty
def Bm.name : Bm → String
  | .append => "append"
  | .extend => "extend"
  | .insert => "insert"
  | .pop | .popAt | .dpop => "pop"
  | .clear => "clear"
  | .count => "count"
  | .index | .indexFrom => "index"
  | .split => "split"
  | .join => "join"
  | .get => "get"
def Bm.id : Bm → String
  | .append => "list.append"
  | .extend => "list.extend"
  | .insert => "list.insert"
  | .pop => "list.pop"
  | .popAt => "list.pop"
  | .clear => "list.clear"
  | .count => "list.count"
  | .index => "list.index"
  | .split => "str.split"
  | .join => "str.join"
  | .get => "dict.get"
  | .dpop => "dict.pop"
  | .indexFrom => "list.index"
theorem mt_dget (hu : X.A.units + 1 < cLine) : MtR X "dict.get" RDget := by
  intro pins s σ H x xs v us Q I rx rxs h
  obtain ⟨a, y, d, o, rfl, rfl, g, q⟩ := h
  cases rx
  obtain ⟨u1, u2, rfl, r1, r2⟩ := rxs.two
  exact d_get2 hu I g r1 r2 fun w' s' I' rw' => ⟨_, H, I', rw', q⟩
theorem mt_dpop : MtR X "dict.pop" RDpop := by
  intro pins s σ H x xs v us Q I rx rxs h
  obtain ⟨a, kvs, k, w, rfl, rfl, hh, hv, q⟩ := h
  cases rx
  obtain ⟨u1, rfl, r1⟩ := rxs.one
  exact d_pop I hh r1 hv (.inl rfl) fun w' s' I' rw' => ⟨_, _, I', rw', q⟩
theorem mt_countD (hu : X.A.units + 152 < cLine) : MtR X "list.count" (RCount X.K) := by
  intro pins s σ H x xs v us Q I rx rxs h
  obtain ⟨a, ys, y, d, ds, rfl, rfl, hs, ha, hy, c1, c2, dd, q⟩ := h
  cases rx
  obtain ⟨u1, rfl, ry⟩ := rxs.one
  obtain ⟨bs, r1⟩ := Dp.reads I d y u1 hy ry
  obtain ⟨its, rv, ⟨⟨cls, d0, data, sls⟩, n, ho, hc, hdn, hdt⟩, hlen⟩ := I.list hs
  simp only at hc hdt
  subst hc hdt
  obtain ⟨as, h4⟩ := Dp.readsAll I ds _ its ha rv
  have hmap : its.map (SeqAt.readOf s.heap) = ds := SeqAt.readsAll_map ds its as c1 h4
  refine call_meets PySem.F.slot_list_count ⟨_, ho, rfl⟩ PySem.F.entry_list_count (PySem.F.args_list_count_2 _ _)
    (SeqAt.list_countAt a its.toArray n d0 sls u1 (fun u => PyData.eqv (SeqAt.readOf s.heap u) d)) ⟨ho, SeqAt.items_eqAt (vs := its.toArray) (show ReadsAll s.heap its.toArray.toList ds as from h4) r1 c1 c2 (by omega), ?_⟩
  have e : its.toArray.toList.countP (fun u => (SeqAt.readOf s.heap u).eqv d) = ds.countP fun z => PyData.eqv z d := by
    rw [← hmap, List.countP_map]
    rfl
  rw [e]
  exact ⟨.int (ds.countP fun z => PyData.eqv z d : Nat), H, I.tok _, ⟨_, rfl⟩, q⟩
theorem mt_bm (hu : X.A.units + 152 < cLine) : ∀ m : Bm, MtR X m.id (RBm X.K m)
  | .append => mt_append
  | .extend => mt_extend
  | .insert => mt_insert
  | .pop => mt_pop
  | .popAt => mt_popAt
  | .clear => mt_clear
  | .count => mt_countD hu
  | .index => mt_indexD (by omega)
  | .split => mt_split
  | .join => mt_join
  | .get => mt_dget (by omega)
  | .dpop => mt_dpop
  | .indexFrom => fun _ _ _ _ _ _ _ _ _ _ _ _ h => h.elim
theorem bm_slot : ∀ m : Bm, PlainAttrs m.ty ∧ Slot m.ty (Str.ofString m.name) m.id ∧ typeOf (.builtin m.id) = pure (.type "method_descriptor")
  | .append => ⟨F.plainAttrs_list, F.slot_list_append, F.type_list_append⟩
  | .extend => ⟨F.plainAttrs_list, F.slot_list_extend, F.type_list_extend⟩
  | .insert => ⟨F.plainAttrs_list, F.slot_list_insert, F.type_list_insert⟩
  | .pop => ⟨F.plainAttrs_list, F.slot_list_pop, F.type_list_pop⟩
  | .popAt => ⟨F.plainAttrs_list, F.slot_list_pop, F.type_list_pop⟩
  | .clear => ⟨F.plainAttrs_list, F.slot_list_clear, F.type_list_clear⟩
  | .count => ⟨F.plainAttrs_list, F.slot_list_count, F.type_list_count⟩
  | .index => ⟨F.plainAttrs_list, F.slot_list_index, F.type_list_index⟩
  | .split => ⟨F.plainAttrs_str, F.slot_str_split, F.type_str_split⟩
  | .join => ⟨F.plainAttrs_str, F.slot_str_join, F.type_str_join⟩
  | .get => ⟨F.plainAttrs_dict, F.slot_dict_get, F.type_dict_get⟩
  | .dpop => ⟨F.plainAttrs_dict, F.slot_dict_pop, F.type_dict_pop⟩
  | .indexFrom => ⟨F.plainAttrs_list, F.slot_list_index, F.type_list_index⟩
theorem toPs_map : ∀ ys : List D, toPs ys = ys.map toP
  | [] => rfl
  | y :: ys => by rw [toPs, toPs_map ys]; rfl
theorem purs_mem : ∀ {ys : List D} {y : D}, purs ys = true → y ∈ ys → pur y = true
  | [], _, _, h => nomatch h
  | x :: xs, y, h, k => by
    simp only [purs, Bool.and_eq_true] at h
    rcases List.mem_cons.mp k with e | e
    · subst e; exact h.1
    · exact purs_mem h.2 e
/-- a list read as data -/
theorem rdN_lst (m : Mt W r H hs) {n : Nat} {a : Addr} {ys : List D} (ha : r[n]? = some a) (h : rdN hs 7 n = some (.lv ys)) : ∃ us, SqL W.K H a us ∧ Gds W.K H us ys := by
  unfold rdN at h
  split at h
  · rename_i xs hx
    obtain ⟨vs, h1, h2⟩ := m.lst ha hx
    cases q : rsFs (rdN hs 6) xs with
    | none => rw [q] at h; cases h
    | some ys =>
      rw [q] at h
      cases h
      exact ⟨vs, SqL.of h1, rs_gds (rdN_gd m 6) h2 q⟩
  · rename_i xs hx
    obtain ⟨ob, vs, h1, h2⟩ := m.frz ha hx
    cases q : rsFs (rdN hs 6) xs with
    | none => rw [q] at h; cases h
    | some ys =>
      rw [q] at h
      cases h
      exact ⟨vs, .inl (.inr ⟨ob, h1⟩), rs_gds (rdN_gd m 6) h2 q⟩
  · cases h
theorem tyL {p : Addr} {us : List V} {K : PySem.W.Frag} (h : SqL K H p us) : tyV K "list" (.ref p) H := .inl ⟨rfl, us, h⟩
theorem q_bm_ty (m : Mt W r H hs) (x : Rv W r H d v) (f : Bm) (h : bmK f d hs = true) : tyV W.K f.ty v H := by
  cases d <;> first | (cases h; done) | skip
  case str =>
    cases x
    simp only [bmK, beq_iff_eq] at h
    show f.ty = "str"
    rw [Bm.ty, h]; rfl
  case ref n =>
    cases x with | ref ha =>
    simp only [bmK] at h
    split at h
    · rename_i xs hx
      obtain ⟨vs, h1, _⟩ := m.lst ha hx
      rw [beq_iff_eq] at h
      rw [Bm.ty, h]
      exact tyL (SqL.of h1)
    · rename_i xs hx
      obtain ⟨ob, vs, h1, _⟩ := m.frz ha hx
      rw [beq_iff_eq] at h
      rw [Bm.ty, h]
      exact tyL (.inl (.inr ⟨ob, h1⟩))
    · rename_i t kvs hx
      cases t with
      | false =>
        have h : f.rk = .d := by simpa using h
        rw [Bm.ty, h]
        obtain ⟨ks, ds, vs, h1, _⟩ := m.at_ n _ _ ha hx
        exact .inr (.inr (.inl ⟨rfl, .inl ⟨_, h1⟩⟩))
      | true => simp at h
    · cases h
theorem rvs0 (x : Rvs W r H [] vs) : vs = [] := by cases x; rfl
theorem rvs1 {a : D} (x : Rvs W r H [a] vs) : ∃ u, vs = [u] ∧ Rv W r H a u := by
  cases x with | cons h t => cases t; exact ⟨_, rfl, h⟩
theorem rvs2 {a b : D} (x : Rvs W r H [a, b] vs) : ∃ u w, vs = [u, w] ∧ Rv W r H a u ∧ Rv W r H b w := by
  cases x with | cons h t => cases t with | cons h2 t2 => cases t2; exact ⟨_, _, rfl, h, h2⟩
theorem data_one (m : Mt W r H hs) {n : Nat} {a : Addr} {ys : List D} {x : D} (ha : r[n]? = some a) (h : rdN hs 7 n = some (.lv ys)) (xd : Rv W r H d v) (hx : rsv hs d = some x) :
    ∃ us, SqL W.K H a us ∧ DpAll W.K H us (toPs ys) ∧ PyData.canLayAll0 (toPs ys) = true ∧ Dp W.K H v (toP x) ∧ (toP x).canLay0 = true ∧ ∀ y ∈ ys, deq y x = PyData.eqv (toP y) (toP x) := by
  obtain ⟨us, h1, g⟩ := rdN_lst m ha h
  have gx := rsv_gd m xd hx
  exact ⟨us, h1, g.dp, g.can, gx.dp, gx.can, fun y hy => deq_toP y x (purs_mem g.pu hy) gx.pu⟩
theorem q_bm (m : Mt W r H hs) (x : Rv W r H d v) (xs : Rvs W r H ds vs) : ∀ f : Bm, PD W Y σ r H (f.run d ds hs) Q → RBm W.K f v vs H Q
  | .append, p => by
    cases d <;> first | exact False.elim p | skip
    rcases ds with _ | ⟨a, _ | ⟨b, ds⟩⟩ <;> first | exact False.elim p | skip
    obtain ⟨u, rfl, ru⟩ := rvs1 xs
    cases x with | ref ha =>
    simp only [Bm.run] at p
    split at p
    · rename_i l hx
      split at p
      · rename_i hz
        obtain ⟨us, h1, es⟩ := m.lst ha hx
        exact ⟨_, us, u, rfl, rfl, h1, by rw [sl_eq, es.length]; exact hz, pd_set p m ha (set_lst m ha (es.append (.cons ru .nil))) .non⟩
      · exact False.elim p
    · exact False.elim p
  | .extend, p => by
    cases d <;> first | exact False.elim p | skip
    rcases ds with _ | ⟨a, _ | ⟨b, ds⟩⟩ <;> first | exact False.elim p | skip
    · cases a <;> first | exact False.elim p | skip
      obtain ⟨u, rfl, ru⟩ := rvs1 xs
      cases x with | ref ha =>
      cases ru with | ref hb =>
      simp only [Bm.run] at p
      split at p
      · rename_i l l2 hx hy
        split at p
        · rename_i hz
          obtain ⟨us, h1, es⟩ := m.lst ha hx
          obtain ⟨us2, h2, es2⟩ := m.lst hb hy
          exact ⟨_, _, us, us2, rfl, rfl, h1, h2, by rw [sl_eq, es.length, es2.length]; exact hz, pd_set p m ha (set_lst m ha (es.append es2)) .non⟩
        · exact False.elim p
      · exact False.elim p
    · cases a <;> exact False.elim p
  | .insert, p => by
    cases d <;> first | exact False.elim p | skip
    rcases ds with _ | ⟨a, _ | ⟨b, _ | ⟨c, ds⟩⟩⟩ <;> first | exact False.elim p | (cases a <;> exact False.elim p) | skip
    cases a <;> first | exact False.elim p | skip
    obtain ⟨u, w, rfl, ru, rw'⟩ := rvs2 xs
    cases x with | ref ha =>
    cases ru
    simp only [Bm.run] at p
    split at p
    · rename_i l hx
      split at p
      · rename_i hz
        obtain ⟨us, h1, es⟩ := m.lst ha hx
        have h63 : SZ < 2 ^ 63 := by decide
        refine ⟨_, us, _, w, rfl, rfl, h1, by rw [sl_eq, es.length]; exact hz.2.2, hz.1, ?_, ?_⟩
        · have h2 := hz.2.1
          have h3 := hz.2.2
          have h4 : ((SZ : Nat) : Int) < 2 ^ 63 := by decide
          omega
        · rw [List.append_assoc]
          exact pd_set p m ha (set_lst m ha ((es.take _).append (.cons rw' (es.drop _)))) .non
      · exact False.elim p
    · exact False.elim p
  | .pop, p => by
    cases d <;> first | exact False.elim p | skip
    rcases ds with _ | ⟨a, ds⟩ <;> first | exact False.elim p | skip
    have e0 := rvs0 xs
    subst e0
    cases x with | ref ha =>
    simp only [Bm.run] at p
    split at p
    · rename_i l hx
      split at p
      · rename_i y hz
        obtain ⟨us, h1, es⟩ := m.lst ha hx
        obtain ⟨w, hw, rw'⟩ := es.get hz
        exact ⟨_, us, w, rfl, rfl, h1, by rw [es.length]; exact hw, pd_set p m ha (set_lst m ha es.dropLast) (rw'.mono (ext_set m ha _))⟩
      · exact False.elim p
    · exact False.elim p
  | .popAt, p => by
    cases d <;> first | exact False.elim p | skip
    rcases ds with _ | ⟨a, _ | ⟨b, ds⟩⟩ <;> first | exact False.elim p | (cases a <;> exact False.elim p) | skip
    cases a <;> first | exact False.elim p | skip
    obtain ⟨u, rfl, ru⟩ := rvs1 xs
    cases x with | ref ha =>
    cases ru
    simp only [Bm.run] at p
    split at p
    · rename_i y l hx
      split at p
      · rename_i hz
        subst hz
        obtain ⟨us, h1, es⟩ := m.lst ha hx
        cases es with | cons ry es =>
        rename_i w us
        exact ⟨_, _, 0, 0, w, rfl, rfl, h1, by decide, by decide, by simp [seqIndex?], rfl, pd_set p m ha (set_lst m ha es) (ry.mono (ext_set m ha _))⟩
      · exact False.elim p
    · exact False.elim p
  | .clear, p => by
    cases d <;> first | exact False.elim p | skip
    rcases ds with _ | ⟨a, ds⟩ <;> first | exact False.elim p | skip
    have e0 := rvs0 xs
    subst e0
    cases x with | ref ha =>
    simp only [Bm.run] at p
    split at p
    · rename_i l hx
      obtain ⟨us, h1, es⟩ := m.lst ha hx
      exact ⟨_, us, rfl, rfl, h1, pd_set p m ha (set_lst m ha .nil) .non⟩
    · exact False.elim p
  | .count, p => by
    cases d <;> first | exact False.elim p | skip
    rcases ds with _ | ⟨a, _ | ⟨b, ds⟩⟩ <;> first | exact False.elim p | skip
    obtain ⟨u, rfl, ru⟩ := rvs1 xs
    cases x with | ref ha =>
    simp only [Bm.run] at p
    split at p
    · rename_i ys x' h1 h2
      split at p
      · rename_i hz
        obtain ⟨us, g1, g2, g3, g4, g5, g6⟩ := data_one m ha h1 ru h2
        refine ⟨_, us, u, _, _, rfl, rfl, g1, g2, g4, g3, g5, by rw [ddep_toP, ddeps_toP]; omega, ?_⟩
        have e : (toPs ys).countP (fun z => PyData.eqv z (toP x')) = ys.countP fun y => deq y x' := by
          rw [toPs_map, List.countP_map]
          exact List.countP_congr fun y hy => by rw [Function.comp, g6 y hy]
        rw [e]
        exact pd_ok p m (.int _)
      · exact False.elim p
    · exact False.elim p
  | .index, p => by
    cases d <;> first | exact False.elim p | skip
    rcases ds with _ | ⟨a, _ | ⟨b, ds⟩⟩ <;> first | exact False.elim p | skip
    obtain ⟨u, rfl, ru⟩ := rvs1 xs
    cases x with | ref ha =>
    simp only [Bm.run] at p
    split at p
    · rename_i ys x' h1 h2
      split at p
      · rename_i hz
        obtain ⟨us, g1, g2, g3, g4, g5, g6⟩ := data_one m ha h1 ru h2
        obtain ⟨j, hj, p⟩ := pd_opt p
        obtain ⟨k1, k2, k3⟩ := List.findIdx?_eq_some_iff_getElem.mp hj
        refine ⟨_, u, _, _, j, toP ys[j], rfl, rfl, .lst g1 g2, g4, ?_, ?_, ?_, ?_, ?_, pd_ok p m (.int _)⟩
        · unfold SeqAt.shaped
          rw [Bool.and_eq_true]
          exact ⟨by simpa [PyData.canLay0] using g3, decide_eq_true (by simp only [PyData.depth]; rw [ddeps_toP]; omega)⟩
        · unfold SeqAt.shaped
          rw [Bool.and_eq_true]
          exact ⟨g5, decide_eq_true (by rw [ddep_toP]; omega)⟩
        · rw [toPs_map, List.getElem?_map, List.getElem?_eq_getElem k1]; rfl
        · rw [← g6 _ (List.getElem_mem k1)]; exact k2
        · intro i z hi hz'
          rw [toPs_map, List.getElem?_map, List.getElem?_eq_getElem (by omega)] at hz'
          cases hz'
          rw [← g6 _ (List.getElem_mem _)]
          simpa using k3 i hi
      · exact False.elim p
    · exact False.elim p
  | .split, p => by
    cases d <;> first | exact False.elim p | skip
    rcases ds with _ | ⟨a, _ | ⟨b, ds⟩⟩ <;> first | exact False.elim p | (cases a <;> exact False.elim p) | skip
    cases a <;> first | exact False.elim p | skip
    obtain ⟨u, rfl, ru⟩ := rvs1 xs
    cases x
    cases ru
    simp only [Bm.run] at p
    split at p
    · rename_i hz
      exact ⟨_, _, rfl, rfl, by simpa using hz.1, by rw [sl_eq]; exact hz.2.1, pd_lst p m (rvs_strs hz.2.2)⟩
    · exact False.elim p
  | .join, p => by
    cases d <;> first | exact False.elim p | skip
    rcases ds with _ | ⟨a, _ | ⟨b, ds⟩⟩ <;> first | exact False.elim p | skip
    obtain ⟨u, rfl, ru⟩ := rvs1 xs
    cases x
    simp only [Bm.run] at p
    split at p
    · rename_i l hl
      split at p
      · rename_i hz
        obtain ⟨l1, e1, e2⟩ := Option.bind_eq_some_iff.mp hl
        obtain ⟨q, us, rfl, h1, es⟩ := items_at m ru e1
        have hu := strs_at es e2
        subst hu
        exact ⟨_, _, l, rfl, rfl, h1, hz.1, pd_ok p m (.str _ hz.2)⟩
      · exact False.elim p
    · exact False.elim p
  | .get, p => by
    cases d <;> first | exact False.elim p | skip
    rcases ds with _ | ⟨a, _ | ⟨b, _ | ⟨c, ds⟩⟩⟩ <;> first | exact False.elim p | skip
    obtain ⟨u, w, rfl, ru, rw'⟩ := rvs2 xs
    cases x with | ref ha =>
    simp only [Bm.run] at p
    split at p
    · rename_i t kvs hx
      split at p
      · rename_i hk
        have hd := dic_get m ha hx ru hk
        split at hd
        · rename_i e he
          obtain ⟨w2, g1, g2⟩ := hd
          refine ⟨_, _, _, _, rfl, rfl, g1, ?_⟩
          rw [he] at p
          exact pd_ok p m g2
        · rename_i he
          refine ⟨_, _, _, _, rfl, rfl, hd, ?_⟩
          rw [he] at p
          exact pd_ok p m rw'
      · exact False.elim p
    · exact False.elim p
  | .dpop, p => by
    cases d <;> first | exact False.elim p | skip
    rcases ds with _ | ⟨a, _ | ⟨b, ds⟩⟩ <;> first | exact False.elim p | skip
    obtain ⟨u, rfl, ru⟩ := rvs1 xs
    cases x with | ref ha =>
    simp only [Bm.run] at p
    split at p
    · rename_i kvs hx
      split at p
      · rename_i hk
        split at p
        · rename_i y hy
          obtain ⟨ks, ds, vs, h1, h2, h3, h4, h5⟩ := m.at_ _ _ _ ha hx
          obtain ⟨q, rfl, rfl⟩ := key_at hk ru
          have hlen : vs.length = ks.length := by rw [h5.length, h3]
          have hd := dlook_val q ks ds vs h3 h5
          rw [← h2, hy] at hd
          obtain ⟨w, hw, rw'⟩ := hd
          obtain ⟨ks', ds', vs', g1, g2, g3, g4, g5, g6⟩ := del_zip q ks ds vs h3 h5 h4.1
          have e2 : dropK (ks.zip vs) q = ks'.zip vs' := by rw [dropK_R (by rw [zip_fst hlen]; exact h4.1), g1]
          refine ⟨_, _, q, w, rfl, rfl, h1, hw, pd_set p m ha ⟨ks', ds', vs', by rw [← e2]; exact upd_same, by subst h2; exact g2, g3, ⟨g5, fun z hz => h4.2 z (g6 _ hz)⟩, g4.mono (ext_set m ha _)⟩ (rw'.mono (ext_set m ha _))⟩
        · exact False.elim p
      · exact False.elim p
    · exact False.elim p
  | .indexFrom, p => by
    cases d <;> exact False.elim p
end
end Q

/-! isinstance: mine against the layer's -/
namespace Q
open PySem PySem.Spec PyProof.Rows L2

/-! ### an exception that is kept: its class -/
section
variable {prog : Program} {w : World} {A : Around} {E : Value → Shared → Prop} {s : Shared} {K : PySem.W.Frag} {x D : Addr}
/-- x is a thing of the class at D -/
def IsAt (x D : Addr) (h : Heap) : Prop := ∃ (ox : Obj) (od : Option Obj), PySem.W.InstAt h x ox D od
theorem find_cls {od : Option Obj} (c : ExcC K D) : PySem.W.findObj K D od "__class__" = some (.bind (.builtin "getset_descriptor.__get__") (.builtin "object.__class__")) := by
  obtain ⟨cd, hc, _⟩ := PySem.W.any_some c.hd
  unfold PySem.W.findObj
  have e1 : PySem.W.clsIn K D = some cd := hc
  rw [e1]
  simp only [Option.bind_some, c.ha, c.hn, c.ht]
theorem exc_cls {Q : Option Value → Shared → Prop} (c : ExcC K D) (X : K.In s.heap) (I : IsAt x D s.heap) (h : Q (some (.ref D)) { s with toks := s.toks + 1 }) : wpAny (model prog w) A (getAttr? (.ref x) "__class__") Q E s := by
  obtain ⟨ox, od, I⟩ := I
  obtain ⟨hp, g, dr, t, os⟩ := s
  have Lt := I.type (M := model prog w)
  have La := PySem.W.looks_findIn (M := model prog w) X c.hg
  have Lb := PySem.W.looks_findIn (M := model prog w) X c.hk
  have Lc := PySem.W.looks_find (M := model prog w) X I (find_cls c)
  have Ls : PySem.W.Looks (model prog w) hp (isInstance (.ref x) (.type "BaseException")) true := Lt.andThen (PySem.W.looks_subIn X c.hs)
  have n0 : (false && onTheHeap (Value.builtin "BaseException.__getattribute__")) = false := rfl
  have n1 : (Value.builtin "BaseException.__getattribute__" == Value.builtin "object.__getattribute__") = false := by decide +kernel
  have n2 : (onTheHeap (Value.ref D) && Value.builtin "BaseException.__getattribute__" == Value.builtin "object.__getattribute__") = false := by rw [n1]; rfl
  unfold getAttr? getAttrBy? getAttrBy
  refine wpAny_bind (wpAny_mkText (wpAny_bind (wpAny_attempt (wpAny_holding (wpAny_bind (Lt.at (wpAny_bind (La.at ?_))))))))
  show wpAny _ _ (if (onTheHeap (Value.ref D) && Value.builtin "BaseException.__getattribute__" == Value.builtin "object.__getattribute__") = true then _ else _) _ _ _
  rw [n2, if_neg Bool.false_ne_true]
  unfold getAttrByItsOwn hookBefore
  refine wpAny_bind ?_
  rw [if_pos (show onTheHeap (Value.ref D) = true from rfl)]
  refine Lb.at (wpAny_bind (wpAny_attempt (wpAny_holding ?_)))
  unfold callGetattribute
  rw [n0, if_neg Bool.false_ne_true]
  unfold boundAndCalled
  rw [PySem.F.excAttr_ValueError.ga.bind (.ref x)]
  refine wpAny_bind (wpAny_pure ?_)
  show wpAny _ _ (PySem.call (.builtin "BaseException.__getattribute__") [.ref x, .str "__class__" t]) _ _ _
  refine wpAny_call (codeAny_call_builtin PySem.F.excAttr_ValueError.ga.plain PySem.F.entry_bexc_ga ?_)
  refine @PySem.W.check_slot (model prog w) _ _ ⟨hp, g, dr, t + 1, os⟩ "BaseException.__getattribute__" "BaseException" "__getattribute__" (.ref x) [.str "__class__" t] [] _ (by decide +kernel) (by decide +kernel) Ls (PySem.F.args_bexc_ga (.ref x) (.str "__class__" t)) ?_
  unfold Builtin.«object.__getattribute__»
  refine wpAny_bind (wpAny_of_eq (a := ((Value.ref x : Value), [Value.str "__class__" t])) (by first | rfl | (simp only [slotArgs]; rfl)) ?_)
  refine wpAny_bind (wpAny_pure (wpAny_bind (Lt.at (wpAny_bind (Lc.at ?_)))))
  show wpAny _ _ (holding [Value.builtin "object.__class__"] (PySem.call (.builtin "getset_descriptor.__get__") [.builtin "object.__class__", .ref x, .ref D]) >>= ret) _ _ _
  refine wpAny_bind (wpAny_holding (wpAny_call (PySem.W.class_get (s := ⟨hp, g, dr, t + 1, os⟩) (ox := ox) (od := od) X I c.hm ?_)))
  refine wpAny_pure ?_
  show wpAny _ _ (handedOut (.ref D)) _ _ _
  rw [PySem.W.handedOut_of (v := .ref D) rfl]
  first
    | exact wpAny_pure (wpAny_pure h)
    | exact wpAny_pure h
    | exact wpAny_pure (wpAny_bind (wpAny_pure (wpAny_pure h)))
theorem kit_exc (c : ExcC K D) : PySem.W.KitX K (.ref x) (.ref D) (IsAt x D) := by
  obtain ⟨cd, hc, _⟩ := PySem.W.any_some c.hd
  have ⟨o, ho, hcd⟩ : ∃ o : Obj, K.lookup D = some o ∧ ∃ q, o.data = .cls q := by
    have e1 : PySem.W.clsIn K D = some cd := hc
    unfold PySem.W.clsIn at e1
    split at e1
    · rename_i a b q d ho
      exact ⟨_, ho, _, rfl⟩
    · cases e1
  obtain ⟨oc, od, oda, osl⟩ := o
  obtain ⟨q, hq⟩ := hcd
  simp only at hq
  subst hq
  refine ⟨fun _ _ _ ⟨_, _, I⟩ => I.type, fun M h X _ => ?_, fun h tp dd its n sl X e => ?_, fun X I k => exc_cls c X I k⟩
  · intro A' Q' E' s' k p
    unfold isType loadHead
    exact wpAny_bind (wpAny_loadPart (k _ _ (X _ _ ho)) (wpAny_pure p))
  · refine Bool.eq_false_iff.mpr fun p => ?_
    have e2 := Value.ref.inj (beq_iff_eq.mp p)
    subst e2
    cases (X _ _ ho).symm.trans e
end

/-! ### types -/
def Ty.val (W : Wd) : Ty → Value
  | .tint => .type "int"
  | .tbool => .type "bool"
  | .tstr => .type "str"
  | .ttuple => .type "tuple"
  | .tlist => .type "list"
  | .tval => .type "ValueError"
  | .own c => .ref (W.C c)
def Ty.v (W : Wd) : Ty → V
  | .tint => .ty "int"
  | .tbool => .ty "bool"
  | .tstr => .ty "str"
  | .ttuple => .ty "tuple"
  | .tlist => .ty "list"
  | .tval => .ty "ValueError"
  | .own c => .ref (W.C c)
theorem Ty.cls (W : Wd) (t : Ty) : ClsV (t.v W) (t.val W) := by cases t <;> first | exact .ty _ | exact .own _
def isTyC (c : Cn) : Ty → Bool
  | .own e => c.under e
  | .tval => c.isExc
  | _ => false
/-- what the classes must say -/
def tyOk (W : Wd) : Ty → Prop
  | .own e => W.has e = true
  | _ => True
structure ClsOk (W : Wd) : Prop where
  own : ∀ c : Cn, W.has c = true → c.isExc = false → Cls W.K (W.C c) ∧ PySem.W.findIn W.K (.ref (W.C c)) "__class__" = some (some (.builtin "object.__class__")) ∧ PySem.W.mroIn W.K (W.C c) (.type "object") = some true
  spec : PySem.W.specialIn W.K (.builtin "object.__class__") "__get__" = some (some (.builtin "getset_descriptor.__get__"))
  tak : PySem.W.takesIn W.K (.builtin "object.__class__") = some true
  exc : ∀ c : Cn, W.has c = true → c.isExc = true → ExcC W.K (W.C c)
  kit : ∀ (c : Cn) (t : Ty), W.has c = true → tyOk W t → PySem.W.kitOne W.K (.ref (W.C c)) (t.val W) = some (isTyC c t)
  kitT : ∀ (c : Cn) (n : String), W.has c = true → n ∈ ["NoneType", "bool", "int", "str", "tuple", "list", "dict"] → PySem.W.kitOne W.K (.type n) (.ref (W.C c)) = some false
section
variable {X : Cx} {W : Wd} {Y : WX} {σ : L2.St} {r : List Addr} {H : Hp} {hs : Hs} {Q : VK} {d e : D} {v u : V} {ds : List D} {vs : List V}
def TyMy (K : PySem.W.Frag) (H : Hp) (v : V) (t : Value) : Prop := TyX K H v t ∨ (∃ a D dx, v = .ref a ∧ H a = some (exT a D dx) ∧ ExcC K D ∧ t = .ref D ∧ (dx = none ∨ ∃ d l, dx = some d ∧ H d = some (.xd l))) ∨ ∃ a P w xs, v = .ref a ∧ H a = some (dXo P w a xs) ∧ t = .type "dict"
theorem kit_my {pins : List (Addr × Obj)} {s : Shared} {x : V} {u t : Value} (I : Inv X pins σ H s) (rx : L2.RelV x u) (ty : TyMy X.K H x t) : ∃ P : Heap → Prop, PySem.W.KitX X.K u t P ∧ P s.heap ∧ u ≠ .builtin "__main__.__loader__#opaque" := by
  rcases ty with ty | ⟨a, D, dx, rfl, h, c, rfl, hd⟩ | ⟨a, P, w, xs, rfl, h, rfl⟩
  · exact kit_of I rx ty
  rotate_left
  · cases rx
    obtain ⟨_, _, ys, _, ⟨o, es, ep, h1, h2, _⟩, _⟩ := (I.hok a _ h).1
    exact ⟨_, PySem.W.kitx_dict, ⟨o, h1, h2.1⟩, fun z => nomatch z⟩
  · cases rx
    refine ⟨_, kit_exc c, ?_, fun z => nomatch z⟩
    obtain ⟨⟨oe, vs, g1, g2, g3, g4⟩, _⟩ := (show ObjOk X.prog X.w H s.heap a (exT a D dx) from I.hok a _ h)
    obtain ⟨oc, od, oda, osl⟩ := oe
    simp only at g2 g3 g4
    subst g2 g3 g4
    rcases hd with rfl | ⟨d, l, rfl, hl⟩
    · exact ⟨_, none, g1, rfl, rfl, trivial⟩
    · obtain ⟨mA, ⟨o, _, _, ho, _⟩, _⟩ := (show ObjOk X.prog X.w H s.heap d (.xd l) from I.hok d _ hl)
      exact ⟨_, some o, g1, rfl, rfl, ho⟩
abbrev RF1 := List V → Hp → VK → Prop
def RIsi1 (K : PySem.W.Frag) : RF1 := fun xs H Q => ∃ (x c : V) (t u : Value) (b : Bool), xs = [x, c] ∧ ClsV c u ∧ TyMy K H x t ∧ PySem.W.kitOne K t u = some b ∧ Q (.bl b) H
def RIsiN (K : PySem.W.Frag) : RF1 := fun xs H Q => ∃ (x : V) (tp : Addr) (cs : List V) (t : Value) (us : List Value) (b : Bool), xs = [x, .ref tp] ∧ H tp = some (.tup cs) ∧ Paired ClsV cs us ∧ TyMy K H x t ∧ PySem.W.kitAny K t us = some b ∧ Q (.bl b) H
theorem call_isi1 : CallR X (.builtin "isinstance") (RIsi1 X.K) := by
  intro pins s σ H xs us Q I r h
  obtain ⟨x, c, t, u, b, rfl, k, ty, e, q⟩ := h
  obtain ⟨u1, u2, rfl, r1, r2⟩ := vals2 r
  have e2 := k.eq r2
  subst e2
  obtain ⟨P, Z, p, hx⟩ := kit_my I r1 ty
  exact PySem.W.kia_one Z I.kIn p e hx fun tk => ⟨.bl b, H, I.tok tk, rfl, q⟩
theorem call_isiN : CallR X (.builtin "isinstance") (RIsiN X.K) := by
  intro pins s σ H xs us Q I r h
  obtain ⟨x, tp, cs, t, ws, b, rfl, hT, k, ty, e, q⟩ := h
  obtain ⟨u1, u2, rfl, r1, r2⟩ := vals2 r
  cases r2
  obtain ⟨P, Z, p, hx⟩ := kit_my I r1 ty
  obtain ⟨_, its, rv, o, h1, h2, n, h3⟩ := (show ObjOk X.prog X.w H s.heap tp (.tup cs) from I.hok tp _ hT)
  have e3 := ClsV.all k rv
  subst e3
  obtain ⟨oc, od, dt, sl⟩ := o
  simp only at h2 h3
  subst h2 h3
  exact PySem.W.kia_tup Z I.kIn p h1 e hx fun tk => ⟨.bl b, H, I.tok tk, rfl, q⟩
abbrev RIsi (K : PySem.W.Frag) : RF1 := fun xs H Q => RIsi1 K xs H Q ∨ RIsiN K xs H Q
theorem call_isiU : CallR X (.builtin "isinstance") (RIsi X.K) := crU call_isi1 call_isiN
def tyN : List String := ["NoneType", "bool", "int", "str", "tuple", "list", "dict"]
def tyIs (n : String) : Ty → Bool
  | .tint => n == "int" || n == "bool"
  | .tbool => n == "bool"
  | .tstr => n == "str"
  | .ttuple => n == "tuple"
  | .tlist => n == "list"
  | _ => false
theorem kit_base (c : ClsOk W) {n : String} (hn : n ∈ tyN) (t : Ty) (ht : tyOk W t) : PySem.W.kitOne W.K (.type n) (t.val W) = some (tyIs n t) := by
  cases t with
  | own e => exact c.kitT e n ht hn
  | _ =>
    simp only [tyN, List.mem_cons, List.not_mem_nil, or_false] at hn
    rcases hn with rfl | rfl | rfl | rfl | rfl | rfl | rfl <;> exact kit_ty (by decide +kernel)
/-- a value's type, and what it is by mine -/
theorem ty_at (c : ClsOk W) (m : Mt W r H hs) (x : Rv W r H d v) (hd : ∀ ds, d ≠ .lv ds) : ∃ t, TyMy W.K H v t ∧ ∀ (y : Ty) (b : Bool), tyOk W y → isTy hs d y = some b → PySem.W.kitOne W.K t (y.val W) = some b := by
  have base : ∀ {n : String} {f : Ty → Bool}, n ∈ tyN → (∀ y, f y = tyIs n y) → ∀ (y : Ty) (b : Bool), tyOk W y → some (f y) = some b → PySem.W.kitOne W.K (.type n) (y.val W) = some b := by
    intro n f hn hf y b yo e
    cases e
    rw [hf y]
    exact kit_base c hn y yo
  cases x with
  | non => exact ⟨_, .inl (.base .non), base (f := fun _ => false) (by decide) (by intro y; cases y <;> rfl)⟩
  | bl z => exact ⟨_, .inl (.base (.bl z)), base (f := fun t => t == .tint || t == .tbool) (by decide) (by intro y; cases y <;> rfl)⟩
  | int z => exact ⟨_, .inl (.base (.int z)), base (f := fun t => t == .tint) (by decide) (by intro y; cases y <;> rfl)⟩
  | str z k => exact ⟨_, .inl (.base (.str z)), base (f := fun t => t == .tstr) (by decide) (by intro y; cases y <;> rfl)⟩
  | tup t es =>
    have hb := base (n := "tuple") (f := fun t => t == .ttuple) (by decide) (by intro y; cases y <;> rfl)
    rcases t with ⟨h, _⟩ | ⟨⟨o, its, n, h1, h2, _⟩, _⟩
    · exact ⟨_, .inl (.base (.tup h)), hb⟩
    · exact ⟨_, .inl (.kTuple h1 h2), hb⟩
  | @obj cc ds vs a dx pr xx h n l es =>
    obtain ⟨c1, c2, c3⟩ := c.own cc pr xx
    refine ⟨_, .inl (.base (.ins h c1 c2 c.spec c.tak c3)), fun y b yo e => ?_⟩
    rw [c.kit cc y pr yo, ← e]
    cases y <;> rfl
  | @exc0 cc a pr xx f h n =>
    refine ⟨_, .inr (.inl ⟨_, _, _, rfl, h, c.exc cc pr xx, rfl, .inl rfl⟩), fun y b yo e => ?_⟩
    rw [c.kit cc y pr yo, ← e]
    cases y <;> rfl
  | @exc1 cc ds vs a dx l pr xx h n hd' nd es k ll =>
    refine ⟨_, .inr (.inl ⟨_, _, _, rfl, h, c.exc cc pr xx, rfl, .inr ⟨_, _, rfl, hd'⟩⟩), fun y b yo e => ?_⟩
    rw [c.kit cc y pr yo, ← e]
    cases y <;> rfl
  | @ref n a h =>
    obtain ⟨o, ho, t⟩ := m.atR h
    have e0 : ∀ y, isTy hs (.ref n) y = some (match o with
        | .lst _ => y == .tlist
        | .frz _ => y == .tlist
        | .dic _ _ => false) := by
      intro y
      simp only [isTy, ho]
      cases o <;> rfl
    have hl := base (n := "list") (f := fun t => t == .tlist) (by decide) (by intro y; cases y <;> rfl)
    have hdd := base (n := "dict") (f := fun _ => false) (by decide) (by intro y; cases y <;> rfl)
    cases o with
    | lst xs =>
      obtain ⟨us, t, _⟩ := t
      exact ⟨_, .inl (.base (.lst t)), fun y b yo e => hl y b yo (by rw [← e, e0])⟩
    | frz xs =>
      obtain ⟨ob, us, t, _⟩ := t
      exact ⟨_, .inl (.base (.frz t)), fun y b yo e => hl y b yo (by rw [← e, e0])⟩
    | dic tt kvs =>
      cases tt with
      | false =>
        obtain ⟨_, _, _, t, _⟩ := t
        exact ⟨_, .inl (.base (.dK t)), fun y b yo e => hdd y b yo (by rw [← e, e0])⟩
      | true =>
        obtain ⟨xs, t, _⟩ := t
        rcases t with ⟨t, _⟩ | ⟨_, t⟩
        · exact ⟨_, .inr (.inr ⟨_, _, _, _, rfl, t, rfl⟩), fun y b yo e => hdd y b yo (by rw [← e, e0])⟩
        · exact ⟨_, .inl (.base (.dT t)), fun y b yo e => hdd y b yo (by rw [← e, e0])⟩
theorem isTys_kit {t : Value} (k : ∀ (y : Ty) (b : Bool), tyOk W y → isTy hs d y = some b → PySem.W.kitOne W.K t (y.val W) = some b) : ∀ {ts : List Ty} {b : Bool}, (∀ y ∈ ts, tyOk W y) → isTys hs d ts = some b → PySem.W.kitAny W.K t (ts.map fun y => y.val W) = some b
  | [], b, _, h => by cases h; rfl
  | y :: ts, b, ho, h => by
    simp only [isTys] at h
    split at h
    · rename_i a c h1 h2
      cases h
      refine kitAny_cons (k y a (ho y List.mem_cons_self) h1) (fun e => ?_) (fun e => by rw [e]; rfl)
      rw [e, Bool.false_or]
      exact isTys_kit k (fun z hz => ho z (List.mem_cons_of_mem _ hz)) h2
    · cases h
theorem paired_cls (W : Wd) : ∀ ts : List Ty, Paired ClsV (ts.map fun t => t.v W) (ts.map fun t => t.val W)
  | [] => .nil
  | t :: ts => .cons (t.cls W) (paired_cls W ts)
end
end Q

/-! try: several clauses, with or without a name; the exception stays known -/
namespace Q
open PySem PySem.Spec PyProof.Rows L2
section
variable {X : Cx} {pins : List (Addr × Obj)} {σ : L2.St} {H : Hp} {s : Shared} {a C : Addr} {d : Option Addr}
/-- an exception's object becomes known -/
theorem track {oe : Obj} {vs : Array Value} (I : Inv X pins σ H s) (h0 : X.s_0.heap.get? a = none) (na : H a = none) (nl : a ≠ X.env.locals) (np : ∀ p ∈ X.pn ++ pins, p.1 ≠ a)
    (he : s.heap.get? a = some oe) (hc : oe.cls = .ref C) (hd : oe.dict = d) (hv : oe.data = .fields vs) : Inv X pins σ (upd H a (exT a C d)) s := by
  have un : Un X.fs X.ex X.H_0 (upd H a (exT a C d)) X.s_0.heap s.heap := by
    have q := I.base
    refine ⟨q.keep, q.slot, fun b o h1 h2 h3 => ?_, q.there, fun b xs h1 => ?_, fun b o u h1 => ?_, fun b ps h1 => ?_⟩
    · have e : b ≠ a := fun z => by rw [z, h0] at h1; cases h1
      rw [upd_ne e]
      exact q.free b o h1 h2 h3
    · have h2 := q.tups b xs h1
      rw [upd_ne (ne_of_none h2 na)]
      exact h2
    · have h2 := q.frzs b o u h1
      rw [upd_ne (ne_of_none h2 na)]
      exact h2
    · obtain ⟨more, h2⟩ := q.tbls b ps h1
      exact ⟨more, by rw [upd_ne (ne_of_none h2 na)]; exact h2⟩
  refine { I with base := un, free := ?_, freeC := fun x c h => ?_, pin := fun p hp => ?_, hok := fun b o h => ?_ }
  · rw [upd_ne (Ne.symm nl)]
    exact I.free
  · have e : c ≠ a := fun z => by
      obtain ⟨v, hv2⟩ := I.cell x c h
      obtain ⟨ob, g1, g2⟩ := hv2
      subst z
      rw [he] at g1
      cases g1
      rw [hv] at g2
      cases g2
    rw [upd_ne e]
    exact I.freeC x c h
  · obtain ⟨g1, g2, g3⟩ := I.pin p hp
    exact ⟨g1, by rw [upd_ne (np p hp)]; exact g2, g3⟩
  · by_cases e : b = a
    · subst e
      rw [upd_same] at h
      cases h
      exact ⟨⟨oe, vs, he, hc, hd, hv⟩, ⟨oe, he⟩, fun h1 h2 ⟨o1, v1, k1, k2⟩ k => ⟨o1, v1, k _ k1, k2⟩⟩
    · rw [upd_ne e] at h
      refine (I.hok b o h).stay (fun _ _ _ z => z) (fun c hc => ?_) (fun c xs hc => ?_)
      · rw [upd_ne (ne_of_none hc na)]; exact hc
      · rw [upd_ne (ne_of_none hc na)]; exact hc
/-- into an except suite and out of it -/
theorem into (I : Inv X pins σ H s) : Inv (X.suite a (X.pn ++ pins)) [] σ H s :=
  ⟨I.ok.suite _ _, I.os, I.bare, I.base, I.loc, I.cell, I.free, I.freeC, fun p hp => I.pin p (by simpa using hp), I.hok, I.len⟩
theorem outOf {ql : List (Addr × Obj)} (ok : X.Ok) (I : Inv (X.suite a (X.pn ++ pins)) ql σ H s) : Inv X pins σ H s :=
  ⟨ok, I.os, I.bare, I.base, I.loc, I.cell, I.free, I.freeC, fun p hp => I.pin p (List.mem_append_left _ hp), I.hok, I.len⟩
end

structure Clause where
  c : Value
  i : Option Nat
  t : TS
def goneI (i : Option Nat) (σ : L2.St) : L2.St := match i with
  | some i => σ.set i none
  | none => σ
def putI (i : Option Nat) (a : Addr) (σ : L2.St) : L2.St := match i with
  | some i => σ.set i (some (.ref a))
  | none => σ
def endsI (i : Option Nat) (D : Ends) : Ends := { nx := fun σ H => D.nx (goneI i σ) H, rt := D.rt, bk := fun σ H => D.bk (goneI i σ) H, ct := fun σ H => D.ct (goneI i σ) H }
/-- what an exception of the body must meet -/
def wCl (K : PySem.W.Frag) (Wo : WX) (D : Ends) : List Clause → WX
  | [] => Wo
  | q :: r => fun cls d σ H => ∃ b, PySem.W.exmOne K cls q.c = some b ∧ (b = true → ∃ C, cls = .ref C ∧ ∀ a, H a = none → q.t (endsI q.i D) (putI q.i a σ) (upd H a (exT a C d))) ∧ (b = false → wCl K Wo D r cls d σ H)
inductive ClOk (X : Cx) : List ExceptHandler → List Clause → Prop
  | nil : ClOk X [] []
  | plain {x : Str} {c : Value} {t : TS} {b : Stmt} {bs : List Stmt} {p1 p2 : Pos} {hds : List ExceptHandler} {l : List Clause} (nm : Names X x c) (su : ∀ (a : Addr) (pn : List (Addr × Obj)), PSs (X.suite a pn) (b :: bs) t) (r : ClOk X hds l) :
      ClOk X (.ExceptHandler (some (.Name x p1)) none (b :: bs) p2 :: hds) (⟨c, none, t⟩ :: l)
  | named {x n : Str} {i : Nat} {c : Value} {t : TS} {b : Stmt} {bs : List Stmt} {p1 p2 : Pos} {hds : List ExceptHandler} {l : List Clause} (nm : Names X x c) (hi : X.N[i]? = some n) (hl : X.env.kindOf n = some .local)
      (su : ∀ (a : Addr) (pn : List (Addr × Obj)), PSs (X.suite a pn) (b :: bs) t) (r : ClOk X hds l) : ClOk X (.ExceptHandler (some (.Name x p1)) (some n) (b :: bs) p2 :: hds) (⟨c, some i, t⟩ :: l)

section
variable {X : Cx} {body : List Stmt} {hd : ExceptHandler} {hds : List ExceptHandler} {l : List Clause} {pos : Pos} {tb : WX → TS} {Wo : WX}
theorem ps_tryU (st : X.stack = X.env :: X.outer) (fr : X.env.frame = some X.env.locals) (ex : X.ex = []) (nd : X.N.Nodup) (tk : Takes X Wo)
    (hb : ∀ (W : WX) (pn : List (Addr × Obj)) (xe : Value → Shared → Prop), Takes (X.tr pn xe) W → PassesOwn (model X.prog X.w) X.A X.env xe → PSs (X.tr pn xe) body (tb W)) (hh : ClOk X (hd :: hds) l) :
    PS X (.Try body (hd :: hds) [] [] pos) (fun D σ H => tb (wCl X.K Wo D l) D σ H) := by
  constructor
  intro pins s σ H D I h
  have ok := I.ok
  have frm : X.A.frames = some (X.env :: X.outer) := ok.frames.trans (by rw [st])
  apply wpAny_Try_except
  have run := (hb (wCl X.K Wo D l) (X.pn ++ pins) (fun y s1 => wpAny (model X.prog X.w) X.A (noteFrame y X.env) (fun _ s2 => wpAny (model X.prog X.w) X.A (setFlight y none) (fun _ s3 =>
    wpAny (model X.prog X.w) X.A (handleBy y X.env (hd :: hds)) (SP X pins D) X.xe s3) X.xe s2) X.xe s1) (fun u s' xx => ?_) PassesOwn.looking).run [] s σ H D (I.toTry _) h
  · refine wpAny_mono run (fun f s1 z => ?_) (fun y s1 z => z)
    cases f with
    | next => obtain ⟨σ2, H2, J, q⟩ := z; exact wpAny_execs_nil ⟨σ2, H2, J.ofTry ok, q⟩
    | brk => obtain ⟨σ2, H2, J, q⟩ := z; exact ⟨σ2, H2, J.ofTry ok, q⟩
    | cont => obtain ⟨σ2, H2, J, q⟩ := z; exact ⟨σ2, H2, J.ofTry ok, q⟩
    | ret u => obtain ⟨v, σ2, H2, J, r, q⟩ := z; exact ⟨v, σ2, H2, J.ofTry ok, r, q⟩
  · obtain ⟨a, B, sI, ps2, σ2, H2, cls, d, rfl, J0, nb, up, sky, na, os, ag, w⟩ := xx
    have J : Inv X pins σ2 H2 sI := J0.ofTry ok
    rw [st] at sky
    show wpAny (model X.prog X.w) X.A (noteFrame (.ref a) X.env) _ _ _
    refine Sky.land Zc.steady frm fr sky fun h3 f3 u3 => ?_
    have J3 : Inv X pins σ2 H2 { s' with heap := h3 } := J.landed nb f3.1 (up.trans u3) os ag
    obtain ⟨o3, v3, e3, z3, d3⟩ := f3.there
    have nfr : a ∉ frs (X.env :: X.outer) := fun hm => by
      obtain ⟨_, o', e', hn⟩ := f3.2.2.1.mem hm
      cases e3.symm.trans e'
      exact hn _ d3
    have nfr' : a ∉ frs X.stack := by rw [st]; exact nfr
    have nl : a ≠ X.env.locals := fun z => nfr (List.mem_filterMap.mpr ⟨X.env, List.mem_cons_self, fr.trans (congrArg some z.symm)⟩)
    have nf : a ∉ X.fs := fun hm => by
      obtain ⟨y, hy, q⟩ := List.mem_filterMap.mp hm
      exact nfr (List.mem_filterMap.mpr ⟨y, List.mem_cons_of_mem _ hy, q⟩)
    have h0 : X.s_0.heap.get? a = none := by
      cases q : X.s_0.heap.get? a with
      | none => rfl
      | some o =>
        obtain ⟨o', q2⟩ := J.base.there a o q (by rw [ex]; exact List.not_mem_nil)
        have q3 := nb a o' q2 nfr'
        rw [f3.2.1] at q3
        cases q3
    have np : ∀ p ∈ X.pn ++ pins, p.1 ≠ a := fun p hp z => by
      obtain ⟨g1, _⟩ := J.pin p hp
      rw [z] at g1
      have q3 := nb a _ g1 nfr'
      rw [f3.2.1] at q3
      cases q3
    have S3 := J3.suite e3 d3 na nl nf
    have lt : PySem.W.Looks (model X.prog X.w) h3 (typeOf (.ref a)) cls := fun A Q E s k q => wpAny_typeOf_ref (k _ _ e3) (by rw [z3.1]; exact q)
    have asks : ∀ {x : Str} {c : Value} {p : Pos} {Q : Value → Shared → Prop} {E : Value → Shared → Prop}, Names X x c → Q c { s' with heap := h3 } → wpAny (model X.prog X.w) (X.A.mark (some (.ref a))) (eval (.Name x p) X.env) Q E { s' with heap := h3 } := by
      intro x c p Q E nm q
      obtain ⟨hg, hg2, hm | ⟨hm, hv, hn⟩⟩ := nm
      · exact ld_glob (X := X.suite a ((a, o3) :: (X.pn ++ pins))) S3 hg hm q hg2
      · exact ld_blt (X := X.suite a ((a, o3) :: (X.pn ++ pins))) S3 hg hm hv q hn hg2
    have known : ∀ {h4 : Heap} {C : Addr}, HandSPX.FlyingZ B (X.env :: X.outer) a (Zc cls d) h4 → h3.UpToSlots h4 → cls = .ref C → Inv X pins σ2 (upd H2 a (exT a C d)) { s' with heap := h4 } := by
      intro h4 C f4 u4 hC
      have J4 : Inv X pins σ2 H2 { s' with heap := h4 } := J.landed nb f4.1 ((up.trans u3).trans u4) os ag
      obtain ⟨o4, v4, e4, z4, d4⟩ := f4.there
      exact track J4 h0 na nl np e4 (z4.1.trans hC) z4.2 d4
    have go : ∀ {hs' : List ExceptHandler} {l' : List Clause}, ClOk X hs' l' → wCl X.K Wo D l' cls d σ2 H2 → wpAny (model X.prog X.w) X.A (handleBy (.ref a) X.env hs') (SP X pins D) X.xe { s' with heap := h3 } := by
      intro hs' l' k
      induction k with
      | nil =>
        intro w
        apply wpAny_handleBy_nil
        obtain ⟨_, _, _, o5, v5, T, oT, ts5, he, _, hd5, h15, _⟩ := id f3
        unfold PySem.passOn
        refine wpAny_bind (wpAny_field he hd5 h15 ?_)
        rw [if_neg (by simp : ¬ ((Value.ref T == Value.none) = true))]
        have last : wpAny (model X.prog X.w) X.A (setFlight (.ref a) X.env.frame) (fun _ s4 => wpAny (model X.prog X.w) X.A (throw (.ref a) : Sem Flow) (SP X pins D) X.xe s4) X.xe { s' with heap := h3 } := by
          rw [fr]
          exact HandSPX.setFlight_upZ f3 fun h4 hh4 u4 => wpAny_throw (tk _ _ ⟨a, B, sI, pins, σ2, H2, cls, d, rfl, J, nb, (up.trans u3).trans u4, .inr (.inr (by rw [st]; exact hh4)), na, os, ag, w⟩)
        first
          | exact wpAny_bind (wpAny_pure (wpAny_bind last))
          | exact wpAny_bind last
      | @plain x c t b bs p1 p2 hds2 l2 nm su r ih =>
        intro w
        obtain ⟨y, hy, yes, no⟩ := w
        refine wpAny_handleBy_cons (codeAny_handlers_test (asks nm ((PySem.W.exm_one (M := model X.prog X.w) J3.kIn lt hy).here ?_))) (fun q => nomatch q)
        cases y with
        | false => exact ih (no rfl)
        | true =>
          obtain ⟨C, hC, q⟩ := yes rfl
          refine codeAny_handlers_suite (HandSPX.lands_againZ f3 fun h4 f4 u4 => ?_)
          refine wpAny_mono ((su a (X.pn ++ pins)).run [] _ _ _ _ (into (known f4 u4 hC)) (q a na)) (fun f s6 z => ?_) (fun _ _ z => z.elim)
          cases f with
          | next => obtain ⟨σ6, H6, S6, q6⟩ := z; exact ⟨_, _, outOf ok S6, q6⟩
          | brk => obtain ⟨σ6, H6, S6, q6⟩ := z; exact ⟨_, _, outOf ok S6, q6⟩
          | cont => obtain ⟨σ6, H6, S6, q6⟩ := z; exact ⟨_, _, outOf ok S6, q6⟩
          | ret u => obtain ⟨v6, σ6, H6, S6, r6, q6⟩ := z; exact ⟨_, _, _, outOf ok S6, r6, q6⟩
      | @named x n i c t b bs p1 p2 hds2 l2 nm hi hl su r ih =>
        intro w
        obtain ⟨y, hy, yes, no⟩ := w
        refine wpAny_handleBy_cons (codeAny_handlers_test (asks nm ((PySem.W.exm_one (M := model X.prog X.w) J3.kIn lt hy).here ?_))) (fun q => nomatch q)
        cases y with
        | false => exact ih (no rfl)
        | true =>
          obtain ⟨C, hC, q⟩ := yes rfl
          refine codeAny_handlers_suite_as (HandSPX.lands_againZ f3 fun h4 f4 u4 => ?_)
          refine store_ok (X := X.suite a (X.pn ++ pins)) (v := .ref a) (into (known f4 u4 hC)) nd hi (.inl hl) rfl (fun s5 S5 => ?_) (.inr hl)
          refine wpAny_mono ((su a (X.pn ++ pins)).run [] _ _ _ _ S5 (q a na)) (fun f s6 z => ?_) (fun _ _ z => z.elim)
          have gone : ∀ {σ6 : L2.St} {H6 : Hp} {Q : Shared → Prop}, Inv (X.suite a (X.pn ++ pins)) [] σ6 H6 s6 → (∀ s7, Inv X pins (σ6.set i none) H6 s7 → Q s7) →
              wpAny (model X.prog X.w) X.A (do bindName X.env n .none; unbindBehindTheSuite X.env n p2) (fun _ s7 => Q s7) X.xe s6 := fun S6 hq => gone_ok (outOf ok S6) nd hi hl hq
          cases f with
          | next => obtain ⟨σ6, H6, S6, q6⟩ := z; exact gone S6 fun s7 J7 => ⟨_, _, J7, q6⟩
          | brk => obtain ⟨σ6, H6, S6, q6⟩ := z; exact gone S6 fun s7 J7 => ⟨_, _, J7, q6⟩
          | cont => obtain ⟨σ6, H6, S6, q6⟩ := z; exact gone S6 fun s7 J7 => ⟨_, _, J7, q6⟩
          | ret u => obtain ⟨v6, σ6, H6, S6, r6, q6⟩ := z; exact gone S6 fun s7 J7 => ⟨_, _, _, J7, r6, q6⟩
    exact go hh w
end
end Q

/-! views of the given program's text; further rules -/
namespace Q
open PySem PySem.Spec PyProof.Rows L2

/-! ### views -/
def asName : Expr → Option Str
  | .Name x _ => some x
  | _ => none
theorem asName_of {e : Expr} {x : Str} (h : asName e = some x) : ∃ p, e = .Name x p := by
  cases e <;> cases h; exact ⟨_, rfl⟩
def asConst : Expr → Option Const
  | .Constant c _ _ => some c
  | _ => none
theorem asConst_of {e : Expr} {x : Const} (h : asConst e = some x) : ∃ j p, e = .Constant x j p := by
  cases e <;> cases h; exact ⟨_, _, rfl⟩
def asTup : Expr → Option (List Expr)
  | .Tuple es _ _ => some es
  | _ => none
theorem asTup_of {e : Expr} {x : List Expr} (h : asTup e = some x) : ∃ j p, e = .Tuple x j p := by
  cases e <;> cases h; exact ⟨_, _, rfl⟩
def asLst : Expr → Option (List Expr)
  | .List es _ => some es
  | _ => none
theorem asLst_of {e : Expr} {x : List Expr} (h : asLst e = some x) : ∃ p, e = .List x p := by
  cases e <;> cases h; exact ⟨_, rfl⟩
def asDict : Expr → Option (List (Option Expr) × List Expr)
  | .Dict ks vs _ => some (ks, vs)
  | _ => none
theorem asDict_of {e : Expr} {x : List (Option Expr) × List Expr} (h : asDict e = some x) : ∃ p, e = .Dict x.1 x.2 p := by
  cases e <;> cases h; exact ⟨_, rfl⟩
def asBin : Expr → Option (Operator × Expr × Expr)
  | .BinOp a o b _ => some (o, a, b)
  | _ => none
theorem asBin_of {e : Expr} {x : Operator × Expr × Expr} (h : asBin e = some x) : ∃ p, e = .BinOp x.2.1 x.1 x.2.2 p := by
  cases e <;> cases h; exact ⟨_, rfl⟩
def asNeg : Expr → Option Expr
  | .UnaryOp .USub a _ => some a
  | _ => none
theorem asNeg_of {e x : Expr} (h : asNeg e = some x) : ∃ p, e = .UnaryOp .USub x p := by
  cases e with
  | UnaryOp o a p => cases o <;> cases h; exact ⟨_, rfl⟩
  | _ => cases h
def asNot : Expr → Option Expr
  | .UnaryOp .Not a _ => some a
  | _ => none
theorem asNot_of {e x : Expr} (h : asNot e = some x) : ∃ p, e = .UnaryOp .Not x p := by
  cases e with
  | UnaryOp o a p => cases o <;> cases h; exact ⟨_, rfl⟩
  | _ => cases h
def asCmp1 : Expr → Option (CmpOp × Expr × Expr)
  | .Compare a [o] [b] _ => some (o, a, b)
  | _ => none
theorem asCmp1_of {e : Expr} {x : CmpOp × Expr × Expr} (h : asCmp1 e = some x) : ∃ p, e = .Compare x.2.1 [x.1] [x.2.2] p := by
  unfold asCmp1 at h
  split at h
  · cases h; exact ⟨_, rfl⟩
  · cases h
def asCmp2 : Expr → Option (CmpOp × CmpOp × Expr × Expr × Expr)
  | .Compare a [o, p] [b, c] _ => some (o, p, a, b, c)
  | _ => none
theorem asCmp2_of {e : Expr} {x : CmpOp × CmpOp × Expr × Expr × Expr} (h : asCmp2 e = some x) : ∃ p, e = .Compare x.2.2.1 [x.1, x.2.1] [x.2.2.2.1, x.2.2.2.2] p := by
  unfold asCmp2 at h
  split at h
  · cases h; exact ⟨_, rfl⟩
  · cases h
def asAnd : Expr → Option (List Expr)
  | .BoolOp .And es _ => some es
  | _ => none
theorem asAnd_of {e : Expr} {x : List Expr} (h : asAnd e = some x) : ∃ p, e = .BoolOp .And x p := by
  cases e with
  | BoolOp o a p => cases o <;> cases h; exact ⟨_, rfl⟩
  | _ => cases h
def asOr : Expr → Option (List Expr)
  | .BoolOp .Or es _ => some es
  | _ => none
theorem asOr_of {e : Expr} {x : List Expr} (h : asOr e = some x) : ∃ p, e = .BoolOp .Or x p := by
  cases e with
  | BoolOp o a p => cases o <;> cases h; exact ⟨_, rfl⟩
  | _ => cases h
def asIf : Expr → Option (Expr × Expr × Expr)
  | .IfExp c a b _ => some (c, a, b)
  | _ => none
theorem asIf_of {e : Expr} {x : Expr × Expr × Expr} (h : asIf e = some x) : ∃ p, e = .IfExp x.1 x.2.1 x.2.2 p := by
  cases e <;> cases h; exact ⟨_, rfl⟩
def asSub : Expr → Option (Expr × Expr)
  | .Subscript a i _ => some (a, i)
  | _ => none
theorem asSub_of {e : Expr} {x : Expr × Expr} (h : asSub e = some x) : ∃ p, e = .Subscript x.1 x.2 p := by
  cases e <;> cases h; exact ⟨_, rfl⟩
def asSlc : Expr → Option (Option Expr × Option Expr)
  | .Slice lo hi none _ => some (lo, hi)
  | _ => none
theorem asSlc_of {e : Expr} {x : Option Expr × Option Expr} (h : asSlc e = some x) : ∃ p, e = .Slice x.1 x.2 none p := by
  unfold asSlc at h
  split at h
  · cases h; exact ⟨_, rfl⟩
  · cases h
def asAttr : Expr → Option (Expr × Str)
  | .Attribute a f _ => some (a, f)
  | _ => none
theorem asAttr_of {e : Expr} {x : Expr × Str} (h : asAttr e = some x) : ∃ p, e = .Attribute x.1 x.2 p := by
  cases e <;> cases h; exact ⟨_, rfl⟩
/-- a call of a name -/
def asCall : Expr → Option (Str × List Expr)
  | .Call (.Name x _) es [] _ => some (x, es)
  | _ => none
theorem asCall_of {e : Expr} {x : Str × List Expr} (h : asCall e = some x) : ∃ p q, e = .Call (.Name x.1 p) x.2 [] q := by
  unfold asCall at h
  split at h
  · cases h; exact ⟨_, _, rfl⟩
  · cases h
/-- a call of a method; all on one line -/
def asMeth : Expr → Option (Expr × Str × List Expr)
  | .Call (.Attribute o m p) es [] q => if (p.endLine == q.line) = true then some (o, m, es) else none
  | _ => none
theorem asMeth_of {e : Expr} {x : Expr × Str × List Expr} (h : asMeth e = some x) : ∃ p q, e = .Call (.Attribute x.1 x.2.1 p) x.2.2 [] q ∧ (p.endLine == q.line) = true := by
  unfold asMeth at h
  split at h
  · split at h
    · rename_i hp
      cases h; exact ⟨_, _, rfl, hp⟩
    · cases h
  · cases h
def asLc : Expr → Option (Expr × Expr × Expr × List Expr × Scope)
  | .ListComp elt [⟨tg, iter, ifs, 0⟩] sc _ => some (elt, tg, iter, ifs, sc)
  | _ => none
theorem asLc_of {e : Expr} {x : Expr × Expr × Expr × List Expr × Scope} (h : asLc e = some x) : ∃ p, e = .ListComp x.1 [⟨x.2.1, x.2.2.1, x.2.2.2.1, 0⟩] x.2.2.2.2 p := by
  unfold asLc at h
  split at h
  · cases h; exact ⟨_, rfl⟩
  · cases h
def isLc : Expr → Bool
  | .ListComp .. | .SetComp .. | .DictComp .. => true
  | _ => false
def noStar : Expr → Bool
  | .Starred .. => false
  | _ => true
def noSlice : Expr → Bool
  | .Slice .. => false
  | _ => true
/-- truth is asked of the value -/
def valT : Expr → Bool
  | .UnaryOp .Not _ _ | .BoolOp .. | .IfExp .. | .Compare .. => false
  | _ => true
def plainB : Expr → Bool
  | .Call (.Name ..) [] .. => false
  | _ => true
def noSet : Expr → Bool
  | .Set .. => false
  | _ => true
section
variable {env : Env} {e : Expr} {es : List Expr} {pos : Pos}
theorem star_cons (h : noStar e = true) : starEach (e :: es) env = (false, eval e env) :: starEach es env := by
  cases e <;> first | (cases h; done) | rfl
theorem star_none : ∀ {es : List Expr}, es.all noStar = true → (backTo pos (starEach es env)).any (·.1) = false
  | [], _ => rfl
  | e :: es, h => by
    rw [List.all_cons, Bool.and_eq_true] at h
    rw [star_cons h.1]
    show (false || _) = false
    rw [Bool.false_or]
    exact star_none h.2
theorem star_few : ∀ {es : List Expr}, es.all noStar = true → (backTo pos (starEach es env)).all (fun x => !x.1) = true
  | [], _ => rfl
  | e :: es, h => by
    rw [List.all_cons, Bool.and_eq_true] at h
    rw [star_cons h.1]
    show (true && _) = true
    rw [Bool.true_and]
    exact star_few h.2
theorem valT_ok (h : valT e = true) (whole : Sem Value) : isTrue e env whole = (do let v ← whole; standAt e.pos; holding [v] (truthy v)) := by
  cases e with
  | UnaryOp o a p => cases o <;> first | (cases h; done) | rfl
  | _ => first | (cases h; done) | rfl
theorem plainB_ok {f : Str} (h : plainB e = true) : attributeBase e f env (eval e env) = eval e env := by
  cases e with
  | Call f es ks p => cases f <;> cases es <;> first | (cases h; done) | rfl
  | _ => rfl
theorem slice_ok (h : noSlice e = true) : PlainIx e := by
  intro o i
  cases e <;> first | (cases h; done) | rfl
theorem swaps_no {t : Option Expr} {n : Nat} (h : isLc e = false) : swapsWith e t n env = pure false := by
  cases e <;> first | (cases h; done) | rfl
theorem folded_ok (h : noSet e = true) (x : Value) : foldedSetIterable e env x = pure x := by
  cases e <;> first | (cases h; done) | rfl
theorem marks_ok {op : CmpOp} (h : noSet e = true) : behindInMarks op e = false := by
  cases e <;> first | (cases h; done) | rfl
end

/-! ### x is True, x is False -/
section
variable {X : Cx} {a : Expr} {ta : TE}
/-! ### fields, of things and of kept exceptions -/
def RFld (K : PySem.W.Frag) (f : Str) (x : V) (H : Hp) (Q : VK) : Prop :=
  (∃ a C dx fs v, x = .ref a ∧ H a = some (.ins C dx fs) ∧ Cls K C ∧ NoAttr K C f ∧ fs.lookup f = some v ∧ Q v H) ∨
  ∃ a C dd fs v, x = .ref a ∧ H a = some (exT a C (some dd)) ∧ ExcC K C ∧ NoAttr K C f ∧ H dd = some (.xd fs) ∧ fs.lookup f = some v ∧ Q v H
theorem pe_fldU {e : Expr} {te : TE} {f : Str} {pos : Pos} (he : PE X e te) (hb : plainB e = true) : PE X (.Attribute e f pos) (fun σ H Q => te σ H fun x H1 => RFld X.K f x H1 Q) := by
  refine ⟨fun pins s σ H Q I h => attr_of (plainB_ok hb) (thn (he.run pins s σ H _ I h) fun u s1 w => ?_)⟩
  obtain ⟨x, H1, J, r, w⟩ := w
  rcases w with ⟨a, C, dx, fs, v, rfl, g, c, n, l, q⟩ | ⟨a, C, dd, fs, v, rfl, g, c, n, gd, l, q⟩
  · cases r
    exact getattr_ok J g c n l fun u' s2 J2 ru => ⟨v, H1, J2, ru, q⟩
  · cases r
    obtain ⟨⟨oe, vs, g1, g2, g3, g4⟩, _⟩ := (show ObjOk X.prog X.w H1 s1.heap a (exT a C (some dd)) from J.hok a _ g)
    obtain ⟨mA, hns, hr⟩ := (show ObjOk X.prog X.w H1 s1.heap dd (.xd fs) from J.hok dd _ gd)
    obtain ⟨od, ho, hl⟩ := lookIn_ns hns
    obtain ⟨u, hu, ru⟩ := RelO.some_of (v := v) (o := mA f) (by rw [← l]; exact hr f)
    have at_ : PySem.W.InstAt s1.heap a oe C (some od) := ⟨g1, g2, by unfold PySem.W.notCls; rw [g4], by rw [g3]; exact ho⟩
    exact HandSPX.exc_get J.kIn at_ c.hg c.hk c.hs (PySem.W.findObj_own c.hd n rfl (by rw [hl, hu])) (handed_of ru) ⟨v, H1, J.tok _, ru, q⟩
end

/-! ### a walk of a list or a tuple -/
def iSq (K : PySem.W.Frag) (te : TE) : TI := fun σ H R => te σ H fun x H1 => ∃ a, x = .ref a ∧ ((∃ xs, SqL K H1 a xs ∧ R (Itl K a) H1) ∨ ∃ xs, SqT K H1 a xs ∧ R (Itt K a) H1)
theorem pi_sq {X : Cx} {tg e : Expr} {te : TE} (he : PE X e te) : PI X tg e (iSq X.K te) := by
  constructor
  intro pins s σ H R I h
  refine thn (he.run pins s σ H _ I h) fun u s1 w => ?_
  obtain ⟨x, H1, J, r, a, rfl, w⟩ := w
  cases r
  have fresh : ∀ b ∈ [s1.heap.objs.size], FpOk X pins H1 b := fun b hb => by
    rw [List.mem_singleton] at hb
    rw [hb]
    exact J.fpOk (Nat.le_refl _) (J.hok.fresh (Nat.le_refl _))
  have on : ∀ o : Obj, Inv X pins σ H1 { s1 with heap := s1.heap.push o } := fun o => J.kept (t' := s1.toks) fun b q z => Heap.get?_push_of_some _ z
  rcases w with ⟨xs, g, w⟩ | ⟨xs, g, w⟩
  · obtain ⟨its, rv, pl, hz⟩ := J.list g
    exact wpAny_pyIter_list pl.isList ⟨_, _, _, _, H1, rfl, on _, turn_list a _, ⟨_, Heap.get?_push_size _ rfl, rfl, rfl⟩, fresh, w⟩
  · obtain ⟨its, rv, pl, hz⟩ := J.tuple g
    exact wpAny_pyIter_tuple (show s1.heap.IsTuple a its.toArray from pl) ⟨_, _, _, _, H1, rfl, on _, turn_tuple a _, ⟨_, Heap.get?_push_size _ rfl, rfl, rfl⟩, fresh, w⟩
end Q

/-! len(set(xs)), xs a list of distinct tuples of whole numbers -/
namespace Q
open PySem PySem.Spec PyProof.Rows L2
theorem nodup_len_le {α : Type} [DecidableEq α] : ∀ {l m : List α}, l.Nodup → (∀ x ∈ l, x ∈ m) → l.length ≤ m.length
  | [], m, _, _ => Nat.zero_le _
  | x :: l, m, nd, sub => by
    have h := nodup_len_le (l := l) (m := m.erase x) (List.nodup_cons.mp nd).2 (fun y hy => by
      have ne : y ≠ x := fun e => (List.nodup_cons.mp nd).1 (e ▸ hy)
      exact (List.mem_erase_of_ne ne).mpr (sub y (List.mem_cons_of_mem _ hy)))
    have hx := sub x List.mem_cons_self
    rw [List.length_erase_of_mem hx] at h
    have := List.length_pos_of_mem hx
    simp only [List.length_cons]; omega
section
variable {X : Cx}
def tLenSetT (K : PySem.W.Frag) (ta : TE) : TE := fun σ H Q => ta σ H fun x H1 => ∃ (l : Addr) (ks : List (Addr × List Int)), x = V.ref l ∧ SqL K H1 l (ks.map fun p => V.ref p.1) ∧ (∀ p ∈ ks, SqT K H1 p.1 (p.2.map V.int)) ∧ ks.length < 64 ∧ (ks.map (·.2)).Nodup ∧ Q (.int ks.length) H1
theorem pe_lenSetT {a : Expr} {ta : TE} {p p2 q pos : Pos} (hc : X.calm = true) (hu : X.A.units + 64 < cLine) (hg : Gl X "len") (hm : X.mg "len" = none) (hg2 : Gl X "set") (hm2 : X.mg "set" = none) (ha : PE X a ta)
    (na : starEach [a] X.env = (false, eval a X.env) :: starEach [] X.env := by rfl) : PE X (.Call (.Name "len" p) [.Call (.Name "set" p2) [a] [] q] [] pos) (tLenSetT X.K ta) := by
  refine ⟨fun pins s σ H Q I h => ?_⟩
  refine Call_ (ld_blt I hg hm PySem.boot_len ?_)
  refine PyProof.Rows.callWith_builtin1 (PyProof.Rows.args_cons ?_ rfl) rfl rfl
  refine Call_ (ld_blt I hg2 hm2 PyProof.Rows.boot_set ?_)
  refine PyProof.Rows.callWith_type1 (PyProof.Rows.args_cons (thn (ha.run pins s σ H _ I h) fun v s1 ⟨x, H1, I1, r1, q1⟩ => PyProof.Rows.args_nil ?_) na) na rfl
  obtain ⟨l, ks, rfl, hq, hk, h1, hnd, q1⟩ := q1
  cases r1
  obtain ⟨its, rv, pl, hz⟩ := I1.list hq
  refine call_set_tups (P := X.prog) (w := X.w) ks (I1.ok.hd hc) pl.isList (by simpa using refs_of_vals rv) (fun p hp => I1.isT (hk p hp)) h1 (by omega) fun h' tk L es ep t R g k => ?_
  refine PyProof.Rows.args_nil ?_
  have sz : es.size = ks.length := by
    rw [SetTR.size (s := { s1 with heap := h', toks := tk }) R]
    have a1 := nodup_len_le (m := ks.map (·.2)) R.nd (fun z hz => by
      obtain ⟨p, hp, e⟩ := List.mem_map.mp hz
      exact List.mem_map.mpr ⟨p, List.mem_of_mem_take (g.sub p hp), e⟩)
    have a2 := nodup_len_le (m := L.map (·.2)) hnd (fun z hz => by
      obtain ⟨p, hp, e⟩ := List.mem_map.mp hz
      rw [← e]
      exact g.all p (by rw [List.take_length]; exact hp))
    simp only [List.length_map] at a1 a2
    omega
  have fit := SetTR.fits (s := { s1 with heap := h', toks := tk }) R
  obtain ⟨o, ho, hex, hd⟩ := R.ob
  have I2 : Inv X pins σ H1 { s1 with heap := h', toks := tk } := I1.kept fun b o e => k b o e
  refine call_len_set ho hex hd fit (by rw [sz] <;> omega) ⟨.int ks.length, H1, I2.tok _, ⟨_, by rw [sz]⟩, q1⟩
end
end Q

/-! plain parameters -/
namespace Q
open PySem PySem.Spec PyProof.Rows L2
/-- what a global name means -/
inductive Gn where | fn (f : String) | cl (c : Cn) | con (k : String) | mk (c : Cn) | dic (k : String)
  deriving DecidableEq
def Cn.name : Cn → String
  | .SayError => "SayError"
  | .NoText => "NoText"
  | .NoRows => "NoRows"
  | .NoLine => "NoLine"
  | .NoCall => "NoCall"
  | .NoName => "NoName"
  | .NoNumber => "NoNumber"
  | .TooMany => "TooMany"
  | .NoPoint => "NoPoint"
  | .NoLetter => "NoLetter"
  | .NoCut => "NoCut"
  | .Saying => "Saying"
  | .Never => "Never"
  | .Always => "Always"
  | .Letter => "Letter"
  | .Not => "Not"
  | .Fold => "Fold"
  | .More => "More"
  | .Less => "Less"
  | .Greater => "Greater"
  | .Lesser => "Lesser"
  | .Leads => "Leads"
  | .Desk => "Desk"
/-- a class is made by its name (no name of the text begins so) -/
def mkN (c : Cn) : Str := Str.ofString ("+" ++ c.name)
def plainArgs (as : List Arg) : Arguments := { posonlyargs := [], args := as, vararg := none, kwonlyargs := [], kw_defaults := [], kwarg := none, defaults := [] }
theorem zip_lookup_some {α β : Type} [BEq α] [LawfulBEq α] : ∀ {ns : List α} {us : List β} {n : α}, us.length = ns.length → n ∈ ns → ((ns.zip us).lookup n).isNone = false
  | [], _, _, _, h => nomatch h
  | x :: ns, [], _, h, _ => by simp at h
  | x :: ns, u :: us, n, h, hm => by
    simp only [List.zip_cons_cons, List.lookup_cons]
    cases e : n == x with
    | true => rfl
    | false =>
      simp only [Bool.false_eq_true, if_false]
      refine zip_lookup_some (by simpa using h) ?_
      rcases List.mem_cons.mp hm with z | z
      · rw [z] at e; simp at e
      · exact z
theorem zip_filter {α β : Type} [BEq α] [LawfulBEq α] (all : List (α × β)) : ∀ {ns : List α} {us : List β}, us.length = ns.length → ns.Nodup → (∀ n u, (n, u) ∈ ns.zip us → all.lookup n = some u) → (ns.filterMap fun n => (all.lookup n).map (n, ·)) = ns.zip us
  | [], [], _, _, _ => rfl
  | [], _ :: _, h, _, _ => by simp at h
  | _ :: _, [], h, _, _ => by simp at h
  | x :: ns, u :: us, h, nd, k => by
    rw [List.nodup_cons] at nd
    simp only [List.filterMap_cons, List.zip_cons_cons, k x u (by simp), Option.map_some]
    rw [zip_filter all (by simpa using h) nd.2 fun n v hm => k n v (by simp [hm])]
theorem zip_lookup {α β : Type} [BEq α] [LawfulBEq α] : ∀ {ns : List α} {us : List β} {n : α} {u : β}, ns.Nodup → (n, u) ∈ ns.zip us → (ns.zip us).lookup n = some u
  | [], _, _, _, _, h => by simp at h
  | _ :: _, [], _, _, _, h => by simp at h
  | x :: ns, v :: us, n, u, nd, h => by
    rw [List.nodup_cons] at nd
    simp only [List.zip_cons_cons, List.lookup_cons] at h ⊢
    rcases List.mem_cons.mp h with z | z
    · cases z; simp
    · have : (n == x) = false := by
        rw [beq_eq_false_iff_ne]
        exact fun e => nd.1 (e ▸ (List.of_mem_zip z).1)
      rw [this]
      exact zip_lookup nd.2 z
theorem bind_plain {fd : FuncData} {as : List Arg} {us : List Value} (hp : fd.params = plainArgs as) (hd : fd.defaults = .none) (hl : us.length = as.length) (nd : (as.map (·.arg)).Nodup) : bindArgs fd ⟨us, []⟩ = pure ((as.map (·.arg)).zip us) := by
  have hl2 : us.length = (as.map (·.arg)).length := by rw [List.length_map]; exact hl
  have e1 : seqItems? .none = pure Option.none := rfl
  have e2 : ((as.map (·.arg)).filter fun n => (((as.map (·.arg)).zip us).lookup n).isNone) = [] := by
    rw [List.filter_eq_nil_iff]
    intro n hn
    rw [zip_lookup_some hl2 hn]
    decide
  have e3 := zip_filter ((as.map (·.arg)).zip us) hl2 nd (fun n u hm => zip_lookup nd hm)
  unfold bindArgs
  simp only [hp, hd, plainArgs, e1, List.map_nil, List.nil_append, List.append_nil, List.forIn_nil, pure_bind, Option.getD_none, List.isEmpty_nil, List.drop_nil, List.length_nil, Nat.sub_zero, Nat.zero_sub, List.take_length, List.zip_nil_right, e2, e3]
  rw [if_neg (by simp [hl])]
  rfl

def plainOf (a : Arguments) : Option (List Arg) := match a with
  | ⟨[], as, none, [], [], none, []⟩ => some as
  | _ => none
theorem plainOf_of {a : Arguments} {as : List Arg} (h : plainOf a = some as) : a = plainArgs as := by
  unfold plainOf at h
  split at h
  · cases h; rfl
  · cases h
def nodupB : List Str → Bool
  | [] => true
  | x :: l => !l.contains x && nodupB l
theorem nodupB_ok : ∀ {l : List Str}, nodupB l = true → l.Nodup
  | [], _ => List.nodup_nil
  | x :: l, h => by
    simp only [nodupB, Bool.and_eq_true, Bool.not_eq_true'] at h
    exact List.nodup_cons.mpr ⟨by simpa using h.1, nodupB_ok h.2⟩
end Q

/-! things of own classes: making one, calling a method of one -/
namespace Q
open PySem PySem.Spec PyProof.Rows L2

/-- a class whose __init__ is object's -/
structure Mk0 (K : PySem.W.Frag) (C : Addr) : Prop where
  makes : PySem.W.makesIn K C = true
  init : PySem.W.findIn K (.ref C) "__init__" = some (some (.builtin "object.__init__"))
  top : PySem.W.mroIn K C (.type "object") = some true
  kp : PySem.W.keepIn K (.ref C) = true
section
variable {X : Cx} {CX : CXT} {k : Nat} {C f : Addr} {fd : FuncData} {ps : List Str} {sp : Sp} {E : L2.St → XK} {x m : Str} {p pos apos : Pos} {e o : Expr} {es : List Expr} {ta : TE} {t : TA}
theorem run_make0 {pins : List (Addr × Obj)} {σ : L2.St} {H : Hp} {s : Shared} {Q : VK} (M : Mk0 X.K C) (I : Inv X pins σ H s)
    (h : ∀ x dx, H x = none → H dx = none → dx ≠ x → Q (.ref x) (upd (upd H dx (.own x)) x (.ins C dx []))) : wpAny (model X.prog X.w) X.A (PySem.call (.ref C) []) (EP X pins σ Q) X.xe s := by
  have hq := h (s.heap.objs.size + 1) s.heap.objs.size (I.hok.fresh (Nat.le_succ _)) (I.hok.fresh (Nat.le_refl _)) (Nat.ne_of_lt (Nat.lt_succ_self _))
  have I2 := Inv.made (C := C) I
  have ho : ((s.heap.push PySem.W.emptyDict).push (PySem.W.instObj C s.heap.objs.size)).get? (s.heap.objs.size + 1) = some (PySem.W.instObj C s.heap.objs.size) := by
    have := Heap.get?_push_size (s.heap.push PySem.W.emptyDict) (o := PySem.W.instObj C s.heap.objs.size) rfl
    rwa [Heap.size_push] at this
  have t1 := NwA.type_at (M := model X.prog X.w) (C := C) ho rfl
  have t2 : PySem.W.Looks (model X.prog X.w) ((s.heap.push PySem.W.emptyDict).push (PySem.W.instObj C s.heap.objs.size)) (isInstance (.ref (s.heap.objs.size + 1)) (.type "object")) true := t1.andThen (PySem.W.looks_mroIn I2.kIn M.top)
  refine wpAny_call (make_map0 I.kIn M.makes M.init (fun self => PySem.W.Looks.of_pure (PySem.W.oi_bind _)) ?_)
  refine codeAny_call_builtin PySem.W.oi_plain PySem.W.entry_oi (@PySem.W.check_slot (model X.prog X.w) _ _ _ "object.__init__" "object" "__init__" (.ref (s.heap.objs.size + 1)) [] [] _ PySem.W.oi_kind PySem.W.oi_split t2 (PySem.W.oi_args (.ref (s.heap.objs.size + 1))) ?_)
  rw [PySem.W.oi_run]
  exact wpAny_pure (And.intro rfl ⟨V.ref (s.heap.objs.size + 1), _, I2, rfl, hq⟩)
theorem run_makeS {pins : List (Addr × Obj)} {σ : L2.St} {H : Hp} {s : Shared} {Q : VK} {us : List Value} {vs : List V} (M : Mk X.K C f) (F : FnOk X.prog X.w X.K X.mg X.base CX k f fd ps sp) (hr : Room (k + 1) X.A) (hb : Binds X.K fd ps [])
    (hx : PassesAt CX X σ (E σ)) (I : Inv X pins σ H s) (r : Vals vs us)
    (h : ∀ x dx, H x = none → H dx = none → dx ≠ x → sp (.ref x :: vs) (upd (upd H dx (.own x)) x (.ins C dx [])) (fun v H2 => v = .non ∧ Q (.ref x) H2) (E σ)) :
    wpAny (model X.prog X.w) X.A (PySem.call (.ref C) us) (EP X pins σ Q) X.xe s := by
  have hq := h (s.heap.objs.size + 1) s.heap.objs.size (I.hok.fresh (Nat.le_succ _)) (I.hok.fresh (Nat.le_refl _)) (Nat.ne_of_lt (Nat.lt_succ_self _))
  have I2 := Inv.made (C := C) I
  have r2 : Vals (V.ref (s.heap.objs.size + 1) :: vs) (Value.ref (s.heap.objs.size + 1) :: us) := .cons rfl r
  have hl : (Value.ref (s.heap.objs.size + 1) :: us).length = ps.length := by
    have e := r2.length
    rw [F.len _ _ _ _ hq] at e
    exact e.symm
  have b := hb ({ s with heap := (s.heap.push PySem.W.emptyDict).push (PySem.W.instObj C s.heap.objs.size) }) (Value.ref (s.heap.objs.size + 1) :: us) I2.kIn (by rw [List.append_nil]; exact hl)
  rw [List.append_nil] at b
  refine wpAny_call (make_map (f := f) I.kIn M.makes M.init (beq_iff_eq.mp M.fn) (codeAny_mono (F.run _ X.stack _ _ ⟨Value.ref (s.heap.objs.size + 1) :: us, []⟩ (Value.ref (s.heap.objs.size + 1) :: us) _ _ (E σ) (hr.make C us [])
    (I2.env0.make C us []) b r2 hq) fun r s' hq' => ?_))
  cases r with
  | error e => exact hx pins _ _ e s' I2 hq'
  | ok fl =>
    cases fl with
    | ret u =>
      obtain ⟨v, H', I3, rv, ev, q3⟩ := I2.after hq'
      subst ev
      exact ⟨rv, ⟨V.ref (s.heap.objs.size + 1), H', I3, rfl, q3⟩⟩
    | next => exact False.elim hq'
    | brk => exact False.elim hq'
    | cont => exact False.elim hq'
/-- C(e, ..): the values, then a thing is made of them -/
theorem pe_mk (hg : Gl X x) (hm : X.mg x = some (.ref C)) (hk : PySem.W.keepIn X.K (.ref C) = true) (ha : PA X (e :: es) t) (hdb : (x == ("__debug__" : Str)) = false)
    {tm : L2.St → List V → Hp → VK → Prop} (hmk : ∀ pins s σ H us vs Q, Inv X pins σ H s → Vals vs us → tm σ vs H Q → wpAny (model X.prog X.w) X.A (PySem.call (.ref C) us) (EP X pins σ Q) X.xe s)
    (he : starEach (e :: es) X.env = (false, eval e X.env) :: starEach es X.env) (hpl : (backTo pos (starEach es X.env)).any (·.1) = false) :
    PE X (.Call (.Name x p) (e :: es) [] pos) (fun σ H Q => t σ H fun vs H1 => tm σ vs H1 Q) := by
  refine ⟨fun pins s σ H Q I h => ?_⟩
  refine wpAny_Call_Name_kw (ld_glob I hg hm ?_ hdb)
  refine PySem.W.callWith_K (h₀ := X.base) I.ok.mod.kin hk (thn (ha.run pos pins s σ H _ I h) fun us s1 ⟨vs, H1, I1, r, q⟩ => ⟨I1.kIn, ?_⟩) he hpl
  exact hmk pins s1 σ H1 us vs Q I1 r q
theorem pe_mk0 (hg : Gl X x) (hm : X.mg x = some (.ref C)) (hk : PySem.W.keepIn X.K (.ref C) = true) (hdb : (x == ("__debug__" : Str)) = false)
    {tm : L2.St → List V → Hp → VK → Prop} (hmk : ∀ pins s σ H us vs Q, Inv X pins σ H s → Vals vs us → tm σ vs H Q → wpAny (model X.prog X.w) X.A (PySem.call (.ref C) us) (EP X pins σ Q) X.xe s) :
    PE X (.Call (.Name x p) [] [] pos) (fun σ H Q => tm σ [] H Q) := by
  refine ⟨fun pins s σ H Q I h => ?_⟩
  refine wpAny_Call_Name_kw (ld_glob I hg hm ?_ hdb)
  exact PySem.W.callWith_K0 I.kIn hk (hmk pins s σ H [] [] Q I .nil h)
/-- the tree of a method's call, on one line -/
theorem meth_tree {args : List Expr} {env : Env} (hb : attributeBase o m env (eval o env) = eval o env) (hline : (apos.endLine == pos.line) = true)
    (hfew : ((backTo pos (starEach args env)).all (fun x => !x.1) && (backToKw pos (keywordEach [] env)).all (fun x => x.1.isSome) && decide (args.length + ([] : List Keyword).length + (if ([] : List Keyword).isEmpty then 0 else 1) < 30)) = true) :
    eval (.Call (.Attribute o m apos) args [] pos) env = (do
      let ov ← eval o env
      standAt apos.atName
      let (f, first) ← holding [ov] (getMethod ov m (do return (← importBound o env).getD true))
      callWith pos f first (backTo pos (starEach args env)) (backToKw pos (keywordEach [] env))) := by
  refine mcall_of hb fun ov => ?_
  have hform : methodCallForm (args.length + ([] : List Keyword).length) (backTo pos (starEach args env)) (backToKw pos (keywordEach [] env)) = true := hfew
  have hpos : methodCallPos true o env apos pos = pure pos := by unfold methodCallPos; simp [hline]
  unfold methodCall
  rw [hform]
  unfold calleeOf
  simp only [if_true, hpos, pure_bind]
/-- o.m(e, ..), the method of whatever class the thing has -/
def MthAt (X : Cx) (CX : CXT) (k : Nat) (m : Str) (t : TA) (E : L2.St → XK) (σ : L2.St) (Q : VK) (x : V) (H1 : Hp) : Prop :=
  ∃ (a dx C f : Addr) (fs : List (Str × V)) (fd : FuncData) (ps : List Str) (sp : Sp), x = .ref a ∧ H1 a = some (.ins C dx fs) ∧ fs.lookup m = none ∧ Cls X.K C ∧ Meth X.K C m f ∧ FnOk X.prog X.w X.K X.mg X.base CX k f fd ps sp ∧ Binds X.K fd ps [] ∧
    t σ H1 fun vs H2 => sp (x :: vs) H2 Q (E σ)
theorem pe_mth {pl : Sem Bool} (he : PE X o ta) (hr : Room k X.A) (hx : ∀ σ, PassesAt CX X σ (E σ)) (ha : PA X (e :: es) t)
    (hst : starEach (e :: es) X.env = (false, eval e X.env) :: starEach es X.env) (hpl : (backTo pos (starEach es X.env)).any (·.1) = false)
    (ht : eval (.Call (.Attribute o m apos) (e :: es) [] pos) X.env = (do
      let ov ← eval o X.env
      standAt apos.atName
      let (f, first) ← holding [ov] (getMethod ov m pl)
      callWith pos f first (backTo pos (starEach (e :: es) X.env)) (backToKw pos (keywordEach [] X.env)))) :
    PE X (.Call (.Attribute o m apos) (e :: es) [] pos) (fun σ H Q => ta σ H (MthAt X CX k m t E σ Q)) := by
  refine ⟨fun pins s σ H Q I h => ?_⟩
  refine PySem.W.methodCall_KW (pl := pl) (thn (he.run pins s σ H _ I h) fun u s1 ⟨x, H1, I1, rx, a, dx, C, f, fs, fd, ps, sp, ex, ea, l, c, hm, F, hb, q⟩ => ?_) ht
  subst ex
  obtain rfl : u = Value.ref a := rx
  refine getmeth_ok I1 ea c hm l ?_
  refine PySem.W.callWith_K (first := [.ref a]) (h₀ := X.base) I.ok.mod.kin hm.kp (thn (ha.run pos pins s1 σ H1 _ I1 q) fun us s2 ⟨vs, H2, I2, r, q2⟩ => ⟨I2.kIn, ?_⟩) hst hpl
  exact run_fnS (us := .ref a :: us) (vs := .ref a :: vs) F hr hb (hx σ) I2 (.cons rfl r) q2
theorem pe_mth0 {pl : Sem Bool} (he : PE X o ta) (hr : Room k X.A) (hx : ∀ σ, PassesAt CX X σ (E σ))
    (ht : eval (.Call (.Attribute o m apos) [] [] pos) X.env = (do
      let ov ← eval o X.env
      standAt apos.atName
      let (f, first) ← holding [ov] (getMethod ov m pl)
      callWith pos f first (backTo pos (starEach [] X.env)) (backToKw pos (keywordEach [] X.env)))) :
    PE X (.Call (.Attribute o m apos) [] [] pos) (fun σ H Q => ta σ H (MthAt X CX k m tNil E σ Q)) := by
  refine ⟨fun pins s σ H Q I h => ?_⟩
  refine PySem.W.methodCall_KW (pl := pl) (thn (he.run pins s σ H _ I h) fun u s1 ⟨x, H1, I1, rx, a, dx, C, f, fs, fd, ps, sp, ex, ea, l, c, hm, F, hb, q⟩ => ?_) ht
  subst ex
  obtain rfl : u = Value.ref a := rx
  refine getmeth_ok I1 ea c hm l ?_
  exact PySem.W.callWith_K0 (first := [.ref a]) I1.kIn hm.kp (run_fnS (us := [.ref a]) (vs := [.ref a]) F hr hb (hx σ) I1 (.cons rfl .nil) q)
end
end Q

/-! __init__ of own classes and own exceptions -/
namespace Q
open PySem PySem.Spec PyProof.Rows L2

def nameOk (x : Str) : Bool := !(x == ("__debug__" : Str)) && !(x == ("__classdict__" : Str))
def atN (N : List Str) (i : Nat) (x : Str) : Bool := match N[i]? with
  | some y => y == x
  | none => false
theorem atN_ok {N : List Str} {i : Nat} {x : Str} (h : atN N i x = true) : N[i]? = some x := by
  unfold atN at h
  split at h
  · rename_i y e; rw [e, beq_iff_eq.mp h]
  · cases h
def locN (sc : Scope) (x : Str) : Bool := match sc.names.lookup x with
  | some .local => nameOk x
  | _ => false
theorem locN_ok {sc : Scope} {x : Str} (h : locN sc x = true) : Vis sc x ∧ (x == ("__debug__" : Str)) = false ∧ (x == ("__classdict__" : Str)) = false := by
  unfold locN at h
  split at h
  · rename_i e
    simp only [nameOk, Bool.and_eq_true, Bool.not_eq_true'] at h
    exact ⟨.inl e, h⟩
  · cases h
/-- self.f = p -/
def asSet : Stmt → Option (Str × Str × Str)
  | .Assign [.Attribute (.Name s _) f _] (.Name p _) _ => some (s, f, p)
  | _ => none
theorem asSet_of {S : Stmt} {q : Str × Str × Str} (h : asSet S = some q) : ∃ p1 p2 p3 pos, S = .Assign [.Attribute (.Name q.1 p1) q.2.1 p2] (.Name q.2.2 p3) pos := by
  unfold asSet at h
  split at h
  · cases h; exact ⟨_, _, _, _, rfl⟩
  · cases h
def initB (N : List Str) (sc : Scope) : Nat → List String → List Stmt → Bool
  | _, [], l => l.isEmpty
  | i, f :: fs, l => match l with
    | S :: r => (match asSet S with
      | some q => ((atN N 0 q.1 && locN sc q.1) && (q.2.1 == fN f && (atN N i q.2.2 && locN sc q.2.2))) && initB N sc (i + 1) fs r
      | none => false)
    | [] => false
/-- the values put in, one field behind another -/
def putAllF : List String → List V → List (Str × V) → List (Str × V)
  | f :: fs, v :: vs, l => putAllF fs vs (putF (fN f) v l)
  | _, _, l => l
theorem putF_len (f : Str) (v : V) : ∀ l : List (Str × V), (putF f v l).length ≤ l.length + 1
  | [] => by simp [putF]
  | (g, x) :: r => by
    unfold putF
    split
    · simp
    · simp; exact putF_len f v r
theorem init_ps {X : Cx} : ∀ {fs : List String} {i : Nat} {body : List Stmt}, initB X.N X.env.scope i fs body = true → ∃ t, PSs X body t ∧
    ∀ (D : Ends) (σ : L2.St) (H : Hp) (a C dx : Addr) (us : List V) (l : List (Str × V)), us.length = fs.length → σ[0]? = some (some (.ref a)) → (∀ j v, us[j]? = some v → σ[i + j]? = some (some v)) → H a = some (.ins C dx l) → Cls X.K C →
      (∀ f ∈ fs, NoAttr X.K C (fN f)) → l.length + fs.length < 1000 → D.nx σ (upd H a (.ins C dx (putAllF fs us l))) → t D σ H
  | [], i, body, h => by
    cases body with
    | cons _ _ => simp [initB] at h
    | nil =>
      refine ⟨_, pss_nil, fun D σ H a C dx us l hl h0 hj hH hc hn hz q => ?_⟩
      have e : us = [] := List.eq_nil_of_length_eq_zero hl
      subst e
      have eu : upd H a (.ins C dx (putAllF [] [] l)) = H := by
        funext b
        by_cases hb : b = a
        · rw [hb, upd_same, hH]; rfl
        · rw [upd_ne hb]
      rw [eu] at q
      exact q
  | f :: fs, i, body, h => by
    cases body with
    | nil => simp [initB] at h
    | cons S r =>
      simp only [initB] at h
      split at h
      · rename_i q hq
        obtain ⟨p1, p2, p3, pos, rfl⟩ := asSet_of hq
        obtain ⟨s, g, p⟩ := q
        simp only [Bool.and_eq_true, beq_iff_eq] at h
        obtain ⟨⟨⟨h1, h2⟩, h3, h4, h5⟩, h6⟩ := h
        subst h3
        obtain ⟨t, ht, hu⟩ := init_ps h6
        obtain ⟨v1, v2, v3⟩ := locN_ok h2
        obtain ⟨w1, w2, w3⟩ := locN_ok h5
        refine ⟨_, pss_cons (ps_fld (pe_var (atN_ok h1) v1 v2 v3) (pe_var (atN_ok h4) w1 w2 w3) (by rfl)) ht, fun D σ H a C dx us l hl h0 hj hH hc hn hz q => ?_⟩
        cases us with
        | nil => simp at hl
        | cons v us =>
          refine ⟨v, by simpa using hj 0 v rfl, .ref a, h0, a, C, dx, l, rfl, hH, hc, hn f List.mem_cons_self, by simp at hz; omega, ?_⟩
          refine hu D σ (upd H a (.ins C dx (putF (fN f) v l))) a C dx us (putF (fN f) v l) (by simpa using hl) h0 (fun j x hx => ?_) upd_same hc (fun g hg => hn g (List.mem_cons_of_mem _ hg)) ?_ ?_
          · have := hj (j + 1) x (by simpa using hx)
            rw [show i + 1 + j = i + (j + 1) by omega]
            exact this
          · have := putF_len (fN f) v l
            simp at hz; omega
          · rw [upd_upd]
            exact q
      · cases h
/-- what __init__ gives -/
def spI (K : PySem.W.Frag) (flds : List String) : Sp := fun vs H Q E => ∃ (a C dx : Addr) (us : List V), vs = .ref a :: us ∧ us.length = flds.length ∧ H a = some (.ins C dx []) ∧ Cls K C ∧ (∀ f ∈ flds, NoAttr K C (fN f)) ∧ Q .non (upd H a (.ins C dx (putAllF flds us [])))
/-- a def __init__(self, ..) that keeps its parameters -/
def initFn (flds : List String) (N : List Str) (st : Stmt) : Bool := match plainOf (defArgs st) with
  | some as => (decide (as.length = flds.length + 1) && (N == as.map (·.arg) && (nodupB N && decide (flds.length < 100)))) &&
    ((decide ((defScope st).kind = .function) && (!(defScope st).isCoroutine && !(defScope st).isGenerator)) &&
    ((as.all (fun a => (defScope st).names.lookup a.arg == some .local || (defScope st).names.lookup a.arg == some .cell) && (defScope st).names.all (fun y => decide (y.2 ≠ .free))) && initB N (defScope st) 1 flds (defBody st)))
  | none => false
theorem init_fn {P : Program} {w : World} {K : PySem.W.Frag} {mg : Str → Option Value} {base : Heap} {flds : List String} {N : List Str} {st : Stmt} {nm qual : Str} {a : Addr} {fd : FuncData} (F : Fun K nm qual st a fd) (h : initFn flds N st = true) (k : Nat) :
    FnOk P w K mg base (L2.CX P w) (k + 1) a fd N (spI K flds) ∧ Binds K fd N [] := by
  unfold initFn at h
  split at h
  · rename_i as has
    simp only [Bool.and_eq_true, decide_eq_true_eq, beq_iff_eq, Bool.not_eq_true', List.all_eq_true, Bool.or_eq_true] at h
    obtain ⟨⟨h1, h2, h3, h4⟩, ⟨h5, h6, h7⟩, ⟨h8, h9⟩, h10⟩ := h
    have nd := nodupB_ok h3
    have ea := plainOf_of has
    have hN : N.length = flds.length + 1 := by rw [h2, List.length_map]; exact h1
    have S : FnScope N N (defScope st) := ⟨h5, h6, h7, nd, by simp, fun x hx => by
      rw [h2] at hx
      obtain ⟨y, hy, rfl⟩ := List.mem_map.mp hx
      exact h8 y hy, h9⟩
    refine ⟨F.okX S (fun vs H Q E z => ?_) fun cdv A outer s H vs Q E hr z => ?_, F.binds fun kV doc pm an cdv ct us hl => ?_⟩
    · obtain ⟨a, C, dx, us, rfl, hl, _⟩ := z
      rw [List.length_cons, hl, hN]
    · obtain ⟨b, C, dx, us, rfl, hl, hH, hc, hn, q⟩ := z
      obtain ⟨t, ht, hu⟩ := init_ps (X := cxOf (L2.CX P w) P w K mg base N qual (defScope st) a cdv A outer s H E) h10
      refine ⟨t, ht, hu _ (L2.start N (.ref b :: us)) H b C dx us [] hl ?_ (fun j v hv => ?_) hH hc hn (by simp; omega) q⟩
      · simp [L2.start]
      · have hj := (List.getElem?_eq_some_iff.mp hv).1
        unfold L2.start
        rw [List.getElem?_append_left (by simp; omega), List.getElem?_map, show 1 + j = j + 1 by omega, List.getElem?_cons_succ, hv]
        rfl
    · have e2 : N = as.map (·.arg) := h2
      rw [e2]
      exact bind_plain ea rfl (by rw [hl, hN, h1]) (by rw [← h2]; exact nd)
  · cases h
end Q

/-! __init__ of own exceptions -/
namespace Q
open PySem PySem.Spec PyProof.Rows L2

/-- the class of an own exception, by a look -/
def oexB (K : PySem.W.Frag) (C : Addr) : Bool := match K.lookup C with
  | some ⟨.type "type", _, .cls ⟨_, _, .ref C' :: bm, _, _, true, _, _, _, _, false⟩, sl⟩ => (match sl.toList with
    | [_, _, _, _, some (.builtin n), _] => C' == C && (n == "ValueError.__new__" && PySem.HandSPX.refsVE bm)
    | _ => false)
  | _ => false
theorem oexB_ok {K : PySem.W.Frag} {C : Addr} (h : oexB K C = true) : ∃ nm q N bs bm sn sub ab col dd k0 k1 k2 k3 k5, K.lookup C = some (excClassObj nm q C N bs bm true sn sub ab col dd k0 k1 k2 k3 k5 "ValueError.__new__") ∧ PySem.HandSPX.refsVE bm = true := by
  unfold oexB at h
  split at h
  · rename_i dd nm bs C' bm ns qn sn sub ab col sl ho
    split at h
    · rename_i k0 k1 k2 k3 n k5 hs
      simp only [Bool.and_eq_true, beq_iff_eq] at h
      obtain ⟨rfl, rfl, h3⟩ := h
      have hsl : sl = #[k0, k1, k2, k3, some (.builtin "ValueError.__new__"), k5] := by
        obtain ⟨l⟩ := sl
        simp only at hs
        rw [hs]
      subst hsl
      exact ⟨_, _, _, _, _, _, _, _, _, _, _, _, _, _, _, ho, h3⟩
    · cases h
  · cases h
/-- the base whose __init__ is called -/
structure Sup (K : PySem.W.Frag) (CS : Addr) : Prop where
  sp : PySem.W.specialIn K (.ref CS) "__getattribute__" = some (some (.builtin "type.__getattribute__"))
  rd : PySem.W.readsIn K CS (.type "type") = true
  at_ : PySem.W.findCls K (.ref CS) (.type "type") "__init__" = some (.val (.builtin "ValueError.__init__"))
section
variable {X : Cx} {x : Str} {e : Expr} {es : List Expr} {ta : TA} {p1 p2 pos : Pos} {CS : Addr}
theorem pe_supinit {pl : Sem Bool} (hg : Gl X x) (hm : X.mg x = some (.ref CS)) (hdb : (x == ("__debug__" : Str)) = false) (S : Sup X.K CS) (ha : PA X (e :: es) ta)
    (hc : eval (.Call (.Attribute (.Name x p1) "__init__" p2) (e :: es) [] pos) X.env = (do
      let ov ← eval (.Name x p1) X.env
      standAt p2.atName
      let (f, first) ← holding [ov] (getMethod ov "__init__" pl)
      callWith pos f first (backTo pos (starEach (e :: es) X.env)) (backToKw pos (keywordEach [] X.env))))
    (he : starEach (e :: es) X.env = (false, eval e X.env) :: starEach es X.env) (hpl : (backTo pos (starEach es X.env)).any (·.1) = false) :
    PE X (.Call (.Attribute (.Name x p1) "__init__" p2) (e :: es) [] pos) (tVeI X.K ta) := by
  refine ⟨fun pins s σ H Q I h => ?_⟩
  refine PySem.W.methodCall_KW (ld_glob I hg hm ?_ hdb) hc
  refine PySem.W.method_cls I.kIn S.sp (PySem.W.cls_value I.kIn S.rd S.at_ (by decide +kernel) ?_)
  show wpAny _ _ (callWith pos (Value.builtin "ValueError.__init__") [] (backTo pos (starEach (e :: es) X.env)) []) _ _ _
  refine PyProof.Rows.callWith_method1 (thn (ha.run pos pins _ σ H _ (I.tok _) h) fun us s1 ⟨vs, H1, I1, r1, a, C, ws, ev, hl, T, ea, q⟩ => ?_) he hpl
  subst ev
  cases r1 with
  | @cons _ u0 _ ur ra rw' =>
    obtain rfl : u0 = Value.ref a := ra
    have hlen : ur.length ≤ sizeLine := by
      rw [← Paired.length rw', sizeLine_eq]
      omega
    exact oinit_ok T I1 ea hlen fun s' J => ⟨.non, H1, J, rfl, q⟩
end
/-- B.__init__(self, "..") -/
def asSup : Stmt → Option (Str × Str × Str)
  | .Expr (.Call (.Attribute (.Name b _) g p2) [.Name s _, .Constant (.str m) _ _] [] pos) _ => if (g == ("__init__" : Str) && p2.endLine == pos.line) = true then some (b, s, m) else none
  | _ => none
theorem asSup_of {S : Stmt} {q : Str × Str × Str} (h : asSup S = some q) : ∃ p1 p2 p3 k p4 pos pos2, S = .Expr (.Call (.Attribute (.Name q.1 p1) "__init__" p2) [.Name q.2.1 p3, .Constant (.str q.2.2) k p4] [] pos) pos2 ∧ (p2.endLine == pos.line) = true := by
  unfold asSup at h
  split at h
  · split at h
    · rename_i hp
      rw [Bool.and_eq_true, beq_iff_eq] at hp
      cases h
      obtain ⟨h1, h2⟩ := hp
      subst h1
      exact ⟨_, _, _, _, _, _, _, rfl, h2⟩
    · cases h
  · cases h
def initXB (G : List (Str × Gn)) (N : List Str) (sc : Scope) (flds : List String) (l : List Stmt) : Bool := match l with
  | S :: r => (match asSup S with
    | some q => ((match sc.names.lookup q.1 with
      | some .globalImplicit => nameOk q.1
      | _ => false) && G.lookup q.1 == some (.cl .SayError)) && ((atN N 0 q.2.1 && locN sc q.2.1) && initB N sc 1 flds r)
    | none => false)
  | [] => false
/-- the fields put behind one another in an exception's dict -/
theorem initx_ps {X : Cx} : ∀ {fs : List String} {i : Nat} {body : List Stmt}, initB X.N X.env.scope i fs body = true → ∃ t, PSs X body t ∧
    ∀ (D : Ends) (σ : L2.St) (H : Hp) (a C dx : Addr) (us : List V) (l : List (Str × V)), us.length = fs.length → σ[0]? = some (some (.ref a)) → (∀ j v, us[j]? = some v → σ[i + j]? = some (some v)) → H a = some (exo a C (some dx)) → H dx = some (exd dx l) → dx ≠ a → OexC X.K C →
      (∀ f ∈ fs, PySem.W.findIn X.K (.ref C) (fN f) = some none) → l.length + fs.length ≤ 900 → D.nx σ (upd H dx (exd dx (((fs.map fN).zip us).reverse ++ l))) → t D σ H
  | [], i, body, h => by
    cases body with
    | cons _ _ => simp [initB] at h
    | nil =>
      refine ⟨_, pss_nil, fun D σ H a C dx us l hl h0 hj hH hd nd hc hn hz q => ?_⟩
      have eu : upd H dx (exd dx (((([] : List String).map fN).zip us).reverse ++ l)) = H := by
        funext b
        by_cases hb : b = dx
        · rw [hb, upd_same, hd]; rfl
        · rw [upd_ne hb]
      rw [eu] at q
      exact q
  | f :: fs, i, body, h => by
    cases body with
    | nil => simp [initB] at h
    | cons S r =>
      simp only [initB] at h
      split at h
      · rename_i q hq
        obtain ⟨p1, p2, p3, pos, rfl⟩ := asSet_of hq
        obtain ⟨s, g, p⟩ := q
        simp only [Bool.and_eq_true, beq_iff_eq] at h
        obtain ⟨⟨⟨h1, h2⟩, h3, h4, h5⟩, h6⟩ := h
        subst h3
        obtain ⟨t, ht, hu⟩ := initx_ps h6
        obtain ⟨v1, v2, v3⟩ := locN_ok h2
        obtain ⟨w1, w2, w3⟩ := locN_ok h5
        refine ⟨_, pss_cons (ps_ost (pe_var (atN_ok h1) v1 v2 v3) (pe_var (atN_ok h4) w1 w2 w3) (by rfl)) ht, fun D σ H a C dx us l hl h0 hj hH hd nd hc hn hz q => ?_⟩
        cases us with
        | nil => simp at hl
        | cons v us =>
          refine ⟨v, by simpa using hj 0 v rfl, .ref a, h0, a, C, rfl, hc, hn f List.mem_cons_self, .inr ⟨dx, l, hH, hd, by simp at hz; omega, ?_⟩⟩
          refine hu D σ (upd H dx (exd dx ((fN f, v) :: l))) a C dx us ((fN f, v) :: l) (by simpa using hl) h0 (fun j x hx => ?_) (by rw [upd_ne (Ne.symm nd)]; exact hH) upd_same nd hc (fun g hg => hn g (List.mem_cons_of_mem _ hg)) (by simp at hz ⊢; omega) ?_
          · have := hj (j + 1) x (by simpa using hx)
            rw [show i + 1 + j = i + (j + 1) by omega]
            exact this
          · rw [upd_upd]
            have e : ((fs.map fN).zip us).reverse ++ (fN f, v) :: l = (((f :: fs).map fN).zip (v :: us)).reverse ++ l := by simp
            rw [e]
            exact q
      · cases h
/-- .. the first one lays the dict -/
theorem initx_ps1 {X : Cx} {f : String} {fs : List String} {i : Nat} {body : List Stmt} (h : initB X.N X.env.scope i (f :: fs) body = true) : ∃ t, PSs X body t ∧
    ∀ (D : Ends) (σ : L2.St) (H : Hp) (a C : Addr) (us : List V), us.length = (f :: fs).length → σ[0]? = some (some (.ref a)) → (∀ j v, us[j]? = some v → σ[i + j]? = some (some v)) → H a = some (exo a C none) → OexC X.K C →
      (∀ g ∈ f :: fs, PySem.W.findIn X.K (.ref C) (fN g) = some none) → (f :: fs).length ≤ 900 → (∀ dx, H dx = none → dx ≠ a → D.nx σ (upd (upd H a (exo a C (some dx))) dx (exd dx (((f :: fs).map fN).zip us).reverse))) → t D σ H := by
  cases body with
  | nil => simp [initB] at h
  | cons S r =>
    simp only [initB] at h
    split at h
    · rename_i q hq
      obtain ⟨p1, p2, p3, pos, rfl⟩ := asSet_of hq
      obtain ⟨s, g, p⟩ := q
      simp only [Bool.and_eq_true, beq_iff_eq] at h
      obtain ⟨⟨⟨h1, h2⟩, h3, h4, h5⟩, h6⟩ := h
      subst h3
      obtain ⟨t, ht, hu⟩ := initx_ps h6
      obtain ⟨v1, v2, v3⟩ := locN_ok h2
      obtain ⟨w1, w2, w3⟩ := locN_ok h5
      refine ⟨_, pss_cons (ps_ost (pe_var (atN_ok h1) v1 v2 v3) (pe_var (atN_ok h4) w1 w2 w3) (by rfl)) ht, fun D σ H a C us hl h0 hj hH hc hn hz q => ?_⟩
      cases us with
      | nil => simp at hl
      | cons v us =>
        refine ⟨v, by simpa using hj 0 v rfl, .ref a, h0, a, C, rfl, hc, hn f List.mem_cons_self, .inl ⟨hH, fun dx n1 n2 => ?_⟩⟩
        refine hu D σ _ a C dx us [(fN f, v)] (by simpa using hl) h0 (fun j x hx => ?_) upd_same ?_ n2 hc (fun g hg => hn g (List.mem_cons_of_mem _ hg)) (by simp at hz ⊢; omega) ?_
        · have := hj (j + 1) x (by simpa using hx)
          rw [show i + 1 + j = i + (j + 1) by omega]
          exact this
        · rw [upd_ne n2, upd_same]
        · have q2 := q dx n1 n2
          have e : ((fs.map fN).zip us).reverse ++ [(fN f, v)] = (((f :: fs).map fN).zip (v :: us)).reverse := by simp
          rw [e]
          have eu : upd (upd (upd H dx (exd dx [(fN f, v)])) a (exo a C (some dx))) dx (exd dx (((f :: fs).map fN).zip (v :: us)).reverse) = upd (upd H a (exo a C (some dx))) dx (exd dx (((f :: fs).map fN).zip (v :: us)).reverse) := by
            funext b
            by_cases hb : b = dx
            · rw [hb, upd_same, upd_same]
            · rw [upd_ne hb, upd_ne hb]
              by_cases hb2 : b = a
              · rw [hb2, upd_same, upd_same]
              · rw [upd_ne hb2, upd_ne hb2, upd_ne hb]
          rw [eu]
          exact q2
    · cases h
def spX (K : PySem.W.Frag) (flds : List String) : Sp := fun vs H Q E => ∃ (a C : Addr) (us : List V), vs = .ref a :: us ∧ us.length = flds.length ∧ H a = some (exo a C none) ∧ OexC K C ∧ (∀ g ∈ flds, PySem.W.findIn K (.ref C) (fN g) = some none) ∧
  ∀ dx, H dx = none → dx ≠ a → Q .non (upd (upd H a (exo a C (some dx))) dx (exd dx ((flds.map fN).zip us).reverse))
def initXFn (G : List (Str × Gn)) (flds : List String) (N : List Str) (st : Stmt) : Bool := match plainOf (defArgs st) with
  | some as => (decide (as.length = flds.length + 1) && (N == as.map (·.arg) && (nodupB N && (decide (flds.length < 100) && !flds.isEmpty)))) &&
    ((decide ((defScope st).kind = .function) && (!(defScope st).isCoroutine && !(defScope st).isGenerator)) &&
    ((as.all (fun a => (defScope st).names.lookup a.arg == some .local || (defScope st).names.lookup a.arg == some .cell) && (defScope st).names.all (fun y => decide (y.2 ≠ .free))) && initXB G N (defScope st) flds (defBody st)))
  | none => false
theorem initx_fn {G : List (Str × Gn)} {P : Program} {w : World} {K : PySem.W.Frag} {mg : Str → Option Value} {base : Heap} {flds : List String} {N : List Str} {st : Stmt} {nm qual : Str} {a : Addr} {fd : FuncData} (F : Fun K nm qual st a fd) (h : initXFn G flds N st = true) (k : Nat)
    {CS : Addr} (hS : ∀ x, G.lookup x = some (.cl .SayError) → mg x = some (.ref CS) ∧ Sup K CS) :
    FnOk P w K mg base (L2.CX P w) (k + 1) a fd N (spX K flds) ∧ Binds K fd N [] := by
  unfold initXFn at h
  split at h
  · rename_i as has
    simp only [Bool.and_eq_true, decide_eq_true_eq, beq_iff_eq, Bool.not_eq_true', List.all_eq_true, Bool.or_eq_true] at h
    obtain ⟨⟨h1, h2, h3, h4, h4'⟩, ⟨h5, h6, h7⟩, ⟨h8, h9⟩, h10⟩ := h
    have nd := nodupB_ok h3
    have ea := plainOf_of has
    have hN : N.length = flds.length + 1 := by rw [h2, List.length_map]; exact h1
    have S : FnScope N N (defScope st) := ⟨h5, h6, h7, nd, by simp, fun x hx => by
      rw [h2] at hx
      obtain ⟨y, hy, rfl⟩ := List.mem_map.mp hx
      exact h8 y hy, h9⟩
    refine ⟨F.okX S (fun vs H Q E z => ?_) fun cdv A outer s H vs Q E hr z => ?_, F.binds fun kV doc pm an cdv ct us hl => ?_⟩
    · obtain ⟨a, C, us, rfl, hl, _⟩ := z
      rw [List.length_cons, hl, hN]
    · obtain ⟨b, C, us, rfl, hl, hH, hc, hn, q⟩ := z
      generalize defBody st = body at h10 ⊢
      cases body with
      | nil => simp [initXB] at h10
      | cons S1 r =>
        simp only [initXB] at h10
        split at h10
        · rename_i q1 hq1
          obtain ⟨p1, p2, p3, kk, p4, pos, pos2, rfl, hln⟩ := asSup_of hq1
          obtain ⟨bn, sn, msg⟩ := q1
          simp only [Bool.and_eq_true, beq_iff_eq] at h10
          obtain ⟨⟨g1, g2⟩, ⟨g3, g4⟩, g5⟩ := h10
          cases flds with
          | nil => cases h4'
          | cons f fs =>
            let X : Cx := cxOf (L2.CX P w) P w K mg base N qual (defScope st) a cdv A outer s H E
            obtain ⟨t, ht, hu⟩ := initx_ps1 (X := X) g5
            obtain ⟨s1, s2⟩ := hS bn g2
            obtain ⟨v1, v2, v3⟩ := locN_ok g4
            have hg : Gl X bn ∧ (bn == ("__debug__" : Str)) = false := by
              split at g1
              · rename_i e
                simp only [nameOk, Bool.and_eq_true, Bool.not_eq_true'] at g1
                exact ⟨by unfold Gl Env.kindOf; exact e, g1.1⟩
              · cases g1
            have hfew : ((backTo pos (starEach [Expr.Name sn p3, Expr.Constant (.str msg) kk p4] X.env)).all (fun x => !x.1) && (backToKw pos (keywordEach [] X.env)).all (fun x => x.1.isSome) && decide ([Expr.Name sn p3, Expr.Constant (.str msg) kk p4].length + ([] : List Keyword).length + (if ([] : List Keyword).isEmpty then 0 else 1) < 30)) = true := by rfl
            have pe := pe_supinit (X := X) (p1 := p1) (p2 := p2) (pos := pos) hg.1 s1 hg.2 s2 (pa_cons (pe_var (pos := p3) (atN_ok g3) v1 v2 v3) (pa_cons (pe_str (x := msg)) pa_nil)) (meth_tree (by rfl) hln hfew) (by rfl) (by rfl)
            refine ⟨_, pss_cons (ps_expr pe) ht, ?_⟩
            have h0 : (L2.start N (.ref b :: us))[0]? = some (some (.ref b)) := by simp [L2.start]
            refine ⟨.ref b, h0, b, C, [.str msg], rfl, by simp, hc, hH, ?_⟩
            refine hu _ (L2.start N (.ref b :: us)) H b C us hl h0 (fun j v hv => ?_) hH hc hn (by omega) q
            have hj := (List.getElem?_eq_some_iff.mp hv).1
            unfold L2.start
            rw [List.getElem?_append_left (by simp; omega), List.getElem?_map, show 1 + j = j + 1 by omega, List.getElem?_cons_succ, hv]
            rfl
        · cases h10
    · have e2 : N = as.map (·.arg) := h2
      rw [e2]
      exact bind_plain ea rfl (by rw [hl, hN, h1]) (by rw [← h2]; exact nd)
  · cases h
end Q

/-! the given text is mine: the check; the contexts in which a text stands -/
namespace Q
open PySem PySem.Spec PyProof.Rows L2

/-- a law's world -/
structure Wl where
  C : Cn → Addr
  has : Cn → Bool
  T : Tab
/-- where a text stands -/
structure Ck where
  G : List (Str × Gn)
  sc : Scope
  N : List Str
  fn : Str → Bool
  hot : Bool
def glB (c : Ck) (x : Str) : Bool := match c.sc.names.lookup x with
  | some .globalImplicit => nameOk x
  | _ => false
def visB (c : Ck) (x : Str) : Bool := match c.sc.names.lookup x with
  | some .local => nameOk x
  | some .cell => nameOk x
  | some .free => nameOk x
  | _ => false
def locB (c : Ck) (x : Str) : Bool := match c.sc.names.lookup x with
  | some .local => true
  | some .cell => c.fn x
  | _ => false
def atB (c : Ck) (i : Nat) (x : Str) : Bool := match c.N[i]? with
  | some y => y == x
  | none => false
def cstB : D → Const → Bool
  | .non, .none => true
  | .bl b, .bool c => b == c
  | .int i, .int j => i == j
  | .str x, .str y => x == y && PyData.strOk x
  | _, _ => false
def fldKnown (f : String) : Bool := ["at", "word", "line", "name", "part", "one", "other", "kept"].contains f
def tyB1 (c : Ck) (t : Ty) (e : Expr) : Bool := match asName e with
  | some x => glB c x && (match t with
    | .tint => x == ("int" : Str)
    | .tbool => x == ("bool" : Str)
    | .tstr => x == ("str" : Str)
    | .ttuple => x == ("tuple" : Str)
    | .tlist => x == ("list" : Str)
    | .tval => x == ("ValueError" : Str)
    | .own d => c.G.lookup x == some (.cl d))
  | none => false
def tyBs (c : Ck) : List Ty → List Expr → Bool
  | [], [] => true
  | t :: ts, e :: es => noStar e && (tyB1 c t e && tyBs c ts es)
  | _, _ => false
def tyB (c : Ck) (ts : List Ty) (e : Expr) : Bool := match ts with
  | [t] => tyB1 c t e
  | ts => match asTup e with
    | some l => tyBs c ts l && decide (l.length ≤ 100)
    | none => false
def namesB (c : Ck) : List Nat → List Expr → Bool
  | [], [] => true
  | i :: is, e :: es => (match asName e with
    | some x => atB c i x && locB c x
    | none => false) && namesB c is es
  | _, _ => false
def tgB (c : Ck) (t : Tg) (e : Expr) : Bool := match t with
  | .one i => (match asName e with
    | some x => atB c i x && locB c x
    | none => false)
  | .many is => match asTup e with
    | some l => namesB c is l
    | none => false
def tgIn (own : List Nat) : Tg → Bool
  | .one i => own.contains i
  | .many is => is.all own.contains
def ownL (c : Ck) (own : List Nat) : List (Str × Nat) := own.map fun i => ((c.N[i]?).getD ("" : Str), i)
def blkB (c : Ck) (sc : Scope) (own : List Nat) : Bool :=
  decide (sc.kind = .function) && (sc.names.all (fun y => sc.names.lookup y.1 == some y.2) && (own.all (fun i => decide (i < c.N.length)) &&
    (sc.names.all (fun y => if y.2 = .free then (match c.sc.names.lookup y.1 with
      | some .cell => true
      | some .free => true
      | _ => false) else if y.2 = .local ∨ y.2 = .cell then ((ownL c own).map (·.1)).contains y.1 || !c.N.contains y.1 else true))))
def Ck.blk (c : Ck) (sc : Scope) : Ck := { c with sc := relS sc c.sc, fn := fun x => sc.names.lookup x == some .cell }
def few (l : List Expr) : Bool := decide (l.length ≤ 20)
def Exs.len : Exs → Nat
  | .nil => 0
  | .cons _ r => r.len + 1
def Exs.isNil : Exs → Bool
  | .nil => true
  | _ => false
/-- the keys and values of a display, one behind another -/
def inter : List (Option Expr) → List Expr → List Expr
  | some k :: ks, v :: vs => k :: v :: inter ks vs
  | _, _ => []
def dispB (ks : List (Option Expr)) (vs : List Expr) : Bool := (ks.all (·.isSome) && decide (ks.length = vs.length)) && (!ks.isEmpty && decide (ks.length ≤ 15))
def Bi.ok : Bi → Bool
  | .sortedset | .lenset => false
  | _ => true
mutual
def chkE (c : Ck) : Ex → Expr → Bool
  | .v i, E => match asName E with
    | some x => atB c i x && visB c x
    | none => false
  | .k d, E => match asConst E with
    | some q => cstB d q
    | none => false
  | .g y, E => match asName E with
    | some x => glB c x && c.G.lookup x == some (.con y)
    | none => false
  | .tup es, E => match asTup E with
    | some l => chkEs c es l && decide (l.length ≤ 1000)
    | none => false
  | .lst es, E => match asLst E with
    | some l => chkEs c es l && decide (l.length ≤ 1000)
    | none => false
  | .dic t es, E => match asDict E with
    | some q => (es.isNil && (q.1.isEmpty && q.2.isEmpty)) || (!t && (dispB q.1 q.2 && chkEs c es (inter q.1 q.2)))
    | none => false
  | .bin o a b, E => match asBin E with
    | some q => decide (q.1 = o.op) && (chkE c a q.2.1 && chkE c b q.2.2)
    | none => false
  | .neg a, E => match asNeg E with
    | some x => chkE c a x
    | none => false
  | .cmp o a b, E => match asCmp1 E with
    | some q => decide (q.1 = o.op) && (noSet q.2.2 && (chkE c a q.2.1 && chkE c b q.2.2))
    | none => false
  | .chn o p a b d, E => match asCmp2 E with
    | some q => decide (q.1 = o.op) && (decide (q.2.1 = p.op) && (noSet q.2.2.2.2 && (chkE c a q.2.2.1 && (chkE c b q.2.2.2.1 && chkE c d q.2.2.2.2))))
    | none => false
  | .isn a n, E => match asCmp1 E with
    | some q => decide (q.1 = if n then .IsNot else .Is) && (decide (asConst q.2.2 = some .none) && chkE c a q.2.1)
    | none => false
  | .ist a b n, E => match asCmp1 E with
    | some q => decide (q.1 = if n then .IsNot else .Is) && (decide (asConst q.2.2 = some (.bool b)) && chkE c a q.2.1)
    | none => false
  | .not a, E => match asNot E with
    | some x => chkE c a x
    | none => false
  | .and es, E => match asAnd E with
    | some l => chkEs c es l && !l.isEmpty
    | none => false
  | .or es, E => match asOr E with
    | some l => chkEs c es l && !l.isEmpty
    | none => false
  | .orv a b, E => match asOr E with
    | some [x, y] => chkE c a x && chkE c b y
    | _ => false
  | .ite q a b, E => match asIf E with
    | some r => chkE c q r.1 && (chkE c a r.2.1 && chkE c b r.2.2)
    | none => false
  | .sub a i, E => match asSub E with
    | some q => noSlice q.2 && (chkE c a q.1 && chkE c i q.2)
    | none => false
  | .slc a lo hi, E => match asSub E with
    | some q => (match asSlc q.2 with
      | some r => chkE c a q.1 && (chkO c lo r.1 && chkO c hi r.2)
      | none => false)
    | none => false
  | .fld a f, E => match asAttr E with
    | some q => q.2 == fN f && (fldKnown f && (plainB q.1 && chkE c a q.1))
    | none => false
  | .call f es, E => match asCall E with
    | some q => (!c.hot && (glB c q.1 && c.G.lookup q.1 == some (.fn f))) && chkEs c es q.2
    | none => false
  | .mk d es, E => match asCall E with
    | some q => ((!c.hot && (glB c q.1 && c.G.lookup q.1 == some (.cl d))) && (c.G.lookup (mkN d) == some (.mk d) && !d.isExc)) && (chkEs c es q.2 && decide (q.2.length = d.flds.length))
    | none => false
  | .mth a m es, E => match asMeth E with
    | some q => ((!c.hot && q.2.1 == fN m) && (plainB q.1 && !fldKnown m)) && (chkE c a q.1 && (chkEs c es q.2.2 && few q.2.2))
    | none => false
  | .b f es, E => match asCall E with
    | some q => ((!c.hot && (f.ok && (glB c q.1 && q.1 == Str.ofString f.val.1))) && (chkEs c es q.2 && !q.2.isEmpty)) || ((!c.hot && ((decide (f = .sortedset) && (glB c q.1 && q.1 == ("sorted" : Str))) || (decide (f = .lenset) && (glB c q.1 && q.1 == ("len" : Str))))) && (match q.2 with
      | [i] => (match asCall i with
        | some r => (noStar i && (glB c r.1 && r.1 == ("set" : Str))) && (decide (r.2.length = 1) && chkEs c es r.2)
        | none => false)
      | _ => false))
    | none => false
  | .bm m a es, E => match asMeth E with
    | some q => (q.2.1 == Str.ofString m.name && plainB q.1) && (chkE c a q.1 && (chkEs c es q.2.2 && few q.2.2))
    | none => false
  | .isi a ts, E => match asCall E with
    | some (x, [e, t]) => (glB c x && x == ("isinstance" : Str)) && ((noStar e && noStar t) && (chkE c a e && tyB c ts t))
    | _ => false
  | .gget y a, E => match asSub E with
    | some q => noSlice q.2 && ((match asName q.1 with
      | some x => glB c x && c.G.lookup x == some (.dic y)
      | none => false) && chkE c a q.2)
    | none => false
  | .gin _ _ _, _ => false
  | .comp e tg it q own, E => match asLc E with
    | some r => (!c.hot && (noSet r.2.2.1 && (blkB c r.2.2.2.2 own && tgIn own tg))) && (chkI c it r.2.1 r.2.2.1 && (tgB (c.blk r.2.2.2.2) tg r.2.1 && (chkC (c.blk r.2.2.2.2) q r.2.2.2.1 && chkE (c.blk r.2.2.2.2) e r.1)))
    | none => false
  | .jst _, _ => false
def chkEs (c : Ck) : Exs → List Expr → Bool
  | .nil, l => l.isEmpty
  | .cons e es, l => match l with
    | x :: r => noStar x && (chkE c e x && chkEs c es r)
    | [] => false
def chkO (c : Ck) : Eo → Option Expr → Bool
  | .none, o => o.isNone
  | .some e, o => match o with
    | some x => chkE c e x
    | none => false
def chkC (c : Ck) : Eo → List Expr → Bool
  | .none, l => l.isEmpty
  | .some e, l => match l with
    | [x] => chkE c e x
    | _ => false
def chkI (c : Ck) : It → Expr → Expr → Bool
  | .sq e, _, E => chkE c e E
  | .r1 a, _, E => match asCall E with
    | some (x, [p]) => (glB c x && x == ("range" : Str)) && (noStar p && chkE c a p)
    | _ => false
  | .r2 a b, _, E => match asCall E with
    | some (x, [p, q]) => (glB c x && x == ("range" : Str)) && ((noStar p && noStar q) && (chkE c a p && chkE c b q))
    | _ => false
  | .r3 a b d, _, E => match asCall E with
    | some (x, [p, q, t]) => (glB c x && x == ("range" : Str)) && ((noStar p && (noStar q && noStar t)) && (chkE c a p && (chkE c b q && chkE c d t)))
    | _ => false
  | .enum e, T, E => match asTup T, asCall E with
    | some _, some (x, [p]) => (glB c x && x == ("enumerate" : Str)) && (noStar p && chkE c e p)
    | _, _ => false
  | .zip a b, T, E => match asTup T, asCall E with
    | some _, some (x, [p, q]) => (glB c x && x == ("zip" : Str)) && ((noStar p && noStar q) && (chkE c a p && chkE c b q))
    | _, _ => false
  | .items _, _, _ => false
end

/-! ### statements -/
def isLcEx : Ex → Bool
  | .comp _ _ _ _ _ => true
  | _ => false
def asAsg : Stmt → Option (Expr × Expr)
  | .Assign [t] v _ => some (t, v)
  | _ => none
theorem asAsg_of {e : Stmt} {x : Expr × Expr} (h : asAsg e = some x) : ∃ p, e = .Assign [x.1] x.2 p := by
  unfold asAsg at h
  split at h
  · cases h; exact ⟨_, rfl⟩
  · cases h
def asExpr : Stmt → Option Expr
  | .Expr v _ => some v
  | _ => none
theorem asExpr_of {e : Stmt} {x : Expr} (h : asExpr e = some x) : ∃ p, e = .Expr x p := by
  cases e <;> cases h; exact ⟨_, rfl⟩
def asRet : Stmt → Option (Option Expr)
  | .Return v _ => some v
  | _ => none
theorem asRet_of {e : Stmt} {x : Option Expr} (h : asRet e = some x) : ∃ p, e = .Return x p := by
  cases e <;> cases h; exact ⟨_, rfl⟩
def asIfS : Stmt → Option (Expr × List Stmt × List Stmt)
  | .If c a b _ => some (c, a, b)
  | _ => none
theorem asIfS_of {e : Stmt} {x : Expr × List Stmt × List Stmt} (h : asIfS e = some x) : ∃ p, e = .If x.1 x.2.1 x.2.2 p := by
  cases e <;> cases h; exact ⟨_, rfl⟩
def asWhl : Stmt → Option (Expr × List Stmt)
  | .While c a [] _ => some (c, a)
  | _ => none
theorem asWhl_of {e : Stmt} {x : Expr × List Stmt} (h : asWhl e = some x) : ∃ p, e = .While x.1 x.2 [] p := by
  unfold asWhl at h
  split at h
  · cases h; exact ⟨_, rfl⟩
  · cases h
def asFor : Stmt → Option (Expr × Expr × List Stmt)
  | .For t i a [] _ => some (t, i, a)
  | _ => none
theorem asFor_of {e : Stmt} {x : Expr × Expr × List Stmt} (h : asFor e = some x) : ∃ p, e = .For x.1 x.2.1 x.2.2 [] p := by
  unfold asFor at h
  split at h
  · cases h; exact ⟨_, rfl⟩
  · cases h
def asRaise : Stmt → Option Expr
  | .Raise (some e) none _ => some e
  | _ => none
theorem asRaise_of {e : Stmt} {x : Expr} (h : asRaise e = some x) : ∃ p, e = .Raise (some x) none p := by
  unfold asRaise at h
  split at h
  · cases h; exact ⟨_, rfl⟩
  · cases h
def asTry : Stmt → Option (List Stmt × List ExceptHandler)
  | .Try b hs [] [] _ => some (b, hs)
  | _ => none
theorem asTry_of {e : Stmt} {x : List Stmt × List ExceptHandler} (h : asTry e = some x) : ∃ p, e = .Try x.1 x.2 [] [] p := by
  unfold asTry at h
  split at h
  · cases h; exact ⟨_, rfl⟩
  · cases h
def isPass : Stmt → Bool
  | .Pass _ => true
  | _ => false
def isBrk : Stmt → Bool
  | .Break _ => true
  | _ => false
def isCnt : Stmt → Bool
  | .Continue _ => true
  | _ => false
def notTup : Expr → Bool
  | .Tuple .. => false
  | _ => true
/-- a name among the targets that is no plain local -/
def cellT (c : Ck) (l : List Expr) : Bool := l.any fun e => match e with
  | .Name x _ => c.sc.names.lookup x != some .local
  | _ => false
/-- two names, on one line, and two values that are not folded -/
def parB (c : Ck) (i j : Nat) (T V : Expr) : Option (Expr × Expr) := match T, V with
  | .Tuple [.Name x px, .Name y py] _ _, .Tuple [a, b] _ _ =>
    if (atB c i x && (atB c j y && decide (i ≠ j))) && ((c.sc.names.lookup x == some .local && (c.sc.names.lookup y == some .local && px.line == py.line)) && ((noStar a && noStar b) && (decide (c.sc.kind = .function) && (!([a, b].all (foldedForSure 8)) && (!([a, b].all (constantsAlone 8)) && !(x == y)))))) = true then some (a, b) else none
  | _, _ => none
mutual
def chkS (c : Ck) : Sm → Stmt → Bool
  | .pass, S => isPass S
  | .set i e, S => match asAsg S with
    | some q => (match asName q.1 with
      | some x => (atB c i x && locB c x) && (chkE c e q.2 && (!isLc q.2 || isLcEx e))
      | none => false)
    | none => false
  | .setT is e, S => match asAsg S with
    | some q => (match asTup q.1 with
      | some l => (!c.hot && namesB c is l) && (chkE c e q.2 && (notTup q.2 || cellT c l))
      | none => false)
    | none => false
  | .par i j a b, S => match asAsg S with
    | some q => (match parB c i j q.1 q.2 with
      | some r => !c.hot && (chkE c a r.1 && chkE c b r.2)
      | none => false)
    | none => false
  | .setI o i e, S => match asAsg S with
    | some q => (match asSub q.1 with
      | some r => noSlice r.2 && (chkE c o r.1 && (chkE c i r.2 && chkE c e q.2))
      | none => false)
    | none => false
  | .ex e, S => match asExpr S with
    | some x => !isLc x && chkE c e x
    | none => false
  | .ret e, S => match asRet S with
    | some (some x) => chkE c e x
    | _ => false
  | .retN, S => match asRet S with
    | some none => true
    | _ => false
  | .ite q a b, S => match asIfS S with
    | some r => chkE c q r.1 && (chkB c a r.2.1 && chkB c b r.2.2)
    | none => false
  | .whl q a, S => match asWhl S with
    | some r => !c.hot && (chkE c q r.1 && chkB c a r.2)
    | none => false
  | .for tg it a, S => match asFor S with
    | some r => (!c.hot && noSet r.2.1) && (chkI c it r.1 r.2.1 && (tgB c tg r.1 && chkB c a r.2.2))
    | none => false
  | .brk, S => isBrk S
  | .cnt, S => isCnt S
  | .raise d es, S => match asRaise S with
    | some e => (match asCall e with
      | some q => ((!c.hot && (d.plainExc || (d.isExc && (c.G.lookup (mkN d) == some (.mk d) && !d.flds.isEmpty)))) && (glB c q.1 && c.G.lookup q.1 == some (.cl d))) && (chkEs c es q.2 && (!q.2.isEmpty && decide (q.2.length ≤ 1000)))
      | none => false)
    | none => false
  | .try a hs, S => match asTry S with
    | some q => (!c.hot && !q.2.isEmpty) && (chkB c a q.1 && chkH c hs q.2)
    | none => false
def chkB (c : Ck) : Bl → List Stmt → Bool
  | .nil, l => l.isEmpty
  | .cons x r, l => match l with
    | y :: t => chkS c x y && chkB c r t
    | [] => false
def chkH (c : Ck) : Hds → List ExceptHandler → Bool
  | .nil, l => l.isEmpty
  | .cons d i b r, l => match l with
    | .ExceptHandler (some (.Name x _)) nm (y :: t) _ :: l2 => ((glB c x && c.G.lookup x == some (.cl d)) && (d.isExc && (match i, nm with
        | none, none => true
        | some i, some n => atB c i n && c.sc.names.lookup n == some .local
        | _, _ => false))) && (chkB { c with hot := true } b (y :: t) && chkH c r l2)
    | _ => false
end

/-! ### contexts -/
/-- what a call of a def gives -/
def spF (W : Wd) (T : Tab) (f : String) (k : Nat) : Sp := fun vs H Q E => ∃ r hs ds, Mt W r H hs ∧ Rvs W r H ds vs ∧ Post (Rv W) W (fun c d _ H => E c d H) [] r H (call T k f ds hs) Q
def FnS (X : Cx) (L : Wl) (k : Nat) (f : String) (x : Str) : Prop := ∃ (a : Addr) (fd : FuncData) (ps : List Str), X.mg x = some (.ref a) ∧ PySem.W.keepIn X.K (.ref a) = true ∧
  FnOk X.prog X.w X.K X.mg X.base (L2.CX X.prog X.w) (k + 2) a fd ps (spF ⟨X.K, L.C, L.has, X.prog, X.w⟩ L.T f k) ∧ Binds X.K fd ps []
/-- a method of a class -/
def MtS (X : Cx) (L : Wl) (k : Nat) (c : Cn) (m f : String) : Prop := (L.has c = true ∧ c.isExc = false) ∧ ∃ (a : Addr) (fd : FuncData) (ps : List Str), Meth X.K (L.C c) (fN m) a ∧
  FnOk X.prog X.w X.K X.mg X.base (L2.CX X.prog X.w) (k + 2) a fd ps (spF ⟨X.K, L.C, L.has, X.prog, X.w⟩ L.T f k) ∧ Binds X.K fd ps []
/-- a class whose things are made -/
def IniOk (K : PySem.W.Frag) (C : Addr) (d : Cn) : Prop := (d.flds = [] ∧ Mk0 K C) ∨ ∃ (a : Addr) (fd : FuncData) (nm qual : Str) (st : Stmt) (N : List Str), Mk K C a ∧ Fun K nm qual st a fd ∧ initFn d.flds N st = true
/-- an own exception with fields -/
def IniX (G : List (Str × Gn)) (K : PySem.W.Frag) (mg : Str → Option Value) (C CS : Addr) (d : Cn) : Prop := ∃ (a : Addr) (fd : FuncData) (nm qual : Str) (st : Stmt) (N : List Str), OexC K C ∧ PySem.W.findIn K (.ref C) "__init__" = some (some (.ref a)) ∧
  PySem.W.typeIn K (.ref a) = some (.type "function") ∧ Fun K nm qual st a fd ∧ initXFn G d.flds N st = true ∧ ∀ x, G.lookup x = some (.cl .SayError) → mg x = some (.ref CS) ∧ Sup K CS
def IniS (L : Wl) (G : List (Str × Gn)) (K : PySem.W.Frag) (mg : Str → Option Value) (d : Cn) : Prop := L.has d = true ∧ (d.isExc = false → IniOk K (L.C d) d) ∧ (d.isExc = true → IniX G K mg (L.C d) (L.C .SayError) d)
def bltN : List Str := ["len", "abs", "min", "max", "int", "str", "tuple", "list", "sum", "any", "all", "range", "enumerate", "zip", "isinstance", "bool", "ValueError", "sorted", "set"]
/-- an exception class that is made of one text -/
def PlainX (K : PySem.W.Frag) (C : Addr) : Prop := ∃ (bmB : List Value) (B newId initId : String), ExcBaseFacts B newId initId bmB ∧ PySem.W.excIn K C bmB newId = true ∧
  ∀ (M : Model) (h : Heap), K.In h → PySem.W.Looks M h (isSubtype (.ref C) (.type "BaseException")) true ∧ PySem.W.Looks M h (typeOf (.ref C)) (.type "type")
/-- a dict of the text -/
def DicS (L : Wl) (K : PySem.W.Frag) (P : Program) (w : World) (mg : Str → Option Value) (x : Str) (y : String) : Prop := ∃ (kvs : List (Str × D)) (p : Addr), L.T.dic y = some kvs ∧ mg x = some (.ref p) ∧ ∀ z d, kvs.lookup z = some d → ∃ v, KDct K w p z v ∧ ∀ r H, Rv ⟨K, L.C, L.has, P, w⟩ r H d v
structure XOk (L : Wl) (k : Nat) (c : Ck) (X : Cx) : Prop where
  sc : X.env.scope = c.sc
  N : X.N = c.N
  nd : X.N.Nodup
  fn : ∀ x, c.fn x = true → X.fn x = true
  calm : c.hot = false → X.calm = true ∧ Room (k + 2) X.A
  un : X.A.units + 160 < cLine
  cls : ClsOk ⟨X.K, L.C, L.has, X.prog, X.w⟩
  noat : ∀ (d : Cn) (f : String), L.has d = true → fldKnown f = true → NoAttr X.K (L.C d) (fN f)
  blt : ∀ x, x ∈ bltN → X.mg x = none
  fns : ∀ x f, c.G.lookup x = some (.fn f) → FnS X L k f x
  cns : ∀ x d, c.G.lookup x = some (.cl d) → L.has d = true ∧ X.mg x = some (.ref (L.C d)) ∧ PySem.W.keepIn X.K (.ref (L.C d)) = true
  exm : ∀ d e : Cn, L.has d = true → L.has e = true → d.isExc = true → e.isExc = true → PySem.W.exmOne X.K (.ref (L.C d)) (.ref (L.C e)) = some (d.under e)
  pex : ∀ d : Cn, L.has d = true → d.plainExc = true → PlainX X.K (L.C d)
  con : ∀ x y, c.G.lookup x = some (.con y) → ∃ d v u, L.T.con y = some d ∧ X.mg x = some u ∧ L2.RelV v u ∧ ∀ r H, Rv ⟨X.K, L.C, L.has, X.prog, X.w⟩ r H d v
  mts : ∀ d m f, L.T.meth d m = some f → MtS X L k d m f
  ini : ∀ x d, c.G.lookup x = some (.mk d) → IniS L c.G X.K X.mg d
  dic : ∀ x y, c.G.lookup x = some (.dic y) → DicS L X.K X.prog X.w X.mg x y
section
variable {L : Wl} {k : Nat} {c : Ck} {X : Cx} {x : Str} {i : Nat}
theorem glB_ok (h : XOk L k c X) (g : glB c x = true) : Gl X x ∧ (x == ("__debug__" : Str)) = false := by
  unfold glB at g
  split at g
  · rename_i e
    simp only [nameOk, Bool.and_eq_true, Bool.not_eq_true'] at g
    exact ⟨by unfold Gl Env.kindOf; rw [h.sc]; exact e, g.1⟩
  · cases g
theorem visB_ok (h : XOk L k c X) (g : visB c x = true) : Vis X.env.scope x ∧ (x == ("__debug__" : Str)) = false ∧ (x == ("__classdict__" : Str)) = false := by
  unfold visB at g
  unfold Vis
  rw [h.sc]
  split at g
  · rename_i e
    simp only [nameOk, Bool.and_eq_true, Bool.not_eq_true'] at g
    exact ⟨.inl e, g⟩
  · rename_i e
    simp only [nameOk, Bool.and_eq_true, Bool.not_eq_true'] at g
    exact ⟨.inr (.inl e), g⟩
  · rename_i e
    simp only [nameOk, Bool.and_eq_true, Bool.not_eq_true'] at g
    exact ⟨.inr (.inr e), g⟩
  · cases g
theorem locB_ok (h : XOk L k c X) (g : locB c x = true) : L2.Loc X.env.scope x ∧ (X.fn x = true ∨ X.env.scope.names.lookup x = some .local) := by
  unfold locB at g
  unfold L2.Loc
  rw [h.sc]
  split at g
  · rename_i e
    exact ⟨.inl e, .inr e⟩
  · rename_i e
    exact ⟨.inr e, .inl (h.fn x g)⟩
  · cases g
theorem atB_ok (h : XOk L k c X) (g : atB c i x = true) : X.N[i]? = some x := by
  unfold atB at g
  rw [h.N]
  split at g
  · rename_i y e
    rw [e, beq_iff_eq.mp g]
  · cases g
theorem blk_ok {s : Shared} {H : Hp} {C : Addr} {cl : List (Str × Addr)} {fp : List Addr} {sc : Scope} (h : XOk L k c X) : XOk L k (c.blk sc) (X.blk s H sc (compEnvC sc cl C X.env) fp) where
  sc := by
    show relS sc X.env.scope = relS sc c.sc
    rw [h.sc]
  N := h.N
  nd := h.nd
  fn := fun x g => g
  calm := h.calm
  un := h.un
  cls := h.cls
  noat := h.noat
  blt := h.blt
  fns := h.fns
  cns := h.cns
  exm := h.exm
  pex := h.pex
  con := h.con
  mts := h.mts
  ini := h.ini
  dic := h.dic
theorem blkB_ok {sc : Scope} {own : List Nat} (h : XOk L k c X) (g : blkB c sc own = true) : BlkOk X.N X.env.scope sc (ownL c own) := by
  unfold blkB at g
  simp only [Bool.and_eq_true, decide_eq_true_eq, List.all_eq_true] at g
  obtain ⟨g1, g2, g3, g4⟩ := g
  rw [h.N, h.sc]
  refine ⟨g1, fun y hy => by simpa using g2 y hy, fun p hp => ?_, fun y hy e => ?_, fun y hy e => ?_⟩
  · unfold ownL at hp
    obtain ⟨i, hi, rfl⟩ := List.mem_map.mp hp
    have := g3 i hi
    simp only
    rw [List.getElem?_eq_getElem this]
    rfl
  · have g5 := g4 y hy
    rw [if_pos e] at g5
    split at g5
    · rename_i z; exact .inl z
    · rename_i z; exact .inr z
    · cases g5
  · have g5 := g4 y hy
    rw [if_neg (by rcases e with e | e <;> rw [e] <;> decide), if_pos e] at g5
    rw [Bool.or_eq_true] at g5
    rcases g5 with g5 | g5
    · exact .inl (List.contains_iff_mem.mp g5)
    · exact .inr (by simpa using g5)
end
end Q

/-! expressions: what mine computes is what the given text computes -/
namespace Q
open PySem PySem.Spec PyProof.Rows L2

section
variable {X : Cx} {W : Wd} {Y : WX} {σ : L2.St} {r r' : List Addr} {H H' : Hp} {hs : Hs} {s : Ev}

/-! ### a list that is known but has no place yet -/
structure ExtK (r : List Addr) (H : Hp) (r' : List Addr) (H' : Hp) : Prop where
  pre : ∃ e, r' = r ++ e
  keep : ∀ a o, H a = some o → a ∉ r → (∀ xs, o ≠ .lst xs) → H' a = some o ∧ a ∉ r'
theorem Ext.k (x : Ext r H r' H') : ExtK r H r' H' := ⟨x.pre, fun a o h n _ => x.keep a o h n⟩
mutual
theorem Rv.monoK {d : D} {v : V} (h : Rv W r H d v) (x : ExtK r H r' H') : Rv W r' H' d v := by
  cases h with
  | non => exact .non
  | bl b => exact .bl b
  | int i => exact .int i
  | str y k => exact .str y k
  | tup h e =>
    refine .tup ?_ (Rvs.monoK e x)
    rcases h with ⟨h, n⟩ | h
    · exact .inl (x.keep _ _ h n (fun _ z => nomatch z))
    · exact .inr h
  | obj pr xx h n l e => exact .obj pr xx (x.keep _ _ h n (fun _ z => nomatch z)).1 (x.keep _ _ h n (fun _ z => nomatch z)).2 l (Rvs.monoK e x)
  | exc0 pr xx f h n => exact .exc0 pr xx f (x.keep _ _ h n (fun _ z => nomatch z)).1 (x.keep _ _ h n (fun _ z => nomatch z)).2
  | exc1 pr xx h n hd nd e k ll => exact .exc1 pr xx (x.keep _ _ h n (fun _ z => nomatch z)).1 (x.keep _ _ h n (fun _ z => nomatch z)).2 (x.keep _ _ hd nd (fun _ z => nomatch z)).1 (x.keep _ _ hd nd (fun _ z => nomatch z)).2 (Rvs.monoK e x) k ll
  | ref h =>
    obtain ⟨⟨e, rfl⟩, _⟩ := x
    exact .ref (by rw [List.getElem?_append_left (by have := List.getElem?_eq_some_iff.mp h; exact this.1)]; exact h)
theorem Rvs.monoK {d : List D} {v : List V} (h : Rvs W r H d v) (x : ExtK r H r' H') : Rvs W r' H' d v := by
  cases h with
  | nil => exact .nil
  | cons h t => exact .cons (Rv.monoK h x) (Rvs.monoK t x)
end
theorem adopt_ext {a : Addr} {vs : List V} (h : H a = some (.lst vs)) : ExtK r H (r ++ [a]) H := ⟨⟨[a], rfl⟩, fun b o e n k => ⟨e, fun z => by
  rcases List.mem_append.mp z with z | z
  · exact n z
  · rw [List.mem_singleton.mp z, h] at e
    cases e
    exact k _ rfl⟩⟩
theorem OAt.monoK {a : Addr} {o : O} (h : OAt W r H a o) (x : ExtK r H r' H') (e : H' a = H a) : OAt W r' H' a o := by
  cases o with
  | lst ds => obtain ⟨vs, q, k⟩ := h; exact ⟨vs, e.trans q, k.monoK x⟩
  | frz ds => obtain ⟨ob, vs, q, k⟩ := h; exact ⟨ob, vs, e.trans q, k.monoK x⟩
  | dic t kvs =>
    cases t with
    | false => obtain ⟨ks, ds, vs, q, k1, k2, k4, k3⟩ := h; exact ⟨ks, ds, vs, e.trans q, k1, k2, k4, k3.monoK x⟩
    | true =>
      obtain ⟨xs, q, k, nd⟩ := h
      refine ⟨xs, ?_, Paired.mapP k fun _ _ z => ⟨z.1, z.2.monoK x⟩, nd⟩
      rcases q with ⟨q, g⟩ | ⟨g, q⟩
      · refine .inl ⟨e.trans q, fun y hy => ?_⟩
        obtain ⟨vs, t, kk⟩ := g y hy
        refine ⟨vs, ?_, kk⟩
        rcases t with ⟨t, n⟩ | t
        · exact .inl (x.keep _ _ t n (fun _ z => nomatch z))
        · exact .inr t
      · exact .inr ⟨g, e.trans q⟩
theorem Mt.adopt (m : Mt W r H hs) {a : Addr} {ds : List D} {vs : List V} (h : H a = some (.lst vs)) (n : a ∉ r) (e : Rvs W r H ds vs) : Mt W (r ++ [a]) H (hs ++ [.lst ds]) := by
  have x := adopt_ext (r := r) h
  refine ⟨by simp [m.len], ?_, fun i b o h1 h2 => ?_⟩
  · rw [List.nodup_append]
    refine ⟨m.nd, by simp, fun b hb c hc e => ?_⟩
    rw [List.mem_singleton] at hc
    rw [e, hc] at hb
    exact n hb
  · by_cases hi : i < r.length
    · rw [List.getElem?_append_left hi] at h1
      rw [List.getElem?_append_left (by rw [← m.len]; exact hi)] at h2
      exact (m.at_ i b o h1 h2).monoK x rfl
    · rw [List.getElem?_append_right (by omega)] at h1
      rw [List.getElem?_append_right (by rw [← m.len]; omega)] at h2
      rw [m.len] at h1
      cases q : i - hs.length with
      | zero =>
        rw [q] at h1 h2
        simp at h1 h2
        subst h1 h2
        exact ⟨vs, h, e.monoK x⟩
      | succ j =>
        rw [q] at h1
        simp at h1

/-! ### slots forgotten -/
theorem wipe_set_in {i : Nat} {v : Option V} : ∀ {own : List Nat} {σ : L2.St}, i ∈ own → L2.wipe (σ.set i v) own = L2.wipe σ own
  | [], _, h => nomatch h
  | j :: own, σ, h => by
    unfold L2.wipe
    by_cases e : i ∈ own
    · rw [wipe_set_in e]
    · have e2 : i = j := by
        rcases List.mem_cons.mp h with z | z
        · exact z
        · exact absurd z e
      subst e2
      rw [wipe_set_out e, List.set_set]
where
  wipe_set_out : ∀ {own : List Nat} {σ : L2.St}, i ∉ own → L2.wipe (σ.set i v) own = (L2.wipe σ own).set i v
    | [], _, _ => rfl
    | j :: own, σ, h => by
      unfold L2.wipe
      rw [wipe_set_out (fun z => h (List.mem_cons_of_mem _ z))]
      exact (List.set_comm _ _ (fun z => h (z ▸ List.mem_cons_self)))
theorem wipe_none {i : Nat} : ∀ {own : List Nat} {σ : L2.St}, i ∈ own → (L2.wipe σ own).set i none = L2.wipe σ own
  | [], _, h => nomatch h
  | j :: own, σ, h => by
    unfold L2.wipe
    by_cases e : i = j
    · subst e; rw [List.set_set]
    · rw [List.set_comm _ _ (Ne.symm e), wipe_none (by
        rcases List.mem_cons.mp h with z | z
        · exact absurd z e
        · exact z)]
theorem wipe_twice : ∀ (own xs : List Nat) (σ : L2.St), (∀ i ∈ xs, i ∈ own) → L2.wipe (L2.wipe σ own) xs = L2.wipe σ own
  | own, [], _, _ => rfl
  | own, x :: xs, σ, h => by
    show (L2.wipe (L2.wipe σ own) xs).set x none = _
    rw [wipe_twice own xs σ (fun i hi => h i (List.mem_cons_of_mem _ hi)), wipe_none (h x List.mem_cons_self)]
theorem EnvR.wipe (e : EnvR W r H s σ) : ∀ own : List Nat, EnvR W r H (Q.wipe s own) (L2.wipe σ own)
  | [] => e
  | i :: own => (EnvR.wipe e own).gone i

/-! ### targets -/
def tgHas (i : Nat) : Tg → Prop
  | .one j => i = j
  | .many is => i ∈ is
def tgG (K : PySem.W.Frag) : Tg → TG
  | .one i => gName i
  | .many is => gTup K is.length (gNames is)
where
  gNames : List Nat → TGs
    | [] => gNil
    | i :: is => gCons (gName i) (gNames is)
theorem namesB_ok {L : Wl} {k : Nat} {c : Ck} (h : XOk L k c X) : ∀ {is : List Nat} {es : List Expr}, namesB c is es = true →
    PGs X es (tgG.gNames is) ∧ (assignEach es X.env).length = is.length ∧ (assignEach es X.env).findIdx? (·.1) = none
  | [], [], _ => ⟨pgs_nil, rfl, rfl⟩
  | [], _ :: _, g => by cases g
  | _ :: _, [], g => by cases g
  | i :: is, e :: es, g => by
    simp only [namesB, Bool.and_eq_true] at g
    obtain ⟨g1, g2⟩ := g
    split at g1
    · rename_i x hx
      obtain ⟨p, rfl⟩ := asName_of hx
      rw [Bool.and_eq_true] at g1
      obtain ⟨l1, l2⟩ := locB_ok h g1.2
      obtain ⟨r1, r2, r3⟩ := namesB_ok h g2
      refine ⟨pgs_cons (pg_name h.nd (atB_ok h g1.1) l1 l2) r1, ?_, ?_⟩
      · show (assignEach es X.env).length + 1 = _
        rw [r2]; rfl
      · show List.findIdx? _ ((false, _) :: assignEach es X.env) = none
        rw [List.findIdx?_cons]
        simp [r3]
    · cases g1
theorem tgB_ok {L : Wl} {k : Nat} {c : Ck} {tg : Tg} {e : Expr} (h : XOk L k c X) (hc : X.calm = true) (g : tgB c tg e = true) : PG X e (tgG X.K tg) := by
  cases tg with
  | one i =>
    simp only [tgB] at g
    split at g
    · rename_i x hx
      obtain ⟨p, rfl⟩ := asName_of hx
      rw [Bool.and_eq_true] at g
      obtain ⟨l1, l2⟩ := locB_ok h g.2
      exact pg_name h.nd (atB_ok h g.1) l1 l2
    · cases g
  | many is =>
    simp only [tgB] at g
    split at g
    · rename_i l hl
      obtain ⟨j, p, rfl⟩ := asTup_of hl
      obtain ⟨r1, r2, r3⟩ := namesB_ok h g
      exact pg_tup hc r1 r2 r3
    · cases g
/-- the values put, my slots and the layer's; P: what stays of the slots -/
theorem gNames_ok {P : L2.St → Prop} : ∀ {is : List Nat} {ds : List D} {vs : List V} {s : Ev} {σ : L2.St} {Q : L2.St → Hp → Prop}, is.length = ds.length → Rvs W r H ds vs → EnvR W r H s σ → P σ → (∀ σ i v, i ∈ is → P σ → P (σ.set i v)) →
    (∀ σ', EnvR W r H ((is.zip ds).foldl (fun s p => s.set p.1 (some p.2)) s) σ' → P σ' → Q σ' H) → tgG.gNames is vs σ H Q
  | [], [], _, _, _, _, _, .nil, e, p, _, q => ⟨rfl, q _ e p⟩
  | [], _ :: _, _, _, _, _, h, _, _, _, _, _ => by simp at h
  | _ :: _, [], _, _, _, _, h, _, _, _, _, _ => by simp at h
  | i :: is, d :: ds, _, s, σ, Q, h, .cons (v := v) (vs := vs) x t, e, p, pk, q =>
    ⟨v, vs, rfl, gNames_ok (by simpa using h) t (e.set x i) (pk _ _ _ List.mem_cons_self p) (fun σ j w hj => pk σ j w (List.mem_cons_of_mem _ hj)) q⟩
theorem asg_ok {P : L2.St → Prop} {tg : Tg} {d : D} {v : V} {s2 : Ev} {Q : L2.St → Hp → Prop} (h : asg tg d s = some s2) (x : Rv W r H d v) (e : EnvR W r H s σ) (p : P σ) (pk : ∀ σ i v, tgHas i tg → P σ → P (σ.set i v)) (q : ∀ σ', EnvR W r H s2 σ' → P σ' → Q σ' H) : tgG W.K tg v σ H Q := by
  cases tg with
  | one i =>
    cases h
    exact q _ (e.set x i) (pk _ _ _ rfl p)
  | many is =>
    cases d <;> first | (cases h; done) | skip
    rename_i ds
    simp only [asg] at h
    split at h
    · rename_i hl
      cases h
      cases x with | tup t es =>
      exact ⟨_, _, rfl, t.sq, by rw [es.length, hl], gNames_ok hl es e p (fun σ i v hi => pk σ i v hi) q⟩
    · cases h
end
end Q

/-! what a for walks -/
namespace Q
open PySem PySem.Spec PyProof.Rows L2

def WkR (W : Wd) (r0 : List Addr) (H0 : Hp) (w : Walk) (J : L2.It) : Prop := ∀ r H hs, Ext r0 H0 r H → Mt W r H hs → w.ok hs →
  (∀ i, i < w.items.length → J.go i H) ∧ (∀ i, w.items.length ≤ i → J.stop i H) ∧
  ∀ i x H', J.yld i H x H' → ∀ d, w.items[i]? = some d → ∃ r', Ext r H r' H' ∧ Mt W r' H' hs ∧ Rv W r' H' d x
section
variable {X : Cx} {W : Wd} {Y : WX} {σ : L2.St} {r r' : List Addr} {H H' : Hp} {hs : Hs} {s : Ev} {n : Nat} {a : Addr}
theorem wk_seq {xs : List D} {vs : List V} {K : PySem.W.Frag} (hk : K = W.K) (h : ∀ r1 H1 hs1, Ext r H r1 H1 → Mt W r1 H1 hs1 → ∀ ok : (hs1[n]? = some (.lst xs) ∨ hs1[n]? = some (.frz xs)), ∃ us, SqL K H1 a us ∧ Rvs W r1 H1 xs us) {ok : Hs → Prop} (hok : ∀ h, ok h → h[n]? = some (.lst xs) ∨ h[n]? = some (.frz xs)) : WkR W r H ⟨xs, ok⟩ (Itl K a) := by
  intro r1 H1 hs1 x m k
  obtain ⟨us, g1, g2⟩ := h r1 H1 hs1 x m (hok _ k)
  refine ⟨fun i hi => ?_, fun i hi => ⟨us, g1, by rw [g2.length]; exact hi⟩, fun i y H2 q d hd => ?_⟩
  · obtain ⟨v, hv, _⟩ := g2.get (List.getElem?_eq_getElem hi)
    exact ⟨us, v, g1, hv⟩
  · obtain ⟨rfl, q2⟩ := q
    obtain ⟨v, hv, rv⟩ := g2.get hd
    have e := q2 us g1
    rw [hv] at e
    cases e
    exact ⟨r1, Ext.refl _ _, m, rv⟩
theorem list_now (m : Mt W r H hs) {xs : List D} (ha : r[n]? = some a) (h : hs[n]? = some (.lst xs) ∨ hs[n]? = some (.frz xs)) : ∃ us, SqL W.K H a us ∧ Rvs W r H xs us := by
  rcases h with h | h
  · obtain ⟨us, g1, g2⟩ := m.lst ha h
    exact ⟨us, SqL.of g1, g2⟩
  · obtain ⟨ob, us, g1, g2⟩ := m.frz ha h
    exact ⟨us, .inl (.inr ⟨ob, g1⟩), g2⟩
/-- a list's place, walked -/
theorem walk_ref {w : Walk} (h : walkSq hs (.ref n) = some w) : ∃ xs, w.items = xs ∧ (hs[n]? = some (.lst xs) ∨ hs[n]? = some (.frz xs)) ∧ ∀ h, w.ok h → h[n]? = some (.lst xs) ∨ h[n]? = some (.frz xs) := by
  simp only [walkSq] at h
  split at h
  · rename_i xs hx
    cases h
    exact ⟨xs, rfl, .inl hx, fun h k => .inl k⟩
  · rename_i xs hx
    cases h
    exact ⟨xs, rfl, .inr hx, fun h k => .inr k⟩
  · cases h
theorem wk_list {w : Walk} (ha : r[n]? = some a) (h : walkSq hs (.ref n) = some w) : WkR W r H w (Itl W.K a) := by
  obtain ⟨xs, e, _, k⟩ := walk_ref h
  obtain ⟨items, ok⟩ := w
  cases e
  exact wk_seq (vs := []) rfl (fun r1 H1 hs1 x m q => list_now m (x.at ha) q) k
theorem wk_tup {xs : List D} {vs : List V} (t : TupAt W r H a vs) (e : Rvs W r H xs vs) : WkR W r H ⟨xs, fun _ => True⟩ (Itt W.K a) := by
  intro r1 H1 hs1 x m _
  have t1 := t.mono x
  have e1 := e.mono x
  refine ⟨fun i hi => ?_, fun i hi => ⟨vs, t1.sq, by rw [e1.length]; exact hi⟩, fun i y H2 q d hd => ?_⟩
  · obtain ⟨v, hv, _⟩ := e1.get (List.getElem?_eq_getElem hi)
    exact ⟨vs, v, t1.sq, hv⟩
  · obtain ⟨rfl, q2⟩ := q
    obtain ⟨v, hv, rv⟩ := e1.get hd
    have e := q2 vs t1.sq
    rw [hv] at e
    cases e
    exact ⟨r1, Ext.refl _ _, m, rv⟩
theorem rangeL_len : ∀ (lo : Int) (n : Nat), (rangeL lo n).length = n
  | _, 0 => rfl
  | lo, n + 1 => by simp only [rangeL, List.length_cons, rangeL_len (lo + 1) n]
theorem rangeL_at : ∀ (lo : Int) (n i : Nat), i < n → (rangeL lo n)[i]? = some (.int (lo + i))
  | _, 0, _, h => by omega
  | lo, n + 1, 0, _ => by simp [rangeL]
  | lo, n + 1, i + 1, h => by
    simp only [rangeL, List.getElem?_cons_succ]
    rw [rangeL_at (lo + 1) n i (by omega)]
    congr 2
    omega
theorem rangeC_len : ∀ (lo c : Int) (n : Nat), (rangeC lo c n).length = n
  | _, _, 0 => rfl
  | lo, c, n + 1 => by simp only [rangeC, List.length_cons, rangeC_len (lo + c) c n]
theorem rangeC_at : ∀ (lo c : Int) (n i : Nat), i < n → (rangeC lo c n)[i]? = some (.int (lo + (i : Nat) * c))
  | _, _, 0, _, h => by omega
  | lo, c, n + 1, 0, _ => by simp [rangeC]
  | lo, c, n + 1, i + 1, h => by
    simp only [rangeC, List.getElem?_cons_succ]
    rw [rangeC_at (lo + c) c n i (by omega)]
    congr 2
    have : ((i + 1 : Nat) : Int) * c = (i : Nat) * c + c := by
      rw [show ((i + 1 : Nat) : Int) = (i : Int) + 1 by omega, Int.add_mul, Int.one_mul]
    rw [this]
    omega
theorem wk_rng (lo : Int) (n : Nat) : WkR W r H ⟨rangeL lo n, fun _ => True⟩ (Itr lo n) := by
  intro r1 H1 hs1 x m _
  simp only [rangeL_len]
  refine ⟨fun i hi => hi, fun i hi => hi, fun i y H2 q d hd => ?_⟩
  obtain ⟨rfl, rfl⟩ := q
  by_cases hi : i < n
  · rw [rangeL_at _ _ _ hi] at hd
    cases hd
    exact ⟨r1, Ext.refl _ _, m, .int _⟩
  · rw [List.getElem?_eq_none (by rw [rangeL_len]; omega)] at hd
    cases hd
theorem wk_rngC (lo c : Int) (n : Nat) : WkR W r H ⟨rangeC lo c n, fun _ => True⟩ (Itc lo c n) := by
  intro r1 H1 hs1 x m _
  simp only [rangeC_len]
  refine ⟨fun i hi => hi, fun i hi => hi, fun i y H2 q d hd => ?_⟩
  obtain ⟨rfl, rfl⟩ := q
  by_cases hi : i < n
  · rw [rangeC_at _ _ _ _ hi] at hd
    cases hd
    exact ⟨r1, Ext.refl _ _, m, .int _⟩
  · rw [List.getElem?_eq_none (by rw [rangeC_len]; omega)] at hd
    cases hd
theorem enumL_len : ∀ (n : Nat) (xs : List D), (enumL n xs).length = xs.length
  | _, [] => rfl
  | n, x :: xs => by simp only [enumL, List.length_cons, enumL_len (n + 1) xs]
theorem enumL_at : ∀ (n : Nat) (xs : List D) (i : Nat) (d : D), (enumL n xs)[i]? = some d → ∃ e, xs[i]? = some e ∧ d = .tup [.int ((n + i : Nat) : Int), e]
  | _, [], i, d, h => by simp [enumL] at h
  | n, x :: xs, 0, d, h => by
    simp only [enumL, List.getElem?_cons_zero, Option.some.injEq] at h
    exact ⟨x, rfl, by rw [← h]; simp⟩
  | n, x :: xs, i + 1, d, h => by
    simp only [enumL, List.getElem?_cons_succ] at h
    obtain ⟨e, h1, h2⟩ := enumL_at (n + 1) xs i d h
    exact ⟨e, by simpa using h1, by rw [h2]; congr 3; omega⟩
theorem zipL_len : ∀ (xs ys : List D), (zipL xs ys).length = min xs.length ys.length
  | [], _ => by simp [zipL]
  | _ :: _, [] => by simp [zipL]
  | x :: xs, y :: ys => by simp only [zipL, List.length_cons, zipL_len xs ys]; omega
theorem zipL_at : ∀ (xs ys : List D) (i : Nat) (d : D), (zipL xs ys)[i]? = some d → ∃ x y, xs[i]? = some x ∧ ys[i]? = some y ∧ d = .tup [x, y]
  | [], _, i, d, h => by simp [zipL] at h
  | _ :: _, [], i, d, h => by simp [zipL] at h
  | x :: xs, y :: ys, 0, d, h => by
    simp only [zipL, List.getElem?_cons_zero, Option.some.injEq] at h
    exact ⟨x, y, rfl, rfl, h.symm⟩
  | x :: xs, y :: ys, i + 1, d, h => by
    simp only [zipL, List.getElem?_cons_succ] at h
    obtain ⟨e, f, h1, h2, h3⟩ := zipL_at xs ys i d h
    exact ⟨e, f, by simpa using h1, by simpa using h2, h3⟩
/-- a pair just made -/
theorem pair_new (m : Mt W r H hs) {T : Addr} (hT : H T = none) {d e : D} {v u : V} (x : Rv W r H d v) (y : Rv W r H e u) : ∃ r', Ext r H r' (upd H T (.tup [v, u])) ∧ Mt W r' (upd H T (.tup [v, u])) hs ∧ Rv W r' (upd H T (.tup [v, u])) (.tup [d, e]) (.ref T) :=
  ⟨r, ext_new hT _, m.new hT _, .tup (.inl ⟨upd_same, m.notNew hT⟩) (.cons (x.mono (ext_new hT _)) (.cons (y.mono (ext_new hT _)) .nil))⟩
theorem wk_enum {w : Walk} (ha : r[n]? = some a) (h : walkSq hs (.ref n) = some w) : WkR W r H ⟨enumL 0 w.items, w.ok⟩ (Ite W.K a) := by
  obtain ⟨xs, e, _, k⟩ := walk_ref h
  obtain ⟨items, ok⟩ := w
  cases e
  intro r1 H1 hs1 x m q
  obtain ⟨us, g1, g2⟩ := list_now m (x.at ha) (k _ q)
  simp only [enumL_len]
  refine ⟨fun i hi => ?_, fun i hi => ⟨us, g1, by rw [g2.length]; exact hi⟩, fun i y H2 q d hd => ?_⟩
  · obtain ⟨v, hv, _⟩ := g2.get (List.getElem?_eq_getElem hi)
    exact ⟨us, v, g1, hv⟩
  · obtain ⟨T, z, rfl, hT, rfl, q2⟩ := q
    obtain ⟨e, h1, rfl⟩ := enumL_at _ _ _ _ hd
    obtain ⟨v, hv, rv⟩ := g2.get h1
    have e2 := q2 us g1
    rw [hv] at e2
    cases e2
    rw [Nat.zero_add]
    exact pair_new m hT (.int _) rv
theorem wk_zip {w u : Walk} {n2 : Nat} {a2 : Addr} (ha : r[n]? = some a) (h : walkSq hs (.ref n) = some w) (ha2 : r[n2]? = some a2) (h2 : walkSq hs (.ref n2) = some u) : WkR W r H ⟨zipL w.items u.items, fun h => w.ok h ∧ u.ok h⟩ (Itz W.K a a2) := by
  obtain ⟨xs, e, _, k⟩ := walk_ref h
  obtain ⟨ys, e2, _, k2⟩ := walk_ref h2
  obtain ⟨items, ok⟩ := w
  obtain ⟨items2, ok2⟩ := u
  cases e
  cases e2
  intro r1 H1 hs1 x m q
  obtain ⟨us, g1, g2⟩ := list_now m (x.at ha) (k _ q.1)
  obtain ⟨us2, f1, f2⟩ := list_now m (x.at ha2) (k2 _ q.2)
  simp only [zipL_len]
  refine ⟨fun i hi => ?_, fun i (hi : min items.length items2.length ≤ i) => ⟨us, us2, g1, f1, by
    have e1 : us.length = items.length := g2.length
    have e2 : us2.length = items2.length := f2.length
    omega⟩, fun i y H2 q d hd => ?_⟩
  · have hi : i < min items.length items2.length := hi
    obtain ⟨v, hv, _⟩ := g2.get (List.getElem?_eq_getElem (show i < items.length by omega))
    obtain ⟨v2, hv2, _⟩ := f2.get (List.getElem?_eq_getElem (show i < items2.length by omega))
    exact ⟨us, us2, v, v2, g1, f1, hv, hv2⟩
  · obtain ⟨T, z, z2, rfl, hT, rfl, q2, q3⟩ := q
    obtain ⟨e, e', h1, h1', rfl⟩ := zipL_at _ _ _ _ hd
    obtain ⟨v, hv, rv⟩ := g2.get h1
    obtain ⟨v2, hv2, rv2⟩ := f2.get h1'
    have e2 := q2 us g1
    rw [hv] at e2
    cases e2
    have e3 := q3 us2 f1
    rw [hv2] at e3
    cases e3
    exact pair_new m hT rv rv2
theorem wk_zipT {xs ys : List D} {vs us : List V} {a2 : Addr} (t : TupAt W r H a vs) (e : Rvs W r H xs vs) (t2 : TupAt W r H a2 us) (e2 : Rvs W r H ys us) : WkR W r H ⟨zipL xs ys, fun _ => True⟩ (RZ.ItzT W.K a a2) := by
  intro r1 H1 hs1 x m _
  have t1 := t.mono x
  have e1 := e.mono x
  have t3 := t2.mono x
  have e3 := e2.mono x
  simp only [zipL_len]
  refine ⟨fun i hi => ?_, fun i hi => ⟨vs, us, t1.sq, t3.sq, by rw [e1.length, e3.length]; omega⟩, fun i y H2 q d hd => ?_⟩
  · obtain ⟨v, hv, _⟩ := e1.get (List.getElem?_eq_getElem (show i < xs.length by omega))
    obtain ⟨v2, hv2, _⟩ := e3.get (List.getElem?_eq_getElem (show i < ys.length by omega))
    exact ⟨vs, us, v, v2, t1.sq, t3.sq, hv, hv2⟩
  · obtain ⟨T, z, z2, rfl, hT, rfl, q2, q3⟩ := q
    obtain ⟨e, e', h1, h1', rfl⟩ := zipL_at _ _ _ _ hd
    obtain ⟨v, hv, rv⟩ := e1.get h1
    obtain ⟨v2, hv2, rv2⟩ := e3.get h1'
    have z1 := q2 vs t1.sq
    rw [hv] at z1
    cases z1
    have z3 := q3 us t3.sq
    rw [hv2] at z3
    cases z3
    exact pair_new m hT rv rv2
end
end Q

/-! enumerate over a tuple -/
namespace Q
open PySem PySem.Spec PyProof.Rows L2
open Sem (wp)
open AutoSeq1 (wpAny_loadPart')

theorem meets_enum_tup (l : Addr) (items : Array Value) (n : Nat) (dct : Option Addr) (sl : Array (Option Value)) :
    Meets (Builtin.«enumerate.__new__» ⟨[.type "enumerate", .ref l], []⟩) (fun _ R s => s.heap.get? l = some { cls := .type "tuple", dict := dct, data := .seq items n, slots := sl } ∧
      R (.ok (.ret (.ref (s.heap.push { cls := .type "tuple_iterator", data := .fields #[.ref l, .int 0 0] }).objs.size)))
        { s with heap := (s.heap.push { cls := .type "tuple_iterator", data := .fields #[.ref l, .int 0 0] }).push { cls := .type "enumerate", data := .fields #[.none, .bool false, .ref s.heap.objs.size, rawInt 0, .none, .none] } }) :=
  .of_wp fun prog w A R s h => by
    obtain ⟨hp, g, d, tk, os⟩ := s; obtain ⟨hl, h⟩ := h
    have hsub := sub_enumerate
    have hL : Heap.IsTuple (Shared.heap ⟨hp, g, d, tk, os⟩) l items := ⟨_, hl, rfl, n, rfl⟩
    wp_walk using wpAny_loadPart' hl
    refine wpAny_stack_any fun st => wpAny_pure ?_
    split
    · rename_i c _ _ _ _ _
      cases (c == Value.type "enumerate")
      · wp_walk using wpAny_loadPart' hl, wpAny_pyIter_tuple hL
        exact ⟨_, rfl, h⟩
      · wp_walk using wpAny_loadPart' hl, wpAny_pyIter_tuple hL
        exact ⟨_, rfl, h⟩
    · wp_walk using wpAny_loadPart' hl, wpAny_pyIter_tuple hL
      exact ⟨_, rfl, h⟩

theorem call_enum_tup {prog : Program} {w : World} {A : Around} {E : Value → Shared → Prop} {s : Shared} {l : Addr} {items : Array Value} {Q : Value → Shared → Prop} (hL : s.heap.IsTuple l items)
    (h : ∀ h', IsEnum h' (s.heap.objs.size + 1) s.heap.objs.size 0 .none → h'.IsTupleIter s.heap.objs.size l 0 → h'.objs.size = s.heap.objs.size + 2 →
      (∀ b o, s.heap.get? b = some o → h'.get? b = some o) → Q (.ref (s.heap.objs.size + 1)) { s with heap := h' }) :
    wpAny (model prog w) A (PySem.call (.type "enumerate") [.ref l]) Q E s := by
  obtain ⟨⟨c, dct, dt, sl⟩, hl, hc, n, hd⟩ := hL
  replace hc : c = .type "tuple" := hc
  replace hd : dt = .seq items n := hd
  subst hc hd
  refine callType_new F.called_enumerate (by decide) (F.typeCall_enumerate_1 _) (F.newCall_enumerate_1 _) (fun obj => F.args_object_init_2 obj _) F.entry_enumerate_new
    (meets_enum_tup l items n dct sl) ⟨hl, ?_⟩
  have hz : (s.heap.push { cls := .type "tuple_iterator", data := .fields #[.ref l, .int 0 0] }).objs.size = s.heap.objs.size + 1 := Heap.size_push ..
  show _ ∧ _
  rw [hz]
  have he : IsEnum ((s.heap.push { cls := .type "tuple_iterator", data := .fields #[.ref l, .int 0 0] }).push
      { cls := .type "enumerate", data := .fields #[.none, .bool false, .ref s.heap.objs.size, rawInt 0, .none, .none] }) (s.heap.objs.size + 1) s.heap.objs.size 0 .none := by
    have := Heap.get?_push_size (s.heap.push { cls := .type "tuple_iterator", data := .fields #[.ref l, .int 0 0] })
      (o := { cls := .type "enumerate", data := .fields #[.none, .bool false, .ref s.heap.objs.size, rawInt 0, .none, .none] }) rfl
    rw [hz] at this; exact this
  refine ⟨⟨_, he, rfl⟩, h _ he ⟨_, Heap.get?_push_of_some _ (Heap.get?_push_size _ rfl), rfl, rfl⟩ (by rw [Heap.size_push, hz]) fun b o x => Heap.get?_push_of_some _ (Heap.get?_push_of_some _ x)⟩

theorem enum_end_tup {prog : Program} {w : World} {A : Around} {E : Value → Shared → Prop} {s : Shared} {e it l : Addr} {i : Nat} {items : Array Value} {old : Value} {Q : Option Value → Shared → Prop} (hh : A.handled = none)
    (he : IsEnum s.heap e it i old) (hit : s.heap.IsTupleIter it l i) (hl : s.heap.IsTuple l items) (hx : items[i]? = none)
    (hQ : ∀ h', Heap.ExtBut it s.heap h' → Q none { s with heap := h' }) : wpAny (model prog w) A (pyNext (.ref e)) Q E s := by
  have hT : s.TypeIs (.ref e) "enumerate" := ⟨_, he, rfl⟩
  unfold pyNext
  refine wpAny_bind (wpAny_attempt (wpAny_callSpecial?_slot (name := Str.ofString "__next__") hT F.slot_enumerate_next
    (wpAny_call_entry F.slot_enumerate_next hT F.entry_enumerate_next ?_ (F.args_enumerate_next_1 _))))
  show wpAny _ _ (field (.ref e) 2 >>= _) _ _ _
  refine wpAny_bind (wpAny_field he rfl (x := .ref it) rfl ?_)
  refine wpAny_bind (wpAny_nextOf_tuple_end hh hit hl hx fun h' x he' hx' => ?_)
  obtain ⟨o, ho, hc⟩ := hx'
  refine wpAny_bind (wpAny_isInstance (T := "StopIteration") (b := true) ⟨o, ho, hc⟩ isSubtype_stop ?_)
  exact wpAny_pure (hQ _ he')

/-- the tuple at a, each item in a new pair -/
def IteT (K : PySem.W.Frag) (a : Addr) : L2.It :=
  ⟨fun i H => ∃ (xs : List V) (x : V), SqT K H a xs ∧ xs[i]? = some x, fun i H v H' => ∃ T x, v = .ref T ∧ H T = none ∧ H' = upd H T (.tup [.int (i : Nat), x]) ∧ ∀ xs, SqT K H a xs → xs[i]? = some x, fun i H => ∃ xs : List V, SqT K H a xs ∧ xs.length ≤ i⟩
theorem turn_enumT {P : Program} {w : World} {K : PySem.W.Frag} {elts : List Expr} {kk : Nat} {tpos : Pos} (a e it : Addr) :
    Turn P w K (.Tuple elts kk tpos) (IteT K a) [e, it] e (fun i h => (∃ old, IsEnum h e it ((i : Nat) : Int) old) ∧ h.IsTupleIter it a i ∧ e ≠ it ∧ a ≠ it ∧ e ≠ a) where
  mem := by simp
  obj := fun i h st b hb => by
    obtain ⟨⟨old, he⟩, ⟨o, ho, hc, hd⟩, _⟩ := st
    have e' : b = e ∨ b = it := by simpa using hb
    rcases e' with z | z
    · rw [z]; exact ⟨_, he, fun v q => nomatch q⟩
    · rw [z]; exact ⟨o, ho, fun v q => by rw [hd] at q; cases q⟩
  keep := fun i h h' st k => let ⟨⟨old, he⟩, hi, hne⟩ := st; ⟨⟨old, k e (by simp) _ he⟩, hi.at fun o q => k it (by simp) o q, hne⟩
  item := by
    intro X hP hw hK hc i pins s σ H E I hf st hg
    subst hP hw hK
    obtain ⟨⟨old, he⟩, hit, hne, hai, hea⟩ := st
    obtain ⟨xs, x, hq, hx⟩ := hg
    obtain ⟨its, rv, p, hz⟩ := I.tuple hq
    obtain ⟨u, hu, ru⟩ := rv.get hx
    have hel : e < s.heap.objs.size := Heap.lt_size he
    have hil : it < s.heap.objs.size := by obtain ⟨_, q, _⟩ := hit; exact Heap.lt_size q
    have hsz0 : i < its.toArray.size := by
      have : i < its.length := by
        rcases Nat.lt_or_ge i its.length with h | h
        · exact h
        · rw [List.getElem?_eq_none h] at hu; cases hu
      simpa using this
    refine wpAny_pyNext_enum_itemD (D := Draws.tuple (A := X.A.in1) (show X.A.in1.handled = none from I.ok.hd hc) it a hai its.toArray) he ⟨hit, show s.heap.IsTuple a its.toArray from p⟩ hsz0 hne (by simp [hne, hea]) fun x' h' tk hx' ho hst' hT hsz hk => ?_
    have hxu : x' = u := by
      have h1 : its[i]? = some x' := by simpa using hx'
      rw [hu] at h1; cases h1; rfl
    subst hxu
    refine ⟨_, rfl, wpAny_letOwnedTupleGo_enum (s := { s with heap := h', toks := tk + 1 }) ho fun h'' he' sb => ?_⟩
    have hT2 : h''.get? s.heap.objs.size = some { cls := .type "tuple", data := .seq #[.int i tk, x'] } := (sb.2 _ (Nat.ne_of_gt hel)).trans hT
    have new : ObjOk X.prog X.w (upd H s.heap.objs.size (.tup [.int (i : Nat), x])) h'' s.heap.objs.size (.tup [.int (i : Nat), x]) :=
      ⟨by show 2 ≤ sizeLine; decide, [.int i tk, x'], .cons ⟨_, rfl⟩ (.cons ru .nil), ⟨_, hT2, rfl, _, rfl⟩⟩
    have I1 : Inv X pins σ (upd H s.heap.objs.size (.tup [.int (i : Nat), x])) { s with heap := h'', toks := tk + 1 } :=
      I.turnedNew (ch := [e, it]) (fun b ob hb q => (sb.2 b (fun z => hb (by simp [z]))).trans (hk b ob (fun z => hb (by simp [z])) (fun z => hb (by simp [z])) q)) hf (Nat.le_refl _) new
    refine ⟨.ref s.heap.objs.size, _, I1, rfl, ⟨_, x, rfl, I.hok.fresh (Nat.le_refl _), rfl, fun ys hy => by rw [I.tuple_inj hy hq]; exact hx⟩, ⟨⟨x', ?_⟩, hst'.1.at fun o q => (sb.2 it (Ne.symm hne)).trans q, hne, hai, hea⟩, fun b hb => ?_⟩
    · have e1 : ((i + 1 : Nat) : Int) = (i : Int) + 1 := by omega
      rw [e1]; exact he'
    · have hb' : b < s.heap.objs.size := by
        have e' : b = e ∨ b = it := by simpa using hb
        rcases e' with z | z
        · rw [z]; exact hel
        · rw [z]; exact hil
      rw [upd_ne (Nat.ne_of_lt hb')]
      exact (hf b hb).1
  done := by
    intro X hP hw hK hc i pins s σ H E I hf st hg
    subst hP hw hK
    obtain ⟨⟨old, he⟩, hit, hne, hai, hea⟩ := st
    obtain ⟨xs, hq, hx⟩ := hg
    obtain ⟨its, rv, p, hz⟩ := I.tuple hq
    obtain ⟨f0, f1, f2, f3, f4, f5⟩ := hf it (by simp)
    have hl := rv.length
    have hle : its.length ≤ i := by omega
    have hit2 : s.heap.IsTupleIter it a i := hit
    exact enum_end_tup (I.ok.hd hc) he hit2 (show s.heap.IsTuple a its.toArray from p) (by simp; omega) fun h' eb => ⟨rfl, I.turned (t' := s.toks) (fun b o hb q => eb b o hb q) f0 f1 f3 f4 f5⟩
  self := fun A i s Q E st h => let ⟨⟨_, he⟩, _⟩ := st; wpAny_pyIter_enum he h
/-- enumerate over a list or a tuple -/
def iEnumU (K : PySem.W.Frag) (ta : TA) : TI := fun σ H R => ta σ H fun vs H1 => (∃ a xs, vs = [.ref a] ∧ SqL K H1 a xs ∧ R (Ite K a) H1) ∨ (∃ a xs, vs = [.ref a] ∧ SqT K H1 a xs ∧ R (IteT K a) H1)
theorem pi_enumU {X : Cx} {e : Expr} {ta : TA} {p pos tpos : Pos} {elts : List Expr} {kk : Nat} (hg : Gl X "enumerate") (hm : X.mg "enumerate" = none) (ha : PA X [e] ta) (hs : starEach [e] X.env = [(false, eval e X.env)] := by rfl) :
    PI X (.Tuple elts kk tpos) (.Call (.Name "enumerate" p) [e] [] pos) (iEnumU X.K ta) := by
  refine ⟨fun pins s σ H R I h => ?_⟩
  refine Call_ (ld_blt I hg hm boot_enumerate (PyProof.Rows.callWith_type1 (thn (ha.run pos pins s σ H _ I h) fun us s1 ⟨vs, H1, I1, r1, q1⟩ => ?_) hs rfl))
  have fp : ∀ {h' : Heap}, (∀ b o, s1.heap.get? b = some o → h'.get? b = some o) → ∀ (I2 : Inv X pins σ H1 { s1 with heap := h' }), ∀ b ∈ [s1.heap.objs.size + 1, s1.heap.objs.size], FpOk X pins H1 b := fun hk I2 b hb => by
    have e' : b = s1.heap.objs.size + 1 ∨ b = s1.heap.objs.size := by simpa using hb
    have hle : s1.heap.objs.size ≤ b := by
      rcases e' with z | z
      · rw [z]; exact Nat.le_add_right _ _
      · rw [z]; exact Nat.le_refl _
    exact I1.fpOk hle (I1.hok.fresh hle)
  rcases q1 with ⟨a, xs, ex, hq, q⟩ | ⟨a, xs, ex, hq, q⟩
  · subst ex
    cases r1 with
    | cons r rr =>
      cases rr
      cases r
      obtain ⟨its, rv, p', hz⟩ := I1.list hq
      refine call_enumerate_list p'.isList fun h' he hit hsz hk => wpAny_pyIter_enum he ?_
      have I2 : Inv X pins σ H1 { s1 with heap := h' } := I1.kept (t' := s1.toks) hk
      exact ⟨s1.heap.objs.size + 1, [s1.heap.objs.size + 1, s1.heap.objs.size], _, _, H1, rfl, I2, turn_enum a (s1.heap.objs.size + 1) s1.heap.objs.size, ⟨⟨.none, he⟩, hit, Nat.succ_ne_self _⟩, fp hk I2, q⟩
  · subst ex
    cases r1 with
    | cons r rr =>
      cases rr
      cases r
      obtain ⟨its, rv, p', hz⟩ := I1.tuple hq
      have hT : s1.heap.IsTuple a its.toArray := p'
      have hal : a < s1.heap.objs.size := by obtain ⟨_, y, _⟩ := hT; exact Heap.lt_size y
      refine call_enum_tup hT fun h' he hit hsz hk => wpAny_pyIter_enum he ?_
      have I2 : Inv X pins σ H1 { s1 with heap := h' } := I1.kept (t' := s1.toks) hk
      exact ⟨s1.heap.objs.size + 1, [s1.heap.objs.size + 1, s1.heap.objs.size], _, _, H1, rfl, I2, turn_enumT a (s1.heap.objs.size + 1) s1.heap.objs.size, ⟨⟨.none, he⟩, hit, Nat.succ_ne_self _, Nat.ne_of_lt hal, (Nat.ne_of_lt (Nat.lt_succ_of_lt hal)).symm⟩, fp hk I2, q⟩
theorem wk_enumT {W : Wd} {r : List Addr} {H : Hp} {a : Addr} {xs : List D} {vs : List V} (t : TupAt W r H a vs) (e : Rvs W r H xs vs) : WkR W r H ⟨enumL 0 xs, fun _ => True⟩ (IteT W.K a) := by
  intro r1 H1 hs1 x m _
  have t1 := t.mono x
  have e1 := e.mono x
  simp only [enumL_len]
  refine ⟨fun i hi => ?_, fun i hi => ⟨vs, t1.sq, by rw [e1.length]; exact hi⟩, fun i y H2 q d hd => ?_⟩
  · obtain ⟨v, hv, _⟩ := e1.get (List.getElem?_eq_getElem hi)
    exact ⟨vs, v, t1.sq, hv⟩
  · obtain ⟨T, z, rfl, hT, rfl, q2⟩ := q
    obtain ⟨e, h1, rfl⟩ := enumL_at _ _ _ _ hd
    obtain ⟨v, hv, rv⟩ := e1.get h1
    have e2 := q2 vs t1.sq
    rw [hv] at e2
    cases e2
    rw [Nat.zero_add]
    exact pair_new m hT (.int _) rv
end Q

/-! expressions: what mine computes is what the given text computes -/
namespace Q
open PySem PySem.Spec PyProof.Rows L2

abbrev wdo (X : Cx) (L : Wl) : Wd := ⟨X.K, L.C, L.has, X.prog, X.w⟩
noncomputable abbrev clOf (L : Wl) (k : Nat) : Cl := ⟨L.T, Q.call L.T k⟩
def SE (L : Wl) (k : Nat) (e : Ex) : Prop := ∀ (c : Ck) (X : Cx) (Y : WX) (E : Expr), XOk L k c X → Takes X Y → chkE c e E = true →
  PE X E (rdE (wdo X L) Y (evE (clOf L k) e)) ∧ PT X E (rdT (wdo X L) Y (evT (clOf L k) e))
def SEs (L : Wl) (k : Nat) (es : Exs) : Prop := ∀ (c : Ck) (X : Cx) (Y : WX) (l : List Expr), XOk L k c X → Takes X Y → chkEs c es l = true →
  PA X l (rdA (wdo X L) Y (evs (clOf L k) es)) ∧ (l ≠ [] → ∀ pos : Pos,
    (PE X (.BoolOp .And l pos) (rdE (wdo X L) Y (evAnd (clOf L k) es)) ∧ PW X (.BoolOp .And l pos) (rdT (wdo X L) Y fun s h => (evAnd (clOf L k) es s h).bind truR)) ∧
    (PE X (.BoolOp .Or l pos) (rdE (wdo X L) Y (evOr (clOf L k) es)) ∧ PW X (.BoolOp .Or l pos) (rdT (wdo X L) Y fun s h => (evOr (clOf L k) es s h).bind truR)))
def SO (L : Wl) (k : Nat) (o : Eo) : Prop := ∀ (c : Ck) (X : Cx) (Y : WX) (E : Option Expr), XOk L k c X → Takes X Y → chkO c o E = true → PO X E (rd (fun _ _ (a b : Option Int) => a = b) (wdo X L) Y (evO (clOf L k) o))
def SC (L : Wl) (k : Nat) (o : Eo) : Prop := ∀ (c : Ck) (X : Cx) (Y : WX) (l : List Expr), XOk L k c X → Takes X Y → chkC c o l = true → PTs X l (rdT (wdo X L) Y (evC (clOf L k) o))
def SI (L : Wl) (k : Nat) (it : It) : Prop := ∀ (c : Ck) (X : Cx) (Y : WX) (T E : Expr), XOk L k c X → Takes X Y → chkI c it T E = true → PI X T E (rd (WkR (wdo X L)) (wdo X L) Y (walk (clOf L k) it))

section
variable {X : Cx} {W : Wd} {Y : WX} {σ : L2.St} {r : List Addr} {H : Hp} {hs : Hs} {s : Ev} {Q : VK} {d e : D} {v u : V}
theorem truR_post {P : Bool → Hp → Prop} (p : Post (fun _ _ (a b : Bool) => a = b) W Y σ r H (truR d hs) P) (m : Mt W r H hs) : ∃ c, tru hs d = some c ∧ P c H := by
  unfold truR at p
  split at p
  · rename_i c hc
    exact ⟨c, hc, p r H c (Ext.refl _ _) m rfl⟩
  · exact False.elim p
theorem pw_weak {E : Expr} {t t' : TT} (h : PW X E t) (w : ∀ σ H Q, t' σ H Q → t σ H Q) : PW X E t' := ⟨fun wh pins s σ H Q I q => h.run wh pins s σ H Q I (w σ H Q q)⟩
theorem po_weak {E : Option Expr} {t t' : TO} (h : PO X E t) (w : ∀ σ H Q, t' σ H Q → t σ H Q) : PO X E t' := ⟨fun pins s σ H Q I q => h.run pins s σ H Q I (w σ H Q q)⟩
theorem pts_weak {E : List Expr} {t t' : TT} (h : PTs X E t) (w : ∀ σ H Q, t' σ H Q → t σ H Q) : PTs X E t' := ⟨fun pins s σ H Q I q => h.run pins s σ H Q I (w σ H Q q)⟩
theorem pi_weak {tg E : Expr} {t t' : TI} (h : PI X tg E t) (w : ∀ σ H Q, t' σ H Q → t σ H Q) : PI X tg E t' := ⟨fun pins s σ H Q I q => h.run pins s σ H Q I (w σ H Q q)⟩
/-- truth asked of a value -/
theorem pt_of {E : Expr} {f : Ev → Hs → R D} (hv : valT E = true) (hW : W.K = X.K) (h : PE X E (rdE W Y f)) : PT X E (rdT W Y fun s h => (f s h).bind truR) := by
  refine pt_weak (pt_truth h (valT_ok hv)) fun σ H Q w => ?_
  obtain ⟨r, hs, s, m, en, p⟩ := w
  refine rd_bind m en p fun d r1 H1 hs1 v x m1 e1 rv _ p1 => ?_
  obtain ⟨c, hc, q⟩ := truR_post p1 m1
  exact ⟨c, hW ▸ q_tru m1 rv hc, q⟩
/-- a test whose value is a truth -/
theorem pd_bl {res : R D} {P : Bool → Hp → Prop} (hb : ∀ d h, res = .ok d h → ∃ b, d = .bl b) (p : Post (fun _ _ (a b : Bool) => a = b) W Y σ r H (res.bind truR) P) : PD W Y σ r H res fun x H => ∃ k, x = .bl k ∧ P k H := by
  cases res with
  | ok d h =>
    obtain ⟨b, rfl⟩ := hb d h rfl
    intro r' H' v x m rv
    cases rv
    exact ⟨b, rfl, p r' H' b x m rfl⟩
  | exc c fs h => exact p
  | bad => exact p
theorem cop_bl (o : Cop) (a b : D) (h : Hs) (d : D) (h' : Hs) (e : o.run a b h = .ok d h') : ∃ k, d = .bl k := by
  cases o <;> simp only [Cop.run] at e
  case eq => unfold opt at e; split at e <;> cases e; exact ⟨_, rfl⟩
  case ne => unfold opt at e; split at e <;> cases e; exact ⟨_, rfl⟩
  case isin => unfold opt at e; split at e <;> cases e; exact ⟨_, rfl⟩
  case notin => unfold opt at e; split at e <;> cases e; exact ⟨_, rfl⟩
  case eqx => unfold opt at e; split at e <;> cases e; exact ⟨_, rfl⟩
  case nex => unfold opt at e; split at e <;> cases e; exact ⟨_, rfl⟩
  all_goals
    cases a <;> cases b <;> first | (cases e; done) | (cases e; exact ⟨_, rfl⟩)
theorem bind_assoc {α β γ : Type} (r : R α) (f : α → Hs → R β) (g : β → Hs → R γ) : (r.bind f).bind g = r.bind fun a h => (f a h).bind g := by cases r <;> rfl
theorem pt_if {c a b : Expr} {pos : Pos} {tc ta tb : TT} (hc : PT X c tc) (ha : PT X a ta) (hb : PT X b tb) : PT X (.IfExp c a b pos) (fun σ H Q => tc σ H fun k H1 => if k = true then ta σ H1 Q else tb σ H1 Q) := by
  refine ⟨fun pins s σ H Q I h => ?_⟩
  show wpAny _ _ (do if ← isTrue c X.env (eval c X.env) then isTrue a X.env (eval a X.env) else isTrue b X.env (eval b X.env)) _ _ _
  refine wpAny_bind (thn (hc.run pins s σ H _ I h) fun k s1 w => ?_)
  obtain ⟨H1, I1, q⟩ := w
  cases k with
  | true => exact ha.run pins s1 σ H1 Q I1 q
  | false => exact hb.run pins s1 σ H1 Q I1 q
theorem pd_list_dic (m : Mt W r H hs) (p : PD W Y σ r H (.ok (.ref hs.length) (hs ++ [.dic false []])) Q) : ∀ a, H a = none → Q (.ref a) (upd H a (.dK [])) := fun a n =>
  p (r ++ [a]) _ _ (ext_push m n _) (m.push n ⟨[], [], [], upd_same, rfl, rfl, ⟨by simp, fun _ h => nomatch h⟩, .nil⟩) (.ref (by rw [← m.len]; simp))
theorem pd_list_dicT (m : Mt W r H hs) (p : PD W Y σ r H (.ok (.ref hs.length) (hs ++ [.dic true []])) Q) : ∀ a, H a = none → Q (.ref a) (upd H a (.dT [])) := fun a n =>
  p (r ++ [a]) _ _ (ext_push m n _) (m.push n ⟨[], .inr ⟨rfl, upd_same⟩, .nil, List.nodup_nil⟩) (.ref (by rw [← m.len]; simp))
theorem chars_inj : ∀ {a b : List Char}, a.map Char.toNat = b.map Char.toNat → a = b
  | [], [], _ => rfl
  | [], _ :: _, h => by simp at h
  | _ :: _, [], h => by simp at h
  | x :: a, y :: b, h => by
    simp only [List.map_cons, List.cons.injEq] at h
    have := Char.toNat_inj.mp h.1
    rw [this, chars_inj h.2]
theorem fN_inj {a b : String} (h : fN a = fN b) : a = b := by
  unfold fN at h
  rw [Str.ofString_eq_toList, Str.ofString_eq_toList] at h
  have h2 : a.toList.map Char.toNat = b.toList.map Char.toNat := by
    have := congrArg (fun s : Str => s.cps.toList) h
    simpa using this
  exact String.toList_inj.mp (chars_inj h2)
theorem fld_lookup : ∀ {fs : List String} {ds : List D} {vs : List V} {f : String} {d : D}, fldOf fs ds f = some d → Rvs W r H ds vs → ∃ v, (zipF fs vs).lookup (fN f) = some v ∧ Rv W r H d v
  | [], _, _, _, _, h, _ => by cases h
  | _ :: _, [], _, _, _, h, _ => by cases h
  | g :: fs, e :: ds, _, f, d, h, .cons (v := v) (vs := vs) x t => by
    simp only [fldOf] at h
    simp only [zipF, List.lookup_cons]
    by_cases q : g = f
    · subst q
      rw [if_pos rfl] at h
      cases h
      exact ⟨v, by simp, x⟩
    · rw [if_neg q] at h
      have : (fN f == fN g) = false := by
        rw [beq_eq_false_iff_ne]
        exact fun z => q (fN_inj z).symm
      rw [this]
      exact fld_lookup h t
theorem lk_lookup {l : List (Str × V)} : ∀ {fs : List String} {ds : List D} {vs : List V} {f : String} {d : D}, fldOf fs ds f = some d → Rvs W r H ds vs → LkAll fs vs l → ∃ v, l.lookup (fN f) = some v ∧ Rv W r H d v
  | [], _, _, _, _, h, _, _ => by cases h
  | _ :: _, [], _, _, _, h, _, _ => by cases h
  | g :: fs, e :: ds, _, f, d, h, .cons (v := v) (vs := vs) x t, k => by
    simp only [fldOf] at h
    obtain ⟨k1, k2⟩ := k
    by_cases q : g = f
    · subst q
      rw [if_pos rfl] at h
      cases h
      exact ⟨v, k1, x⟩
    · rw [if_neg q] at h
      exact lk_lookup h t k2
theorem q_fld (ck : ClsOk W) (na : ∀ (d : Cn) (f : String), W.has d = true → fldKnown f = true → NoAttr W.K (W.C d) (fN f)) (m : Mt W r H hs) (x : Rv W r H d v) {f : String} (hf : fldKnown f = true) (p : PD W Y σ r H (fldD f d hs) Q) : RFld W.K (fN f) v H Q := by
  cases x <;> first | exact False.elim p | skip
  case obj c ds vs a dx pr xx h n l es =>
    simp only [fldD] at p
    obtain ⟨w, hw, p⟩ := pd_opt p
    obtain ⟨v, h1, h2⟩ := fld_lookup hw es
    exact .inl ⟨a, _, dx, _, v, rfl, h, (ck.own c pr xx).1, na c f pr hf, h1, pd_ok p m h2⟩
  case exc0 c a pr xx f0 h n =>
    simp only [fldD, f0] at p
    exact False.elim p
  case exc1 c ds vs a dx l pr xx h n hd nd es k ll =>
    simp only [fldD] at p
    obtain ⟨w, hw, p⟩ := pd_opt p
    obtain ⟨v, h1, h2⟩ := lk_lookup hw es k
    exact .inr ⟨a, _, dx, _, v, rfl, h, ck.exc c pr xx, na c f pr hf, hd, h1, pd_ok p m h2⟩
theorem evs_len {C : Cl} : ∀ {es : Exs} {s : Ev} {h : Hs} {ds : List D} {h' : Hs}, evs C es s h = .ok ds h' → ds.length = es.len
  | .nil, _, _, _, _, e => by cases e; rfl
  | .cons x es, s, h, ds, h', e => by
    simp only [evs] at e
    cases q : evE C x s h with
    | ok d h1 =>
      rw [q] at e
      cases q2 : evs C es s h1 with
      | ok ds2 h2 =>
        simp only [R.bind, q2] at e
        cases e
        simp only [List.length_cons, Exs.len, evs_len q2]
      | exc _ _ _ => simp only [R.bind, q2] at e; cases e
      | bad => simp only [R.bind, q2] at e; cases e
    | exc _ _ _ => rw [q] at e; cases e
    | bad => rw [q] at e; cases e
theorem chkEs_len {c : Ck} : ∀ {es : Exs} {l : List Expr}, chkEs c es l = true → es.len = l.length ∧ l.all noStar = true
  | .nil, l, h => by
    simp only [chkEs, List.isEmpty_iff] at h
    subst h
    exact ⟨rfl, rfl⟩
  | .cons x es, l, h => by
    simp only [chkEs] at h
    split at h
    · rename_i y r
      simp only [Bool.and_eq_true] at h
      obtain ⟨h1, h2, h3⟩ := h
      obtain ⟨k1, k2⟩ := chkEs_len h3
      exact ⟨by simp [Exs.len, k1], by simp [h1]; simpa using k2⟩
    · cases h
theorem calm_hd {L : Wl} {k : Nat} {c : Ck} (h : XOk L k c X) (hh : (!c.hot) = true) : X.calm = true ∧ Room (k + 2) X.A := h.calm (by simpa using hh)
end
end Q

/-! expressions, all of them -/
namespace Q
open PySem PySem.Spec PyProof.Rows L2

section
variable {X : Cx} {W : Wd} {Y : WX} {σ : L2.St} {r : List Addr} {H : Hp} {hs : Hs} {s : Ev} {Q : VK} {d e : D} {v u : V}
theorem side {D : Addr} {a b : List V} (m : Mt W r H hs) (h : H D = some (.lst a)) (n : D ∉ r) : Mt W r (upd H D (.lst b)) hs ∧ ExtK r H r (upd H D (.lst b)) := by
  have x : ExtK r H r (upd H D (.lst b)) := ⟨⟨[], by simp⟩, fun c o e n2 k => by
    have ne : c ≠ D := fun z => by rw [z, h] at e; cases e; exact k _ rfl
    exact ⟨by rw [upd_ne ne]; exact e, n2⟩⟩
  refine ⟨⟨m.len, m.nd, fun i c o h1 h2 => ?_⟩, x⟩
  have ne : c ≠ D := fun z => n (z ▸ List.mem_of_getElem? h1)
  exact (m.at_ i c o h1 h2).monoK x (by rw [upd_ne ne])
theorem compL_nil {ok : Hs → Prop} {g : D → Hs → R (Option D)} {h h2 : Hs} {l : List D} (e : compL ok g [] h = .ok l h2) : ok h ∧ l = [] ∧ h2 = h := by
  unfold compL at e
  split at e
  · rename_i k; cases e; exact ⟨k, rfl, rfl⟩
  · cases e
theorem compL_cons {ok : Hs → Prop} {g : D → Hs → R (Option D)} {d : D} {ds : List D} {h h2 : Hs} {l : List D} (e : compL ok g (d :: ds) h = .ok l h2) :
    ok h ∧ ∃ o h3 l2, g d h = .ok o h3 ∧ compL ok g ds h3 = .ok l2 h2 ∧ l = (match o with
      | some x => x :: l2
      | none => l2) := by
  unfold compL at e
  split at e
  · rename_i k
    refine ⟨k, ?_⟩
    split at e
    · rename_i o h3 hg
      split at e
      · rename_i l2 h4 hl
        cases e
        exact ⟨o, h3, l2, hg, hl, rfl⟩
      · cases e
    · cases e
  · cases e
def noX : WX := fun _ _ _ _ => False
theorem comp_some {w : Walk} {g : D → Hs → R (Option D)} {r1 : List Addr} {H1 : Hp} (p : PD W Y σ r1 H1 (compE w g hs) Q) : ∃ l h2, compL w.ok g w.items hs = .ok l h2 ∧ w.items.length ≤ SZ ∧ PD W Y σ r1 H1 (.ok (.ref h2.length) (h2 ++ [.lst l])) Q := by
  unfold compE at p
  split at p
  · rename_i l h2 hl
    split at p
    · rename_i hz
      exact ⟨l, h2, hl, hz, p⟩
    · exact False.elim p
  · exact False.elim p
theorem tg_own {i : Nat} {tg : Tg} {own : List Nat} (h : tgIn own tg = true) (k : tgHas i tg) : i ∈ own := by
  cases tg with
  | one j => cases k; simpa [tgIn] using h
  | many is =>
    simp only [tgIn, List.all_eq_true] at h
    simpa using h i k
theorem Ext.side {r1 r2 : List Addr} {H1 H2 : Hp} {D : Addr} {o : HO} (x : Ext r1 H1 r2 H2) (h : H1 D = none) : Ext r1 H1 r2 (upd H2 D o) := ⟨x.pre, fun a u e n => by
  have ne : a ≠ D := fun z => by rw [z, h] at e; cases e
  rw [upd_ne ne]
  exact x.keep a u e n⟩
theorem Ext.adopt {r1 r2 : List Addr} {H1 H2 : Hp} {D : Addr} (x : Ext r1 H1 r2 H2) (h : H1 D = none) : Ext r1 H1 (r2 ++ [D]) H2 := ⟨by obtain ⟨e, rfl⟩ := x.pre; exact ⟨e ++ [D], by simp⟩, fun a u e n => by
  have ne : a ≠ D := fun z => by rw [z, h] at e; cases e
  obtain ⟨k1, k2⟩ := x.keep a u e n
  exact ⟨k1, fun z => by
    rcases List.mem_append.mp z with z | z
    · exact k2 z
    · exact ne (List.mem_singleton.mp z)⟩⟩
theorem comp_ok {tg : Tg} {own : List Nat} {fw : Ev → Hs → R Walk} {fc : Ev → Hs → R Bool} {fe : Ev → Hs → R D} (ht : tgIn own tg = true)
    (w : rdE W Y (fun s h => (fw s h).bind fun w h => compE w (compG tg own (fun s h => fc s h) (fun s h => fe s h) s) h) σ H Q) :
    tLc (rd (WkR W) W Y fw) (tgG W.K tg) (rdT W noX fc) (rdE W noX fe) own σ H Q := by
  obtain ⟨r, hs, s, m, en, p⟩ := w
  refine rd_bind m en p fun w r1 H1 hs1 J x m1 e1 wk _ p1 => ?_
  intro D hD
  obtain ⟨l, h2, hl, hsz, p2⟩ := comp_some p1
  generalize hG : compG tg own (fun s h => fc s h) (fun s h => fe s h) s = G at hl
  refine ⟨fun i n H => ∃ r hs acc da l', Ext r1 H1 r H ∧ Mt W r H hs ∧ H D = some (.lst acc) ∧ D ∉ r ∧ Rvs W r H da acc ∧ da.length ≤ i ∧ compL w.ok G (w.items.drop i) hs = .ok l' h2 ∧ da ++ l' = l ∧ n + i = w.items.length,
    ⟨w.items.length, r1, hs1, [], [], l, ext_new hD _, m1.new hD _, upd_same, m1.notNew hD, .nil, Nat.le_refl _, by simpa using hl, rfl, rfl⟩, ?_⟩
  rintro i n H2 ⟨r2, hs2, acc, da, l', x2, m2, hacc, hDr, hda, hi, hc, hl2, hn⟩
  by_cases hil : i < w.items.length
  · refine .inr ?_
    rw [List.drop_eq_getElem_cons hil] at hc
    obtain ⟨hok, o, h3, l2, hg, hc2, hl3⟩ := compL_cons hc
    obtain ⟨wk1, wk2, wk3⟩ := wk r2 H2 hs2 x2 m2 hok
    refine ⟨wk1 i hil, fun H' => ∃ m', m' < n ∧ _, fun H' z => z, fun xv H3 hy => ?_⟩
    obtain ⟨r3, x3, m3, rv⟩ := wk3 i xv H3 hy _ (List.getElem?_eq_getElem hil)
    have x13 : Ext r1 H1 r3 H3 := x2.trans x3
    obtain ⟨hacc3, hDr3⟩ := x3.keep _ _ hacc hDr
    have hda3 := hda.mono x3
    have go : ∀ {r5 : List Addr} {H5 : Hp} {h5 : Hs}, Ext r3 H3 r5 H5 → Mt W r5 H5 h5 → H5 D = some (.lst acc) ∧ D ∉ r5 ∧ Rvs W r5 H5 da acc ∧ Ext r1 H1 r5 H5 := fun x5 _ => ⟨(x5.keep _ _ hacc3 hDr3).1, (x5.keep _ _ hacc3 hDr3).2, hda3.mono x5, x13.trans x5⟩
    rw [← hG] at hg
    simp only [compG] at hg
    cases hs2' : asg tg w.items[i] (_root_.Q.wipe s own) with
    | none => rw [hs2'] at hg; cases hg
    | some s2 =>
      rw [hs2'] at hg
      simp only at hg
      refine asg_ok (P := fun σ' => L2.wipe σ' own = L2.wipe σ own) hs2' rv ((e1.mono x13).wipe own) (wipe_twice own own σ fun _ z => z) (fun σ' j vv hj hP => ?_) (fun σ2 en2 hP => ⟨hP, ?_⟩)
      · show L2.wipe (σ'.set j vv) own = _
        rw [wipe_set_in (tg_own ht hj)]
        exact hP
      · refine ⟨r3, hs2, s2, m3, en2, ?_⟩
        cases hfc : fc s2 hs2 with
        | exc _ _ _ => rw [hfc] at hg; cases hg
        | bad => rw [hfc] at hg; cases hg
        | ok b h4 =>
          rw [hfc] at hg
          intro r4 H4 b' x4 m4 eb
          subst eb
          cases b with
          | false =>
            simp only [Bool.false_eq_true, if_false]
            simp only at hg
            cases hg
            obtain ⟨k1, k2, k3, k4⟩ := go x4 m4
            exact ⟨n - 1, by omega, r4, _, acc, da, l2, k4, m4, k1, k2, k3, by omega, hc2, by rw [← hl2, hl3], by omega⟩
          | true =>
            simp only [if_true]
            simp only at hg
            refine ⟨r4, h4, s2, m4, en2.mono x4, ?_⟩
            cases hfe : fe s2 h4 with
            | exc _ _ _ => rw [hfe] at hg; cases hg
            | bad => rw [hfe] at hg; cases hg
            | ok y h5 =>
              rw [hfe] at hg
              cases hg
              intro r5 H5 yv x5 m5 rv5
              obtain ⟨k1, k2, k3, k4⟩ := go (x4.trans x5) m5
              have sd := side (b := acc ++ [yv]) m5 k1 k2
              refine ⟨acc, k1, ?_, n - 1, by omega, r5, _, acc ++ [yv], da ++ [y], l2, k4.side hD, sd.1, upd_same, k2, (k3.append (.cons rv5 .nil)).monoK sd.2, ?_, hc2, ?_, by omega⟩
              · rw [sl_eq, hda.length]; omega
              · rw [List.length_append]; simp; omega
              · rw [← hl2, hl3]; simp
  · refine .inl ?_
    rw [List.drop_eq_nil_of_le (by omega)] at hc
    obtain ⟨hok, rfl, rfl⟩ := compL_nil hc
    obtain ⟨wk1, wk2, wk3⟩ := wk r2 H2 _ x2 m2 hok
    refine ⟨wk2 i (by omega), ?_⟩
    rw [List.append_nil] at hl2
    subst hl2
    exact p2 (r2 ++ [D]) H2 (.ref D) (x2.adopt hD) (m2.adopt hacc hDr hda) (.ref (by rw [← m2.len]; simp))
end
end Q

/-! dicts written out with their pairs; dicts of the text looked up -/
namespace Q
open PySem PySem.Spec PyProof.Rows L2
section
variable {X : Cx} {W : Wd} {Y : WX} {σ : L2.St} {r r' : List Addr} {H H' : Hp} {hs : Hs} {s : Ev}
/-- a dict that is known but has no place yet -/
structure ExtD (r : List Addr) (H : Hp) (r' : List Addr) (H' : Hp) : Prop where
  pre : ∃ e, r' = r ++ e
  keep : ∀ a o, H a = some o → a ∉ r → (∀ xs, o ≠ .dK xs) → H' a = some o ∧ a ∉ r'
mutual
theorem Rv.monoD {d : D} {v : V} (h : Rv W r H d v) (x : ExtD r H r' H') : Rv W r' H' d v := by
  cases h with
  | non => exact .non
  | bl b => exact .bl b
  | int i => exact .int i
  | str y k => exact .str y k
  | tup h e =>
    refine .tup ?_ (Rvs.monoD e x)
    rcases h with ⟨h, n⟩ | h
    · exact .inl (x.keep _ _ h n (fun _ z => nomatch z))
    · exact .inr h
  | obj pr xx h n l e => exact .obj pr xx (x.keep _ _ h n (fun _ z => nomatch z)).1 (x.keep _ _ h n (fun _ z => nomatch z)).2 l (Rvs.monoD e x)
  | exc0 pr xx f h n => exact .exc0 pr xx f (x.keep _ _ h n (fun _ z => nomatch z)).1 (x.keep _ _ h n (fun _ z => nomatch z)).2
  | exc1 pr xx h n hd nd e k ll => exact .exc1 pr xx (x.keep _ _ h n (fun _ z => nomatch z)).1 (x.keep _ _ h n (fun _ z => nomatch z)).2 (x.keep _ _ hd nd (fun _ z => nomatch z)).1 (x.keep _ _ hd nd (fun _ z => nomatch z)).2 (Rvs.monoD e x) k ll
  | ref h =>
    obtain ⟨⟨e, rfl⟩, _⟩ := x
    exact .ref (by rw [List.getElem?_append_left (by have := List.getElem?_eq_some_iff.mp h; exact this.1)]; exact h)
theorem Rvs.monoD {d : List D} {v : List V} (h : Rvs W r H d v) (x : ExtD r H r' H') : Rvs W r' H' d v := by
  cases h with
  | nil => exact .nil
  | cons h t => exact .cons (Rv.monoD h x) (Rvs.monoD t x)
end
theorem OAt.monoD {a : Addr} {o : O} (h : OAt W r H a o) (x : ExtD r H r' H') (e : H' a = H a) : OAt W r' H' a o := by
  cases o with
  | lst ds => obtain ⟨vs, q, k⟩ := h; exact ⟨vs, e.trans q, k.monoD x⟩
  | frz ds => obtain ⟨ob, vs, q, k⟩ := h; exact ⟨ob, vs, e.trans q, k.monoD x⟩
  | dic t kvs =>
    cases t with
    | false => obtain ⟨ks, ds, vs, q, k1, k2, k4, k3⟩ := h; exact ⟨ks, ds, vs, e.trans q, k1, k2, k4, k3.monoD x⟩
    | true =>
      obtain ⟨xs, q, k, nd⟩ := h
      refine ⟨xs, ?_, Paired.mapP k fun _ _ z => ⟨z.1, z.2.monoD x⟩, nd⟩
      rcases q with ⟨q, g⟩ | ⟨g, q⟩
      · refine .inl ⟨e.trans q, fun y hy => ?_⟩
        obtain ⟨vs, t, kk⟩ := g y hy
        refine ⟨vs, ?_, kk⟩
        rcases t with ⟨t, n⟩ | t
        · exact .inl (x.keep _ _ t n (fun _ z => nomatch z))
        · exact .inr t
      · exact .inr ⟨g, e.trans q⟩
theorem adoptD_ext {a : Addr} {o : HO} {l : List (Key × V)} (h : H a = some (.dK l)) (n : a ∉ r) : ExtD r H (r ++ [a]) (upd H a o) := ⟨⟨[a], rfl⟩, fun b u e nb k => by
  have ne : b ≠ a := fun z => by subst z; rw [h] at e; cases e; exact k _ rfl
  refine ⟨by rw [upd_ne ne]; exact e, fun z => ?_⟩
  rcases List.mem_append.mp z with z | z
  · exact nb z
  · exact ne (List.mem_singleton.mp z)⟩
theorem Mt.adoptD (m : Mt W r H hs) {a : Addr} {o : HO} {u : O} {l : List (Key × V)} (h : H a = some (.dK l)) (n : a ∉ r) (t : OAt W (r ++ [a]) (upd H a o) a u) : Mt W (r ++ [a]) (upd H a o) (hs ++ [u]) := by
  have x := adoptD_ext (o := o) h n
  refine ⟨by simp [m.len], ?_, fun i b v h1 h2 => ?_⟩
  · rw [List.nodup_append]
    refine ⟨m.nd, by simp, fun b hb c hc e => ?_⟩
    rw [List.mem_singleton] at hc
    rw [e, hc] at hb
    exact n hb
  · by_cases hi : i < r.length
    · rw [List.getElem?_append_left hi] at h1
      rw [List.getElem?_append_left (by rw [← m.len]; exact hi)] at h2
      have ne : b ≠ a := fun z => n (by rw [← z]; exact List.mem_of_getElem? h1)
      exact (m.at_ i b v h1 h2).monoD x (by rw [upd_ne ne])
    · rw [List.getElem?_append_right (by omega)] at h1
      rw [List.getElem?_append_right (by rw [← m.len]; omega)] at h2
      rw [m.len] at h1
      cases q : i - hs.length with
      | zero =>
        rw [q] at h1 h2
        simp at h1 h2
        subst h1 h2
        exact t
      | succ j =>
        rw [q] at h1
        simp at h1
/-! ### the pairs -/
def pairUp : List V → List (V × V)
  | k :: v :: r => (k, v) :: pairUp r
  | _ => []
/-- my pairs put, the layer's pairs put -/
def DR (W : Wd) (r : List Addr) (H : Hp) (acc : List (D × D)) (accV : List (Key × V)) : Prop := ∃ (ks : List Key) (ds : List D) (vs : List V), accV = ks.zip vs ∧ acc = (ks.map keyD).zip ds ∧ ks.length = ds.length ∧ (ks.Nodup ∧ ∀ x : Str, Sum.inr x ∈ ks → PyData.strOk x = true) ∧ Rvs W r H ds vs
theorem DR.put {acc : List (D × D)} {accV : List (Key × V)} (h : DR W r H acc accV) {q : Key} {d : D} {v : V} (kd : Rv W r H (keyD q) (kV q)) (x : Rv W r H d v) : DR W r H (dput (keyD q) d acc) (putK accV q v) := by
  obtain ⟨ks, ds, vs, rfl, rfl, h3, h4, h5⟩ := h
  have hlen : vs.length = ks.length := by rw [h5.length, h3]
  obtain ⟨ks', ds', vs', g1, g2, g3, g4, g5, g6⟩ := put_zip q x ks ds vs h3 h5 h4.1
  have e2 : putK (ks.zip vs) q v = ks'.zip vs' := by rw [putK_R (by rw [zip_fst hlen]; exact h4.1), g1]
  refine ⟨ks', ds', vs', e2, g2, g3, ⟨g5, fun z hz => ?_⟩, g4⟩
  rcases g6 _ hz with e3 | e3
  · subst e3
    simp only [keyD, kV] at kd
    cases kd with | str _ kk => exact kk
  · exact h4.2 z e3
theorem pairs_put : ∀ {ds : List D} {us : List V} {kvs : List (D × D)}, Rvs W r H ds us → newDic ds = some kvs → (kvs.map (·.1)).all (fun k => kOk false k) = true →
    ∃ kvsV : List (Key × V), pairUp us = kvsV.map (fun kv => (kV kv.1, kv.2)) ∧ kvsV.length = kvs.length ∧ ∀ {acc : List (D × D)} {accV : List (Key × V)}, DR W r H acc accV → DR W r H (putAll kvs acc) (mergeK accV kvsV)
  | [], _, kvs, .nil, h, _ => by
    simp only [newDic, Option.some.injEq] at h
    subst h
    exact ⟨[], rfl, rfl, fun q => q⟩
  | [_], _, kvs, _, h, _ => by simp [newDic] at h
  | k :: v :: ds, _, kvs, .cons (v := k2) x (.cons (v := v2) (vs := us) y t), h, g => by
    simp only [newDic] at h
    cases q : newDic ds with
    | none => rw [q] at h; cases h
    | some l =>
      rw [q] at h
      simp only [Option.map_some, Option.some.injEq] at h
      subst h
      simp only [List.map_cons, List.all_cons, Bool.and_eq_true] at g
      obtain ⟨kk, rfl, rfl⟩ := key_at g.1 x
      obtain ⟨kvsV, e1, e2, e3⟩ := pairs_put t q g.2
      exact ⟨(kk, v2) :: kvsV, by simp only [pairUp, e1, List.map_cons], by simp [e2], fun dr => e3 (dr.put x y)⟩
theorem mkDic_ok {ds : List D} {p : D → Hs → Prop} {Q : VK} {hs2 : Hs} (h : PD W Y σ r H (mkDic false ds hs2) Q) : ∃ kvs, newDic ds = some kvs ∧ (kvs.map (·.1)).all (fun k => kOk false k) = true ∧ PD W Y σ r H (.ok (.ref hs2.length) (hs2 ++ [.dic false (putAll kvs [])])) Q := by
  unfold mkDic at h
  split at h
  · rename_i kvs hk
    split at h
    · rename_i g
      exact ⟨kvs, hk, by simpa using g, h⟩
    · exact False.elim h
  · exact False.elim h
theorem newDic_len : ∀ {ds : List D} {kvs : List (D × D)}, newDic ds = some kvs → ds.length = 2 * kvs.length
  | [], kvs, h => by simp only [newDic, Option.some.injEq] at h; subst h; rfl
  | [_], kvs, h => by simp [newDic] at h
  | k :: v :: ds, kvs, h => by
    simp only [newDic] at h
    cases q : newDic ds with
    | none => rw [q] at h; cases h
    | some l =>
      rw [q] at h
      simp only [Option.map_some, Option.some.injEq] at h
      subst h
      have := newDic_len q
      simp only [List.length_cons, this]; omega
end
section
variable {L : Wl} {k : Nat}
/-- each of them, read -/
def AllE (P : Ex → Prop) : Exs → Prop
  | .nil => True
  | .cons e es => P e ∧ AllE P es
/-- the readings of pairs -/
noncomputable def trsOf (W : Wd) (Y : WX) (C : Cl) : Exs → List (TE × TE)
  | .cons a (.cons b es) => (rdE W Y (evE C a), rdE W Y (evE C b)) :: trsOf W Y C es
  | _ => []
theorem pps_ok {X : Cx} {Y : WX} {c : Ck} {pos : Pos} (h : XOk L k c X) (tk : Takes X Y) : ∀ {es : Exs} {ks : List (Option Expr)} {vs : List Expr}, AllE (SE L k) es → ks.all (·.isSome) = true → ks.length = vs.length → chkEs c es (inter ks vs) = true →
    PPs X pos ks vs (trsOf (wdo X L) Y (clOf L k) es) ∧ es.len = 2 * ks.length
  | .nil, [], [], _, _, _, _ => ⟨pps_nil, rfl⟩
  | .cons _ _, [], [], _, _, _, g => by simp [inter, chkEs] at g
  | .nil, some _ :: _, _ :: _, _, _, _, g => by simp [inter, chkEs] at g
  | .cons _ .nil, some _ :: _, _ :: _, _, _, _, g => by simp [inter, chkEs] at g
  | .cons a (.cons b es), some e :: ks, v :: vs, ae, h1, h2, g => by
    simp only [inter, chkEs, Bool.and_eq_true] at g
    obtain ⟨g1, g2, g3, g4, g5⟩ := g
    obtain ⟨a1, a2, a3⟩ := ae
    obtain ⟨r1, r2⟩ := pps_ok h tk a3 (by simpa using h1) (by simpa using h2) g5
    refine ⟨pps_cons (a1 c X Y e h tk g2).1 (a2 c X Y v h tk g4).1 r1, ?_⟩
    simp only [Exs.len, r2, List.length_cons]; omega
  | _, none :: _, _, _, h1, _, _ => by simp at h1
  | _, [], _ :: _, _, _, h2, _ => by simp at h2
  | _, _ :: _, [], _, _, h2, _ => by simp at h2
theorem pairs_rd {X : Cx} {Y : WX} {C : Cl} {σ : L2.St} : ∀ {n : Nat} {es : Exs} {r : List Addr} {H : Hp} {hs : Hs} {s : Ev} {Q : List (V × V) → Hp → Prop}, es.len = 2 * n → Mt (wdo X L) r H hs → EnvR (wdo X L) r H s σ →
    Post (Rvs (wdo X L)) (wdo X L) Y σ r H (evs C es s hs) (fun vs H' => Q (pairUp vs) H') → tPairs (trsOf (wdo X L) Y C es) σ H Q
  | 0, .nil, r, H, hs, s, Q, _, m, e, p => by
    simp only [evs] at p
    exact p r H [] (Ext.refl _ _) m .nil
  | 0, .cons _ _, _, _, _, _, _, h, _, _, _ => by simp [Exs.len] at h
  | n + 1, .nil, _, _, _, _, _, h, _, _, _ => by simp [Exs.len] at h
  | n + 1, .cons _ .nil, _, _, _, _, _, h, _, _, _ => by simp [Exs.len] at h; omega
  | n + 1, .cons a (.cons b es), r, H, hs, s, Q, h, m, e, p => by
    simp only [evs] at p
    refine rd_bind m e p fun d r1 H1 hs1 v x1 m1 e1 rv _ p1 => ?_
    have p1' : Post (Rvs (wdo X L)) (wdo X L) Y σ r1 H1 ((evE C b s hs1).bind fun d2 h2 => (evs C es s h2).bind fun ds h3 => .ok (d :: d2 :: ds) h3) (fun vs H' => Q (pairUp vs) H') := by
      have eq : ((evE C b s hs1).bind fun d2 h2 => (evs C es s h2).bind fun ds h3 => (.ok (d :: d2 :: ds) h3 : R (List D))) = (((evE C b s hs1).bind fun d2 h2 => (evs C es s h2).bind fun ds h3 => .ok (d2 :: ds) h3).bind fun ds h3 => .ok (d :: ds) h3) := by
        rw [bind_assoc]
        congr 1
        funext d2 h2
        rw [bind_assoc]
      rw [eq]; exact p1
    refine rd_bind m1 e1 p1' fun d2 r2 H2 hs2 v2 x2 m2 e2 rv2 _ p2 => ?_
    refine pairs_rd (n := n) (by simp only [Exs.len] at h; omega) m2 e2 ?_
    cases q : evs C es s hs2 with
    | ok ds hs3 =>
      rw [q] at p2
      intro r' H' vs x3 m3 rvs
      exact p2 r' H' (v :: v2 :: vs) x3 m3 (.cons ((rv.mono x2).mono x3) (.cons (rv2.mono x3) rvs))
    | exc c fs hs3 =>
      rw [q] at p2
      exact p2
    | bad =>
      rw [q] at p2
      exact p2
theorem disp_ok {X : Cx} {Y : WX} {es : Exs} {n : Nat} (hn : es.len = 2 * n) (h15 : n ≤ 15) (C : Cl) (σ : L2.St) (H : Hp) (Q : VK) (w : rdE (wdo X L) Y (evE C (.dic false es)) σ H Q) : tDisp (trsOf (wdo X L) Y C es) σ H Q := by
  obtain ⟨r, hs, s, m, e, p⟩ := w
  simp only [evE] at p
  intro a ha
  have na := m.notNew ha
  refine pairs_rd (n := n) hn (m.new ha (.dK [])) (e.mono (ext_new ha _)) ?_
  cases q : evs C es s hs with
  | ok ds hs1 =>
    rw [q] at p
    intro r' H' vs x m' rvs
    have ha' : H' a = some (.dK []) ∧ a ∉ r' := x.keep a _ upd_same na
    have x0 : Ext r H r' H' := (ext_new ha _).trans x
    obtain ⟨kvs, k1, k2, p2⟩ := mkDic_ok (p := fun _ _ => True) p
    obtain ⟨kvsV, e1, e2, e3⟩ := pairs_put rvs k1 k2
    have dl := newDic_len k1
    have el := evs_len q
    refine ⟨ha'.1, kvsV, e1, by omega, ?_⟩
    obtain ⟨ks, ds2, vs2, g1, g2, g3, g4, g5⟩ := e3 (acc := []) (accV := []) ⟨[], [], [], rfl, rfl, rfl, ⟨by simp, by simp⟩, .nil⟩
    have xd := adoptD_ext (o := .dK (mergeK [] kvsV)) ha'.1 ha'.2
    have m2 : Mt (wdo X L) (r' ++ [a]) (upd H' a (.dK (mergeK [] kvsV))) (hs1 ++ [.dic false (putAll kvs [])]) := m'.adoptD ha'.1 ha'.2 ⟨ks, ds2, vs2, by rw [upd_same, g1], g2, g3, g4, g5.monoD xd⟩
    exact p2 _ _ (.ref a) ((x0.side (o := .dK (mergeK [] kvsV)) ha).adopt ha) m2 (.ref (by rw [← m'.len]; simp))
  | exc c fs hs1 =>
    rw [q] at p
    intro r' H' cls dx x m' ex
    exact p r' H' cls dx ((ext_new ha _).trans x) m' ex
  | bad =>
    rw [q] at p
    exact p
end
end Q

/-! sets of texts: made of a list, put in order -/
namespace Q
open PySem PySem.Spec PyProof.Rows L2
/-- the text of a member -/
def txE (e : Int × Value) : Str := match e.2 with
  | .str k _ => k
  | _ => Str.empty
def GdS (P : Program) (w : World) (e : Int × Value) : Prop := ∃ k tk, e.2 = .str k tk ∧ e.1 = (strKind P w).hash k
/-- the set at a holds just these texts -/
structure StS (P : Program) (w : World) (h : Heap) (a : Addr) (xs : List Str) : Prop where
  ex : ∃ o es ep t, (h.get? a = some o ∧ o.ExactSet ∧ o.data = .set es ep t) ∧ ((∀ e ∈ es.toList, GdS P w e) ∧ (es.toList.map txE).Nodup ∧ ∀ k, k ∈ es.toList.map txE ↔ k ∈ xs) ∧
    (es.size < scanBound ∧ t.fits es.size = true ∧ es.size ≤ xs.length) ∧ Ris t.place.toList ∧ (w.params.followText "set-order" = true ∨ t.led = true)
def newSet (w : World) : Obj := { cls := .type "set", dict := none, data := .set #[] 0 (.fresh 0 0 (!w.params.followText "set-order")) }
section
variable {P : Program} {w : World} {h h' : Heap} {a : Addr} {xs : List Str}
theorem StS.at (R : StS P w h a xs) (k : ∀ o, h.get? a = some o → h'.get? a = some o) : StS P w h' a xs := by
  obtain ⟨o, es, ep, t, ⟨h1, h2⟩, r⟩ := R.ex
  exact ⟨⟨o, es, ep, t, ⟨k o h1, h2⟩, r⟩⟩
theorem StS.new (g : h.get? a = some (newSet w)) : StS P w h a [] := by
  refine ⟨⟨newSet w, #[], 0, _, ⟨g, ⟨rfl, rfl, rfl⟩, rfl⟩, ⟨fun e he => by simp at he, by simp, by simp⟩, ⟨by decide, by rfl, Nat.le_refl 0⟩, List.Pairwise.nil, ?_⟩⟩
  show _ ∨ (!w.params.followText "set-order") = true
  cases w.params.followText "set-order" <;> simp
theorem gdS_is {e : Int × Value} (g : GdS P w e) (k : Str) : (strKind P w).is k e.2 = true ↔ txE e = k := by
  obtain ⟨k0, tk, h1, _⟩ := g
  have h2 : txE e = k0 := by unfold txE; rw [h1]
  rw [h1, h2]
  constructor
  · intro z
    have z' : (k0 == k) = true := z
    exact beq_iff_eq.mp z'
  · intro z; subst z; exact strKind_is P w _ tk
theorem gdS_mem {l : List (Int × Value)} (g : ∀ e ∈ l, GdS P w e) (k : Str) : k ∈ l.map txE ↔ ∃ e ∈ l, (strKind P w).is k e.2 = true := by
  rw [List.mem_map]
  exact ⟨fun ⟨e, he, q⟩ => ⟨e, he, (gdS_is (g e he) k).mpr q⟩, fun ⟨e, he, q⟩ => ⟨e, he, (gdS_is (g e he) k).mp q⟩⟩
theorem gdS_el {l : List (Int × Value)} (g : ∀ e ∈ l, GdS P w e) : ElemsOf (strKind P w) l := by
  intro e he
  obtain ⟨k, tk, h1, h2⟩ := g e he
  exact ⟨⟨k, by rw [h1]; exact strKind_is P w k tk, h2⟩, by rw [h1]; rfl⟩
end
section
variable {P : Program} {w : World} {A : Around} {E : Value → Shared → Prop} {s : Shared} {a : Addr} {xs : List Str}
/-- what is laid into the table, and what is laid anew where it is full -/
theorem sts_lay {g : Bool → Sem Unit} (hg : ∀ (b : Bool) (s1 : Shared) (Q' : Unit → Shared → Prop), Q' () s1 → wpAny (model P w) A (g b) Q' E s1) {o : Obj} {es e1 : Array (Int × Value)} {ep : Nat} {t t2 : SetTable} {ys : List Str}
    (ho : s.heap.get? a = some o ∧ o.ExactSet ∧ o.data = .set es ep t) (m : (∀ e ∈ e1.toList, GdS P w e) ∧ (e1.toList.map txE).Nodup ∧ ∀ k, k ∈ e1.toList.map txE ↔ k ∈ ys) (b : e1.size < scanBound ∧ t2.fits e1.size = true ∧ e1.size ≤ ys.length)
    (r : Ris t2.place.toList) (l : w.params.followText "set-order" = true ∨ t2.led = true) {dm : Bool} {R : Option Bool → Shared → Prop} (hR : ∀ h', Heap.SameBut a s.heap h' → StS P w h' a ys → R (some true) { s with heap := h' }) :
    wpAny (model P w) A (do storeSet a e1 t2; if (!dm && t2.tooFull) = true then do g (relayAll t2 e1 (SetTable.grown e1.size)).2.2; storeSet a (relayAll t2 e1 (SetTable.grown e1.size)).1 (relayAll t2 e1 (SetTable.grown e1.size)).2.1; pure (some true) else pure (some true)) R E s := by
  obtain ⟨h1, h2, h3⟩ := ho
  obtain ⟨m1, m2, m3⟩ := m
  obtain ⟨b1, b2, b3⟩ := b
  refine wpAny_bind (wpAny_storeSet_of h1 h3 ?_ (fits_of_scanBound b1)); have k1 := store_at (es' := e1) (t' := t2) h1 h3
  have sb := Heap.SameBut.update s.heap a (Obj.putSet e1 t2)
  split
  · have p1 := relayAll_perm t2 e1 (SetTable.grown e1.size)
    have p2 := relayAll_fits t2 e1 (SetTable.grown e1.size)
    have p3 := relayAll_ris t2 e1 (SetTable.grown e1.size)
    have p4 := relayAll_led t2 e1 (SetTable.grown e1.size)
    revert p1 p2 p3 p4; generalize relayAll t2 e1 (SetTable.grown e1.size) = Z; intro p1 p2 p3 p4
    obtain ⟨e2, t3, gv⟩ := Z
    simp only at p1 p2 p3 p4 ⊢
    have sz : e2.size = e1.size := by have := p1.length_eq; simpa using this
    refine wpAny_bind (hg _ _ _ (wpAny_bind (wpAny_storeSet_of k1 rfl ?_ (fits_of_scanBound (by rw [sz]; exact b1)))))
    have k2 := store_at (es' := e2) (t' := t3) k1 rfl
    refine wpAny_pure (hR _ (sb.trans (Heap.SameBut.update _ a _)) ⟨⟨_, e2, _, t3, ⟨k2, h2, rfl⟩, ⟨fun e he => m1 e (p1.mem_iff.mp he), (p1.map txE).nodup_iff.mpr m2, fun k => ?_⟩, ⟨by rw [sz]; exact b1, p2, by rw [sz]; exact b3⟩, p3, ?_⟩⟩)
    · rw [← m3 k]; exact (p1.map txE).mem_iff
    · rcases l with l | l
      · exact .inl l
      · exact .inr (by rw [p4]; exact l)
  · exact wpAny_pure (hR _ sb ⟨⟨_, e1, _, t2, ⟨k1, h2, rfl⟩, ⟨m1, m2, m3⟩, ⟨b1, b2, b3⟩, r, l⟩⟩)
/-- a text put in -/
theorem sts_add {k : Str} {tk : Tok} {Q : Bool → Shared → Prop} (R : StS P w s.heap a xs) (room : xs.length + 1 < scanBound) (hQ : ∀ b h', Heap.SameBut a s.heap h' → StS P w h' a (xs ++ [k]) → Q b { s with heap := h' }) :
    wpAny (model P w) A (setAddHashed a (.str k tk) ((strKind P w).hash k)) Q E s := by
  obtain ⟨o, es, ep, t, ⟨h1, h2, h3⟩, ⟨m1, m2, m3⟩, ⟨b1, b2, b3⟩, r, l⟩ := R.ex
  have el := gdS_el m1
  have kis := strKind_is P w k tk
  have sc : (Value.str k tk).scannable = true := rfl
  unfold setAddHashed setAddHashedIn
  refine wpAny_holding (wpAny_bind (wpAny_setState_of h1 h3 b2 ?_)); dsimp only
  rw [byScan_of sc b1 el]; simp only [↓reduceIte]; unfold setAddByScan
  refine wpAny_bind (wpAny_bind (wpAny_rule (wpAny_bind (wpAny_setScan_of kis h1 h3 b2 el ?_))))
  cases hf : List.findIdx? (fun e => (strKind P w).is k e.2) es.toList with
  | some j =>
    obtain ⟨hj, pj, _⟩ := List.findIdx?_eq_some_iff_getElem.mp hf
    have kin : k ∈ xs := (m3 k).mp ((gdS_mem m1 k).mpr ⟨_, List.getElem_mem hj, pj⟩)
    refine wpAny_pure (wpAny_pure (hQ _ s.heap (Heap.SameBut.refl a s.heap) ⟨⟨o, es, ep, t, ⟨h1, h2, h3⟩, ⟨m1, m2, fun i => ?_⟩, ⟨b1, b2, by simp; omega⟩, r, l⟩⟩))
    rw [m3 i, List.mem_append, List.mem_singleton]
    exact ⟨.inl, fun z => z.elim id fun e => e ▸ kin⟩
  | none =>
    have nk : k ∉ es.toList.map txE := fun z => by
      obtain ⟨e, he, q⟩ := (gdS_mem (P := P) (w := w) m1 k).mp z
      have c := List.findIdx?_eq_none_iff.mp hf e he
      rw [q] at c; cases c
    have gw : ∀ (b : Bool) {s1 : Shared} {Q' : Unit → Shared → Prop}, Q' () s1 → wpAny (model P w) A (match b with | true => rule "set.scan.the-table-gave-way" | false => pure ()) Q' E s1 := by
      intro b s1 Q' q; cases b <;> first | exact wpAny_pure q | exact wpAny_rule q
    have p1 := layNew_perm t es ((strKind P w).hash k) (.str k tk)
    have p2 := layNew_fits t es ((strKind P w).hash k) (.str k tk)
    have p3 := layNew_ris t es ((strKind P w).hash k) (.str k tk) r
    have p4 := layNew_led t es ((strKind P w).hash k) (.str k tk)
    revert p1 p2 p3 p4; generalize layNew t es ((strKind P w).hash k) (.str k tk) = Z; intro p1 p2 p3 p4
    obtain ⟨e1, t1, wd, gv⟩ := Z
    simp only at p1 p2 p3 p4 ⊢
    rw [Array.toList_push] at p1
    have pc : e1.toList.Perm (((strKind P w).hash k, Value.str k tk) :: es.toList) := p1.trans (List.perm_append_singleton _ _)
    have pk : (e1.toList.map txE).Perm (k :: es.toList.map txE) := pc.map txE
    have n1 : (∀ e ∈ e1.toList, GdS P w e) ∧ (e1.toList.map txE).Nodup ∧ ∀ i, i ∈ e1.toList.map txE ↔ i ∈ xs ++ [k] := by
      refine ⟨fun e he => ?_, pk.nodup_iff.mpr (List.nodup_cons.mpr ⟨nk, m2⟩), fun i => ?_⟩
      · rcases List.mem_cons.mp (pc.mem_iff.mp he) with z | z
        · exact z ▸ ⟨k, tk, rfl, rfl⟩
        · exact m1 e z
      · rw [pk.mem_iff, List.mem_cons, m3 i, List.mem_append, List.mem_singleton]; exact Or.comm
    have sz : e1.size = es.size + 1 := by have := pc.length_eq; simpa using this
    have bb : e1.size < scanBound := by omega
    have bl : e1.size ≤ (xs ++ [k]).length := by simp; omega
    have ll : w.params.followText "set-order" = true ∨ t1.led = true := by
      rcases l with l | l
      · exact .inl l
      · exact .inr (by rw [p4]; exact l)
    have gg : ∀ (b : Bool) (s1 : Shared) (Q' : Unit → Shared → Prop), Q' () s1 → wpAny (model P w) A (match b with | true => rule "set.scan.the-table-gave-way" | false => pure ()) Q' E s1 := fun b s1 Q' q => gw b q
    refine wpAny_bind (gw _ ?_)
    split
    · refine wpAny_bind ?_; rw [hashByValue_scannable 8 sc]
      refine wpAny_pure (sts_lay ?_ ⟨h1, h2, h3⟩ n1 (t2 := _) ⟨bb, ?_, bl⟩ ?_ ?_ fun h' sb q => ?_)
      · intro b s1 Q' q; cases b <;> first | exact wpAny_pure q | exact wpAny_rule q
      · first | (split <;> first | exact p2 | exact SetTable.fits_plain_off p2) | exact p2
      · first | (split <;> exact p3) | exact p3
      · first | (split <;> exact ll) | exact ll
      · dsimp only; exact wpAny_pure (hQ _ h' sb q)
    · refine wpAny_bind (wpAny_pure ?_); simp only [↓reduceIte]
      refine sts_lay ?_ ⟨h1, h2, h3⟩ n1 ⟨bb, p2, bl⟩ p3 ll fun h' sb q => ?_
      · intro b s1 Q' q; cases b <;> first | exact wpAny_pure q | exact wpAny_rule q
      · dsimp only; exact wpAny_pure (hQ _ h' sb q)
end
section
variable {P : Program} {w : World} {A : Around} {R : Result → Shared → Prop} {I : Addr} {fp wr : List Addr} {G : Array GenState → Array GenState → Prop} {n : Nat} {Pv : Nat → Value → Prop} {St : Nat → Shared → Prop}
/-- the texts walked, put in one by one -/
theorem sts_loop (W : WalksS P w A.in1 I fp wr G n Pv St) (z : Addr) (zf : z ∉ fp) (xs : List Str) (hn : xs.length = n) (room : n + 1 < scanBound) (hv : ∀ i v, Pv i v → ∃ x t, xs[i]? = some x ∧ v = .str x t) : ∀ (k i : Nat) (s : Shared), i + k = n → St i s → StS P w s.heap z (xs.take i) →
    (∀ s', Moved (z :: wr) G s s' → StS P w s'.heap z xs → R (.ok (.ret .none)) s') → codeAny (model P w) A (.builtin "set.update.loop" ⟨[.ref z, .ref I], []⟩) R s
  | k, i, s, hk, st, T, fin => by
    have zw : z ∉ wr := fun h => zf (W.sub _ h)
    have mo : ∀ b ∈ wr, b ∈ z :: wr := fun b hb => .tail _ hb
    refine codeAny_builtin PyProof.Rows.F.entry_set_update_loop ?_; rw [Around.under_plainId PyProof.Rows.F.plain_set_update_loop _]; show wpAny _ A.in1 (pyNext (.ref I) >>= _) _ _ s
    match k, hk with
    | 0, hk =>
      have e : i = n := hk
      subst e
      refine wpAny_bind (W.done s _ _ st fun s' hm => ?_); show wpAny _ A.in1 (ret Value.none) _ _ s'
      refine wpAny_pure (fin s' (hm.mono mo) ?_)
      have T' := T.at (h' := s'.heap) fun o e => hm.heap z o zw e
      rwa [List.take_of_length_le (by omega)] at T'
    | k + 1, hk =>
      have hi : i < n := by omega
      refine wpAny_bind (W.item i s _ _ hi st fun v s' hp st' hm => ?_); obtain ⟨x, t, hx, rfl⟩ := hv i v hp
      have T' := T.at (h' := s'.heap) fun o e => hm.heap z o zw e
      show wpAny _ A.in1 (holding [Value.str x t] (setAdd z (.str x t)) >>= _) _ _ s'; refine wpAny_bind (wpAny_holding ?_); unfold setAdd
      refine wpAny_holding (wpAny_bind ((strKind P w).pyHash (strKind_is P w x t) (sts_add (s := { s' with toks := s'.toks + 1 }) T' (by rw [List.length_take]; omega) fun b h' sb T2 => ?_)))
      have tk : xs.take i ++ [x] = xs.take (i + 1) := by rw [List.take_succ, hx]; rfl
      rw [tk] at T2
      have hne : ∀ b, b ≠ z → ∀ o, s'.heap.get? b = some o → h'.get? b = some o := fun b hb o e => (sb.2 b hb).trans e
      refine wpAny_pure ⟨plainId_quiet PyProof.Rows.F.plain_set_update_loop _, sts_loop W z zf xs hn room hv k (i + 1) _ (by omega) (W.frame _ s' _ _ st' (Nat.le_succ _) fun b hb o e => hne b (fun q => zf (q ▸ hb)) o e) T2 fun s2 hm2 T3 => ?_⟩
      exact fin s2 (Moved.trans W.gtrans ((hm.mono mo).then_heap (Nat.le_succ _) fun b o hb e => hne b (fun q => hb (q ▸ List.mem_cons_self)) o e) hm2) T3
end
section
variable {P : Program} {w : World} {A : Around} {E : Value → Shared → Prop} {s : Shared} {l : Addr} {items : Array Value} {xs : List Str}
/-- set(xs) -/
theorem sts_call {Q : Value → Shared → Prop} (hh : A.handled = none) (hl : s.heap.IsList l items) (hv : ∀ (i : Nat) (v : Value), items[i]? = some v → ∃ x t, xs[i]? = some x ∧ v = Value.str x t) (hz : items.size = xs.length) (room : xs.length + 1 < scanBound)
    (h : ∀ (h' : Heap) (tk : Nat), StS P w h' s.heap.objs.size xs → (∀ b o, s.heap.get? b = some o → h'.get? b = some o) → Q (.ref s.heap.objs.size) { s with heap := h', toks := tk }) :
    wpAny (model P w) A (PySem.call (.type "set") [.ref l]) Q E s := by
  obtain ⟨cc, tl, q1⟩ := F.called_set.mro
  have q2 := F.called_set.made
  have q3 := F.called_set.sub
  have q4 := F.called_set.notType
  have q5 := F.called_set.canCreate
  have q6 := F.typeCall_set_1 (.ref l)
  refine wpAny_call (codeAny_of_tree ?_); show wpAny _ _ (callAny (.type "set") _) _ _ _
  refine wpAny_pure ⟨Code.quiet_builtin _ (by decide +kernel), codeAny_builtin F.entry_type_call ?_⟩; rw [Around.under_plain (weight_type_call_type "set" [.ref l] []) rfl]
  repeat (any_goals (first | assumption | wp_step))
  refine codeAny_mono (code_set_led1 (.ref l) (E := E) (Q₁ := fun ob s1 => ob = .ref s.heap.objs.size ∧ s1 = { s with heap := s.heap.push (newSet w) }) ⟨rfl, rfl⟩) fun r s1 hr => ?_
  rcases r with fl | e
  rotate_left
  · rcases e with ob | _ | _ | _ <;> first | exact hr.elim | skip
    obtain ⟨rfl, rfl⟩ := hr
    have g0 : (s.heap.push (newSet w)).get? s.heap.objs.size = some (newSet w) := Heap.get?_push_size _ rfl
    have ty : Shared.TypeIs { s with heap := s.heap.push (newSet w) } (.ref s.heap.objs.size) "set" := ⟨_, g0, rfl⟩
    have q7 := F.called_set.init.lookup
    have q8 := F.called_set.init.bind (.ref s.heap.objs.size)
    repeat (any_goals (first | assumption | wp_step))
    refine codeAny_mono (codeAny_call_builtin (R := wants (fun r s2 => r = .none ∧ ∃ h' tk, s2 = { s with heap := h', toks := tk } ∧ StS P w h' s.heap.objs.size xs ∧ ∀ b o, s.heap.get? b = some o → h'.get? b = some o) E) F.called_set.init.plain F.entry_set_init (check_set_init_1 ty ?_)) fun r2 s2 hr2 => ?_
    · obtain ⟨ol, k1, k2, nl, k3⟩ := hl
      obtain ⟨oc, od, odt, osl⟩ := ol
      simp only at k2 k3; subst k2 k3
      have k4 : (s.heap.push (newSet w)).get? l = some { cls := .type "list", dict := od, data := .seq items nl, slots := osl } := Heap.get?_push_of_some _ k1
      have u1 := F.sub_list_set
      have u2 := F.sub_list_frozenset
      have u3 : (Value.type "list" == Value.type "dict") = false := by decide
      have k5 : (s.heap.push (newSet w)).IsList l items := ⟨_, k4, rfl, nl, rfl⟩
      unfold Builtin.«set.__init__» noKeywords Builtin.Frozenset.updateFrom; generalize hPI : pyIter = PI; wp_walk; subst hPI
      refine wpAny_pyIter_list k5 (wpAny_bind (wpAny_runValue ?_))
      have lt := Heap.lt_size k1
      have h3 : A.in1.in1.in1.handled = none := by simp [hh]
      have ne : l ≠ (s.heap.push (newSet w)).objs.size := by rw [Heap.size_push]; exact Nat.ne_of_lt (Nat.lt_succ_of_lt lt)
      have nf : s.heap.objs.size ∉ [(s.heap.push (newSet w)).objs.size, l] := fun z => by
        rw [Heap.size_push] at z
        rcases List.mem_cons.mp z with z | z
        · exact Nat.ne_of_lt (Nat.lt_succ_self _) z
        · exact Nat.ne_of_gt lt (List.mem_singleton.mp z)
      have st0 : StS P w (((s.heap.push (newSet w)).push { cls := .type "list_iterator", data := .fields #[.ref l, .int 0 0] })) s.heap.objs.size (xs.take 0) := StS.new (Heap.get?_push_of_some _ g0)
      refine sts_loop ((Walks.list h3 _ l ne items).toS) s.heap.objs.size nf xs hz.symm (by omega) hv (items.size) 0 _ (by omega) ⟨⟨_, Heap.get?_push_size _ rfl, rfl, rfl⟩, (k5.push _)⟩ st0 fun s2 hm T => ?_
      obtain ⟨h', g', d', tk', os'⟩ := s2
      have e1 : g' = s.gens := hm.gens
      have e2 : d' = s.drawn := hm.drawn
      have e3 : os' = s.os := hm.os
      subst e1 e2 e3
      show wpAny _ _ _ _ _ _; refine wpAny_pure ?_; show wpAny _ _ (ret Value.none) _ _ _
      refine wpAny_pure ⟨rfl, h', tk', rfl, T, fun b o hb => ?_⟩
      have lb := Heap.lt_size hb
      refine hm.heap b o (fun z => ?_) (Heap.get?_push_of_some _ (Heap.get?_push_of_some _ hb))
      rcases List.mem_cons.mp z with z | z
      · exact Nat.ne_of_lt lb z
      · have z' := List.mem_singleton.mp z
        rw [Heap.size_push] at z'
        exact absurd lb (by rw [z']; exact Nat.not_lt_of_le (Nat.le_succ _))
    · rcases r2 with fl2 | e2
      rotate_left
      · rcases e2 with ob | _ | _ | _ <;> first | exact hr2.elim | skip
        obtain ⟨rfl, h', tk, rfl, T, kp⟩ := hr2
        repeat (any_goals (first | assumption | wp_step))
        exact h _ _ T kp
      · exact hr2
  · exact hr
/-- sorted(set), of texts -/
theorem sts_sorted {a : Addr} {Q : Value → Shared → Prop} (T : StS P w s.heap a xs) (hh : A.handled = none) (few : xs.length < 64)
    (h : ∀ s' p (out : List Value) (c : Nat) (ys : List Str), (∀ b o, s.heap.get? b = some o → s'.heap.get? b = some o) → s'.gens = s.gens ∧ s'.os = s.os → s.heap.objs.size ≤ p → s'.heap.get? p = some (seqObj "list" out.toArray c) → StrsAre out ys → ys.length < 64 →
      sortedS ys = true → ys.Nodup → (∀ k, k ∈ ys ↔ k ∈ xs) → Q (.ref p) s') : wpAny (model P w) A (PySem.call (.builtin "sorted") [.ref a]) Q E s := by
  obtain ⟨o, es, ep, t, ⟨h1, h2, h3⟩, ⟨m1, m2, m3⟩, ⟨b1, b2, b3⟩, r, l⟩ := T.ex
  refine Calls.call_function_entry kind_sorted plain_sorted entry_sorted (args_sorted1 _) ?_; unfold Builtin.«sorted»
  refine wpAny_bind (m := checkCount "sorted" 1 1 _) (wpAny_pure (wpAny_bind (collect_set (A := A.in1) hh ⟨o, h1, h2.1, h3⟩ b2 b1 r l fun s1 vs k1 hz g1 o1 pm => ?_)))
  have vl : vs.length ≤ xs.length := by rw [pm.length_eq, List.length_map, Array.length_toList]; exact b3
  have of : ∀ l : List Value, (∀ v ∈ l, ∃ k tk, v = Value.str k tk) → ∃ zs, StrsAre l zs ∧ ∀ g : Value → Str, (∀ k tk, g (.str k tk) = k) → zs = l.map g := by
    intro l
    induction l with
    | nil => intro _; exact ⟨[], .nil, fun _ _ => rfl⟩
    | cons v l ih =>
      intro hv
      obtain ⟨k, tk, rfl⟩ := hv v List.mem_cons_self
      obtain ⟨zs, e1, e2⟩ := ih fun u hu => hv u (List.mem_cons_of_mem _ hu)
      exact ⟨k :: zs, .cons k tk e1, fun g hg => by rw [List.map_cons, hg, ← e2 g hg]⟩
  obtain ⟨zs, hS, hzs⟩ := of vs fun v hv => by
    obtain ⟨e, he, q⟩ := List.mem_map.mp (pm.mem_iff.mp hv)
    obtain ⟨k, tk, h4, _⟩ := m1 e he
    exact ⟨k, tk, by rw [← q]; exact h4⟩
  have pz : zs.Perm (es.toList.map txE) := by
    have q := pm.map fun v : Value => txE (0, v)
    rw [List.map_map] at q
    rw [hzs (fun v => txE (0, v)) fun k tk => rfl]
    exact q
  have zl : zs.length < 64 := by rw [pz.length_eq, List.length_map, Array.length_toList]; omega
  have v64 : vs.length < 64 := by omega
  refine wpAny_bind (wpAny_newList ?_ (by rw [sizeLine_eq]; omega))
  have hoL : (s1.heap.push (seqObj "list" vs.toArray 0)).get? s1.heap.objs.size = some (seqObj "list" vs.toArray 0) := Heap.get?_push_size _ rfl
  refine wpAny_bind (wpAny_holding (wpAny_call_entry PyProof.Rows.slot_list_sort ⟨_, hoL, rfl⟩ PyProof.Rows.entry_list_sort (list_sort_treeK strKind_oneLt hoL hS.keysOf (fun v₁ v₂ rest e => keyKind_strs (by rw [← e]; exact hS)) v64 fun st' hp hs => ?_) (PyProof.Rows.args_list_sort _)))
  obtain ⟨ys, g2, g3, g4⟩ := sorted_out_str hS hp hs
  obtain ⟨cnt, hc⟩ := PyProof.Rows.sortedHeap_at (vs := vs) (out := (arrOf st').map (·.2)) hoL
  have py : ys.Perm (es.toList.map txE) := g3.trans pz
  refine ⟨_, rfl, wpAny_pure ⟨_, rfl, h _ s1.heap.objs.size ((arrOf st').map (·.2)).toList cnt ys (fun b u e => ?_) ⟨g1, o1⟩ hz (by rw [Array.toArray_toList]; exact hc) g2 (by rw [g3.length_eq]; exact zl) g4 (py.nodup_iff.mpr m2) fun k => (py.mem_iff).trans (m3 k)⟩⟩
  have q := k1 b u e
  have lt := Heap.lt_size q
  show (sortedHeap (s1.heap.push (seqObj "list" vs.toArray 0)) s1.heap.objs.size vs ((arrOf st').map (·.2))).get? b = some u
  rw [PyProof.Rows.sortedHeap_old (Nat.ne_of_lt lt) (by rw [size_push']; exact Nat.lt_succ_of_lt lt)]
  exact Heap.get?_push_of_some _ q
end
/-! ### sorted(set(xs)) -/
theorem stsAt : ∀ {us : List Value} {ks : List Str}, StrsAre us ks → ∀ (i : Nat) (v : Value), us[i]? = some v → ∃ x t, ks[i]? = some x ∧ v = Value.str x t
  | _, _, .nil, i, v, h => by simp at h
  | _, _, .cons n t hr, 0, v, h => by
    simp only [List.getElem?_cons_zero, Option.some.injEq] at h
    exact ⟨n, t, rfl, h.symm⟩
  | _, _, .cons n t hr, i + 1, v, h => by
    obtain ⟨x, t', e1, e2⟩ := stsAt hr i v (by simpa using h)
    exact ⟨x, t', by simpa using e1, e2⟩
end Q

/-! sorted(set(xs)), xs a list of pairs of whole numbers; sum of a tuple; sorted(d) -/
namespace Q
open PySem PySem.Spec PyProof.Rows L2
/-! ### sorted(set(xs)), pairs -/
section
variable {P : Program} {w : World} {A : Around} {E : Value → Shared → Prop} {s : Shared}
def prOf : List Int → Int × Int
  | [x, y] => (x, y)
  | _ => (0, 0)
def kOfL (L : List (Addr × List Int)) : Value → Int × Int
  | .ref a => prOf (((L.find? fun p => p.1 == a).map (·.2)).getD [])
  | _ => (0, 0)
theorem kOfL_at {h : Heap} {L : List (Addr × List Int)} (R : ∀ p ∈ L, IsT P w h p.2 p.1) {p : Addr × List Int} (hp : p ∈ L) : kOfL L (.ref p.1) = prOf p.2 := by
  show prOf (((L.find? fun q => q.1 == p.1).map (·.2)).getD []) = prOf p.2
  cases q : L.find? fun q => q.1 == p.1 with
  | none =>
    have := List.find?_eq_none.mp q p hp
    simp at this
  | some r =>
    have h1 := List.mem_of_find?_eq_some q
    have h2 : r.1 = p.1 := by simpa using List.find?_some q
    have a1 := R r h1
    have a2 := R p hp
    rw [h2] at a1
    simp only [Option.map_some, Option.getD_some]
    rw [a1.inj a2]
theorem sorted_setP {a : Addr} {L : List (Addr × List Int)} {es : Array (Int × Value)} {ep : Nat} {t : SetTable} {Q : Value → Shared → Prop} (R : SetTR P w s.heap a L es ep t) (hh : A.handled = none) (h2 : ∀ p ∈ L, p.2.length = 2)
    (hQ : ∀ (s' : Shared) (p : Addr) (out : List Value) (c : Nat), (∀ b o, s.heap.get? b = some o → s'.heap.get? b = some o) → s'.gens = s.gens → s'.os = s.os → s.heap.objs.size ≤ p →
      s'.heap.get? p = some (seqObj "list" out.toArray c) → out.Perm (L.map fun q => Value.ref q.1) → SrtO.Srtd (fun v u => SrtO.lexB (kOfL L v) (kOfL L u)) out → Q (.ref p) s') :
    wpAny (model P w) A (PySem.call (.builtin "sorted") [.ref a]) Q E s := by
  obtain ⟨o, ho, hex, hd⟩ := R.ob
  have hsz := R.size
  have hfew := R.few
  refine Calls.call_function_entry PyProof.Rows.kind_sorted PyProof.Rows.plain_sorted PyProof.Rows.entry_sorted (PyProof.Rows.args_sorted1 _) ?_
  unfold Builtin.«sorted»
  refine wpAny_bind (m := checkCount "sorted" 1 1 _) (wpAny_pure ?_)
  refine wpAny_bind (collect_set (A := A.in1) hh ⟨o, ho, hex.1, hd⟩ R.fits (by unfold scanBound; omega) R.tab.ris R.led fun s1 vs k1 hz g1 o1 pm => ?_)
  have hes : es.toList.map (·.2) = L.map fun q => Value.ref q.1 := by
    rw [R.rows]
    unfold rowsOf
    rw [List.map_map] <;> rfl
  rw [hes] at pm
  have vl : vs.length = L.length := by rw [pm.length_eq, List.length_map]
  refine wpAny_bind (wpAny_newList ?_ (by rw [sizeLine_eq]; omega))
  have hoL : (s1.heap.push (seqObj "list" vs.toArray 0)).get? s1.heap.objs.size = some (seqObj "list" vs.toArray 0) := Heap.get?_push_size _ rfl
  have hp : ∀ v ∈ vs, Srt.IsPair (s1.heap.push (seqObj "list" vs.toArray 0)) v (kOfL L v).1 (kOfL L v).2 := fun v hv => by
    obtain ⟨q, hq, rfl⟩ := List.mem_map.mp (pm.mem_iff.mp hv)
    rw [kOfL_at R.tup hq]
    have hl := h2 q hq
    obtain ⟨x, y, e⟩ : ∃ x y, q.2 = [x, y] := by
      match h : q.2, hl with
      | [x, y], _ => exact ⟨x, y, rfl⟩
    obtain ⟨ot, items, n, g1, g2, g3, g4⟩ := R.tup q hq
    rw [e] at g4
    have hI := ints_of_items g4
    have e2 : items.toList.length = 2 := by rw [hI.length]; rfl
    obtain ⟨a1, a2, e3⟩ : ∃ a1 a2, items.toList = [a1, a2] := by
      match h : items.toList, e2 with
      | [a1, a2], _ => exact ⟨a1, a2, rfl⟩
    rw [e3] at hI
    cases hI with
    | cons _ t1 r1 =>
      cases r1 with
      | cons _ t2 r2 =>
        refine ⟨q.1, ot, t1, t2, n, rfl, Heap.get?_push_of_some _ (k1 _ _ g1), g2, ?_⟩
        rw [g3]
        have e4 : items = #[Value.int x t1, Value.int y t2] := by
          rw [← Array.toArray_toList (xs := items), e3]
        rw [e4, e]; rfl
  refine wpAny_bind (wpAny_holding (wpAny_call_entry PyProof.Rows.slot_list_sort ⟨_, hoL, rfl⟩ PyProof.Rows.entry_list_sort
    (SrtO.list_sort_ord (SrtO.swo_lex fun u => kOfL L u) hoL (by rw [sizeLine_eq]; omega) (fun h2 => SrtO.pairs_sortableO (by omega) hp fun o e => ?_) fun out g2 g3 => ⟨_, rfl, ?_⟩) (PyProof.Rows.args_list_sort _)))
  · have e' : some o = some (seqObj "list" vs.toArray 0) := e.symm.trans hoL
    cases e'
    intro c
    exact absurd (Value.type.inj c) (by decide)
  · obtain ⟨cnt, hc⟩ := PyProof.Rows.sortedHeap_at (vs := vs) (out := out.toArray) hoL
    refine wpAny_pure ⟨_, rfl, hQ _ s1.heap.objs.size out cnt (fun b u e => ?_) g1 o1 hz hc (g3.perm.trans pm) g2⟩
    have q := k1 b u e
    have lt := Heap.lt_size q
    show (sortedHeap (s1.heap.push (seqObj "list" vs.toArray 0)) s1.heap.objs.size vs out.toArray).get? b = some u
    rw [PyProof.Rows.sortedHeap_old (Nat.ne_of_lt lt) (by rw [size_push']; exact Nat.lt_succ_of_lt lt)]
    exact Heap.get?_push_of_some _ q
end
section
variable {X : Cx}
/-- sorted(set(xs)): texts, or pairs -/
def tSSU (K : PySem.W.Frag) (ta : TE) : TE := fun σ H Q => ta σ H fun x H1 => (∃ (l : Addr) (zs : List Str), x = V.ref l ∧ SqL K H1 l (zs.map V.str) ∧ zs.length < 60 ∧
  ∀ (ys : List Str) (p : Addr), sortedS ys = true → ys.Nodup → (∀ k, k ∈ ys ↔ k ∈ zs) → H1 p = none → Q (.ref p) (upd H1 p (.lst (ys.map V.str)))) ∨
  ∃ (l : Addr) (ks : List (Addr × List Int)), x = V.ref l ∧ SqL K H1 l (ks.map fun p => V.ref p.1) ∧ (∀ p ∈ ks, SqT K H1 p.1 (p.2.map V.int) ∧ p.2.length = 2) ∧ ks.length < 60 ∧
  ∀ (L : List (Addr × List Int)) (p : Addr), (∀ q ∈ L, q ∈ ks) → (∀ k, k ∈ L.map (·.2) ↔ k ∈ ks.map (·.2)) → L.Pairwise (fun a b => plt (prOf a.2) (prOf b.2) = true) → H1 p = none → Q (.ref p) (upd H1 p (.lst (L.map fun q => V.ref q.1)))
theorem prOf_inj : ∀ {a b : List Int}, a.length = 2 → b.length = 2 → prOf a = prOf b → a = b
  | [x, y], [z, w], _, _, h => by
    simp only [prOf, Prod.mk.injEq] at h
    rw [h.1, h.2]
theorem pe_ssetU {a : Expr} {ta : TE} {p p2 q pos : Pos} (hc : X.calm = true) (hu : X.A.units + 64 < cLine) (hg : Gl X "sorted") (hm : X.mg "sorted" = none) (hg2 : Gl X "set") (hm2 : X.mg "set" = none) (ha : PE X a ta) (na : noStar a = true) :
    PE X (.Call (.Name "sorted" p) [.Call (.Name "set" p2) [a] [] q] [] pos) (tSSU X.K ta) := by
  have st : starEach [a] X.env = (false, eval a X.env) :: starEach [] X.env := star_cons na
  refine ⟨fun pins s σ H Q I h => Call_ (ld_blt I hg hm PyProof.Rows.boot_sorted ?_)⟩
  refine PyProof.Rows.callWith_builtin1 (PyProof.Rows.args_cons (Call_ (ld_blt I hg2 hm2 PyProof.Rows.boot_set ?_)) rfl) rfl rfl
  refine PyProof.Rows.callWith_type1 (PyProof.Rows.args_cons (thn (ha.run pins s σ H _ I h) fun v s1 ⟨x, H1, I1, r1, q1⟩ => PyProof.Rows.args_nil ?_) st) st rfl
  rcases q1 with q1 | q1
  · obtain ⟨l, zs, rfl, hq, few, q1⟩ := q1
    cases r1
    obtain ⟨its, rv, pl, hz⟩ := I1.list hq
    have hS := rv.strs
    have lz : its.length = zs.length := by have := rv.length; simpa using this.symm
    refine sts_call (xs := zs) (I1.ok.hd hc) pl.isList (fun i v hv => ?_) (by simpa using lz) (by unfold scanBound; omega) fun h' tk T hk => PyProof.Rows.args_nil ?_
    · have hv' : its[i]? = some v := by simpa using hv
      exact stsAt hS i v hv'
    have I2 : Inv X pins σ H1 { s1 with heap := h', toks := tk } := I1.kept fun b o e => hk b o e
    refine sts_sorted (P := X.prog) (w := X.w) (s := { s1 with heap := h', toks := tk }) T (I2.ok.hd hc) (by omega) fun s' pp out c ys k gs hp ho hs h64 so nd mem => ?_
    have hn : H1 pp = none := I2.hok.fresh hp
    have hlen : (ys.map V.str).length ≤ sizeLine := by rw [List.length_map, sizeLine_eq]; omega
    have J : Inv X pins σ (upd H1 pp (.lst (ys.map V.str))) s' := I2.call' (ch := []) gs.2 (Un.laid k hp hn) (I2.hok.laid k hp ⟨hlen, out, c, vals_of_strs hs, ho⟩) (by rw [gs.1]; exact I2.bare) (fun _ z => nomatch z)
    exact ⟨.ref pp, _, J, rfl, q1 ys pp so nd mem hn⟩
  · obtain ⟨l, ks, rfl, hq, hk, few, q1⟩ := q1
    cases r1
    obtain ⟨its, rv, pl, hz⟩ := I1.list hq
    refine call_set_tups (P := X.prog) (w := X.w) ks (I1.ok.hd hc) pl.isList (by simpa using refs_of_vals rv) (fun p hp => I1.isT (hk p hp).1) (by omega) (by omega) fun h' tk L es ep t R g k => PyProof.Rows.args_nil ?_
    have sub : ∀ q ∈ L, q ∈ ks := fun q hq => List.mem_of_mem_take (g.sub q hq)
    have I2 : Inv X pins σ H1 { s1 with heap := h', toks := tk } := I1.kept fun b o e => k b o e
    refine sorted_setP (P := X.prog) (w := X.w) (s := { s1 with heap := h', toks := tk }) R (I2.ok.hd hc) (fun q hq => (hk q (sub q hq)).2) fun s' pp out c kk g1 o1 hp hob pm so => ?_
    have hn : H1 pp = none := I2.hok.fresh hp
    obtain ⟨L', e2, e1⟩ := perm_lift (fun q : Addr × List Int => Value.ref q.1) pm L rfl
    have hlen : (L'.map fun q => V.ref q.1).length ≤ sizeLine := by rw [List.length_map, e2.length_eq, sizeLine_eq]; have := R.few; omega
    have hv : Vals (L'.map fun q => V.ref q.1) out := by rw [← e1]; exact vals_of_refs L'
    have J : Inv X pins σ (upd H1 pp (.lst (L'.map fun q => V.ref q.1))) s' := I2.call' (ch := []) o1 (Un.laid kk hp hn) (I2.hok.laid kk hp ⟨hlen, out, c, hv, hob⟩) (by rw [g1]; exact I2.bare) (fun _ z => nomatch z)
    refine ⟨.ref pp, _, J, rfl, q1 L' pp (fun q hq => sub q (e2.mem_iff.mp hq)) (fun z => ?_) ?_ hn⟩
    · constructor
      · intro hz
        obtain ⟨q, hq, e⟩ := List.mem_map.mp hz
        exact List.mem_map.mpr ⟨q, sub q (e2.mem_iff.mp hq), e⟩
      · intro hz
        obtain ⟨q, hq, e⟩ := List.mem_map.mp hz
        subst e
        obtain ⟨q', hq', e'⟩ := List.mem_map.mp (g.all q (by rw [List.take_length]; exact hq))
        exact List.mem_map.mpr ⟨q', e2.mem_iff.mpr hq', e'⟩
    · have nd : (L'.map (·.2)).Nodup := (e2.map (·.2)).nodup_iff.mpr R.nd
      have so2 : L'.Pairwise (fun a b => SrtO.lexB (kOfL L (.ref b.1)) (kOfL L (.ref a.1)) = false) := by
        have := so
        rw [← e1] at this
        exact List.pairwise_map.mp this
      have nd2 : L'.Pairwise (fun a b => a.2 ≠ b.2) := List.pairwise_map.mp nd
      refine (List.Pairwise.imp_of_mem (fun {a b} ha hb h => ?_) (List.pairwise_and_iff.mpr ⟨so2, nd2⟩))
      have ha' := e2.mem_iff.mp ha
      have hb' := e2.mem_iff.mp hb
      have h1 := h.1
      rw [kOfL_at R.tup ha', kOfL_at R.tup hb', SrtO.lexB_no] at h1
      rw [plt_iff]
      have ne : prOf a.2 ≠ prOf b.2 := fun z => h.2 (prOf_inj (hk a (sub a ha')).2 (hk b (sub b hb')).2 z)
      have ne2 : ¬ ((prOf a.2).1 = (prOf b.2).1 ∧ (prOf a.2).2 = (prOf b.2).2) := fun z => ne (Prod.ext z.1 z.2)
      omega
end
end Q

/-! expressions, one form after another -/
namespace Q
open PySem PySem.Spec PyProof.Rows L2

section
variable {L : Wl} {k : Nat}
theorem un_b {X : Cx} {c : Ck} (h : XOk L k c X) : X.A.units + 152 < cLine := by have := h.un; omega
theorem pe_bi {X : Cx} {c : Ck} (h : XOk L k c X) (hc : X.calm = true) {e : Expr} {es : List Expr} {t : TA} {p pos : Pos} (ha : PA X (e :: es) t) (hs : noStar e = true) (hss : es.all noStar = true) :
    ∀ f : Bi, f.ok = true → Gl X (Str.ofString f.val.1) → PE X (.Call (.Name (Str.ofString f.val.1) p) (e :: es) [] pos) (tCB (RBi X.K f) t)
  | .len, _, g => pe_callB (call_bi hc (un_b h) .len) g (h.blt "len" (by decide)) (by decide +kernel) ha (by decide +kernel) (by decide +kernel) (star_cons hs) (star_none hss)
  | .abs, _, g => pe_callB (call_bi hc (un_b h) .abs) g (h.blt "abs" (by decide)) (by decide +kernel) ha (by decide +kernel) (by decide +kernel) (star_cons hs) (star_none hss)
  | .min, _, g => pe_callB (call_bi hc (un_b h) .min) g (h.blt "min" (by decide)) (by decide +kernel) ha (by decide +kernel) (by decide +kernel) (star_cons hs) (star_none hss)
  | .max, _, g => pe_callB (call_bi hc (un_b h) .max) g (h.blt "max" (by decide)) (by decide +kernel) ha (by decide +kernel) (by decide +kernel) (star_cons hs) (star_none hss)
  | .int, _, g => pe_callTy (call_bi hc (un_b h) .int) g (h.blt "int" (by decide)) (by decide +kernel) ha (by decide +kernel) (by decide +kernel) (star_cons hs) (star_none hss)
  | .str, _, g => pe_callTy (call_bi hc (un_b h) .str) g (h.blt "str" (by decide)) (by decide +kernel) ha (by decide +kernel) (by decide +kernel) (star_cons hs) (star_none hss)
  | .tuple, _, g => pe_callTy (call_bi hc (un_b h) .tuple) g (h.blt "tuple" (by decide)) (by decide +kernel) ha (by decide +kernel) (by decide +kernel) (star_cons hs) (star_none hss)
  | .list, _, g => pe_callTy (call_bi hc (un_b h) .list) g (h.blt "list" (by decide)) (by decide +kernel) ha (by decide +kernel) (by decide +kernel) (star_cons hs) (star_none hss)
  | .sum, _, g => pe_callB (call_bi hc (un_b h) .sum) g (h.blt "sum" (by decide)) (by decide +kernel) ha (by decide +kernel) (by decide +kernel) (star_cons hs) (star_none hss)
  | .any, _, g => pe_callB (call_bi hc (un_b h) .any) g (h.blt "any" (by decide)) (by decide +kernel) ha (by decide +kernel) (by decide +kernel) (star_cons hs) (star_none hss)
  | .all, _, g => pe_callB (call_bi hc (un_b h) .all) g (h.blt "all" (by decide)) (by decide +kernel) ha (by decide +kernel) (by decide +kernel) (star_cons hs) (star_none hss)
  | .sortedset, q, _ => nomatch q
  | .sorted, _, g => pe_callB (call_bi hc (un_b h) .sorted) g (h.blt "sorted" (by decide)) (by decide +kernel) ha (by decide +kernel) (by decide +kernel) (star_cons hs) (star_none hss)
  | .lenset, q, _ => nomatch q
theorem post_E {Y : WX} {σ : L2.St} {W : Wd} {r : List Addr} {H : Hp} {res : R D} {Q : VK} (p : Post (Rv W) W Y σ r H res Q) : Post (Rv W) W (fun c d _ H => WE Y σ c d H) [] r H res Q := by
  cases res <;> exact p
theorem se_v (i : Nat) : SE L k (.v i) := by
  intro c X Y E h tk g
  simp only [chkE] at g
  split at g
  · rename_i x hx
    obtain ⟨p, rfl⟩ := asName_of hx
    rw [Bool.and_eq_true] at g
    obtain ⟨v1, v2, v3⟩ := visB_ok h g.2
    have e : PE X (.Name x p) (rdE (wdo X L) Y (evE (clOf L k) (.v i))) := by
      refine pe_weak (pe_var (atB_ok h g.1) v1 v2 v3) fun σ H Q w => ?_
      obtain ⟨r, hs, s, m, en, p⟩ := w
      simp only [evE, getV] at p
      split at p
      · rename_i d hd
        obtain ⟨v, h1, h2⟩ := en.2 i d hd
        exact ⟨v, h1, pd_ok p m h2⟩
      · exact False.elim p
    exact ⟨e, pt_of rfl rfl e⟩
  · cases g
theorem se_k (d : D) : SE L k (.k d) := by
  intro c X Y E h tk g
  simp only [chkE] at g
  split at g
  · rename_i q hq
    obtain ⟨j, p, rfl⟩ := asConst_of hq
    have gen : ∀ {v : V}, PE X (.Constant q j p) (tC v) → (∀ r H, Rv (wdo X L) r H d v) → PE X (.Constant q j p) (rdE (wdo X L) Y (evE (clOf L k) (.k d))) ∧ PT X (.Constant q j p) (rdT (wdo X L) Y (evT (clOf L k) (.k d))) := by
      intro v h1 h2
      have e : PE X (.Constant q j p) (rdE (wdo X L) Y (evE (clOf L k) (.k d))) := pe_weak h1 fun σ H Q w => by
        obtain ⟨r, hs, s, m, en, p⟩ := w
        simp only [evE] at p
        exact pd_ok p m (h2 _ _)
      exact ⟨e, pt_of rfl rfl e⟩
    cases d <;> cases q <;> first | (cases g; done) | skip
    case non.none => exact gen pe_non fun _ _ => .non
    case bl.bool a b =>
      simp only [cstB, beq_iff_eq] at g
      subst g
      exact gen pe_bl fun _ _ => .bl a
    case int.int a b =>
      simp only [cstB, beq_iff_eq] at g
      subst g
      exact gen pe_int fun _ _ => .int a
    case str.str a b =>
      simp only [cstB, Bool.and_eq_true, beq_iff_eq] at g
      obtain ⟨g1, g2⟩ := g
      subst g1
      exact gen pe_str fun _ _ => .str a g2
  · cases g
theorem se_g (y : String) : SE L k (.g y) := by
  intro c X Y E h tk g
  simp only [chkE] at g
  split at g
  · rename_i x hx
    obtain ⟨p, rfl⟩ := asName_of hx
    rw [Bool.and_eq_true] at g
    obtain ⟨g1, g2⟩ := glB_ok h g.1
    obtain ⟨d, v, u, h1, h2, h3, h4⟩ := h.con x y (beq_iff_eq.mp g.2)
    have e : PE X (.Name x p) (rdE (wdo X L) Y (evE (clOf L k) (.g y))) := pe_weak (C8.pe_gc g1 ⟨u, h2, h3⟩ g2) fun σ H Q w => by
      obtain ⟨r, hs, s, m, en, p⟩ := w
      simp only [evE, clOf, h1, opt] at p
      exact pd_ok p m (h4 _ _)
    exact ⟨e, pt_of rfl rfl e⟩
  · cases g
theorem se_tup {es : Exs} (ih : SEs L k es) : SE L k (.tup es) := by
  intro c X Y E h tk g
  simp only [chkE] at g
  split at g
  · rename_i l hl
    obtain ⟨j, p, rfl⟩ := asTup_of hl
    rw [Bool.and_eq_true, decide_eq_true_eq] at g
    have e : PE X (.Tuple l j p) (rdE (wdo X L) Y (evE (clOf L k) (.tup es))) := pe_weak (pe_tup (ih c X Y l h tk g.1).1) fun σ H Q w => by
      obtain ⟨r, hs, s, m, en, p⟩ := w
      simp only [evE] at p
      refine rd_bind m en p fun ds r1 H1 hs1 vs x m1 e1 rv q p1 => ⟨?_, pd_tup p1 m1 rv⟩
      rw [rv.length, evs_len q, (chkEs_len g.1).1, sl_eq]
      exact Nat.le_trans g.2 (by decide)
    exact ⟨e, pt_of rfl rfl e⟩
  · cases g
theorem se_lst {es : Exs} (ih : SEs L k es) : SE L k (.lst es) := by
  intro c X Y E h tk g
  simp only [chkE] at g
  split at g
  · rename_i l hl
    obtain ⟨p, rfl⟩ := asLst_of hl
    rw [Bool.and_eq_true, decide_eq_true_eq] at g
    have e : PE X (.List l p) (rdE (wdo X L) Y (evE (clOf L k) (.lst es))) := pe_weak (pe_lst (ih c X Y l h tk g.1).1) fun σ H Q w => by
      obtain ⟨r, hs, s, m, en, p⟩ := w
      simp only [evE] at p
      refine rd_bind m en p fun ds r1 H1 hs1 vs x m1 e1 rv q p1 => ⟨?_, pd_lst p1 m1 rv⟩
      rw [rv.length, evs_len q, (chkEs_len g.1).1, sl_eq]
      exact Nat.le_trans g.2 (by decide)
    exact ⟨e, pt_of rfl rfl e⟩
  · cases g
theorem se_dic (t : Bool) {es : Exs} (ih : AllE (SE L k) es) : SE L k (.dic t es) := by
  intro c X Y E h tk g
  simp only [chkE] at g
  split at g
  · rename_i q hq
    obtain ⟨p, rfl⟩ := asDict_of hq
    obtain ⟨ks, vs⟩ := q
    rw [Bool.or_eq_true] at g
    rcases g with g | g
    · simp only [Bool.and_eq_true, List.isEmpty_iff] at g
      obtain ⟨g2, g3, g4⟩ := g
      subst g3 g4
      cases es with
      | cons _ _ => cases g2
      | nil =>
       cases t with
       | true =>
        have e : PE X (.Dict [] [] p) (rdE (wdo X L) Y (evE (clOf L k) (.dic true .nil))) := pe_weak pe_dnewT fun σ H Q w => by
          obtain ⟨r, hs, s, m, en, p⟩ := w
          simp only [evE, evs, R.bind, mkDic, newDic, putAll, List.map_nil, List.all_nil, if_true] at p
          exact pd_list_dicT m p
        exact ⟨e, pt_of rfl rfl e⟩
       | false =>
        have e : PE X (.Dict [] [] p) (rdE (wdo X L) Y (evE (clOf L k) (.dic false .nil))) := pe_weak pe_dnewK fun σ H Q w => by
          obtain ⟨r, hs, s, m, en, p⟩ := w
          simp only [evE, evs, R.bind, mkDic, newDic, putAll, List.map_nil, List.all_nil, if_true] at p
          exact pd_list_dic m p
        exact ⟨e, pt_of rfl rfl e⟩
    · simp only [Bool.and_eq_true, Bool.not_eq_true'] at g
      obtain ⟨g1, g2, g3⟩ := g
      subst g1
      unfold dispB at g2
      simp only [Bool.and_eq_true, decide_eq_true_eq, Bool.not_eq_true'] at g2
      obtain ⟨⟨a1, a2⟩, a3, a4⟩ := g2
      obtain ⟨pp, el⟩ := pps_ok (pos := p) h tk ih a1 a2 g3
      have e : PE X (.Dict ks vs p) (rdE (wdo X L) Y (evE (clOf L k) (.dic false es))) := pe_weak (pe_disp pp a1 a2 (by intro z; subst z; simp at a3) a4) fun σ H Q w => disp_ok el a4 _ σ H Q w
      exact ⟨e, pt_of rfl rfl e⟩
  · cases g
theorem se_bin (o : Bop) {a b : Ex} (ha : SE L k a) (hb : SE L k b) : SE L k (.bin o a b) := by
  intro c X Y E h tk g
  simp only [chkE] at g
  split at g
  · rename_i q hq
    obtain ⟨p, rfl⟩ := asBin_of hq
    obtain ⟨oq, x, y⟩ := q
    simp only [Bool.and_eq_true, decide_eq_true_eq] at g
    obtain ⟨g1, g2, g3⟩ := g
    subst g1
    have e : PE X (.BinOp x o.op y p) (rdE (wdo X L) Y (evE (clOf L k) (.bin o a b))) := pe_weak (pe_op (op_bin o) (ha c X Y x h tk g2).1 (hb c X Y y h tk g3).1) fun σ H Q w => by
      obtain ⟨r, hs, s, m, en, p⟩ := w
      simp only [evE] at p
      refine rd_bind m en p fun d r1 H1 hs1 v x1 m1 e1 rv _ p1 => ?_
      refine rd_bind m1 e1 p1 fun d2 r2 H2 hs2 u x2 m2 e2 rv2 _ p2 => ?_
      exact q_bin m2 (rv.mono x2) rv2 o p2
    exact ⟨e, pt_of rfl rfl e⟩
  · cases g
theorem se_neg {a : Ex} (ha : SE L k a) : SE L k (.neg a) := by
  intro c X Y E h tk g
  simp only [chkE] at g
  split at g
  · rename_i x hx
    obtain ⟨p, rfl⟩ := asNeg_of hx
    have e : PE X (.UnaryOp .USub x p) (rdE (wdo X L) Y (evE (clOf L k) (.neg a))) := pe_weak (pe_un un_neg (ha c X Y x h tk g).1) fun σ H Q w => by
      obtain ⟨r, hs, s, m, en, p⟩ := w
      simp only [evE] at p
      refine rd_bind m en p fun d r1 H1 hs1 v x1 m1 e1 rv _ p1 => ?_
      cases d <;> first | exact False.elim p1 | skip
      cases rv
      exact ⟨_, rfl, pd_ok p1 m1 (.int _)⟩
    exact ⟨e, pt_of rfl rfl e⟩
  · cases g
theorem se_cmp (o : Cop) {a b : Ex} (ha : SE L k a) (hb : SE L k b) : SE L k (.cmp o a b) := by
  intro c X Y E h tk g
  simp only [chkE] at g
  split at g
  · rename_i q hq
    obtain ⟨p, rfl⟩ := asCmp1_of hq
    obtain ⟨oq, x, y⟩ := q
    simp only [Bool.and_eq_true, decide_eq_true_eq] at g
    obtain ⟨g1, g0, g2, g3⟩ := g
    subst g1
    have hu : X.A.units + 152 < cLine := by have := h.un; omega
    have h1 := (ha c X Y x h tk g2).1
    have h2 := (hb c X Y y h tk g3).1
    refine ⟨pe_weak (pe_cmpR (op_cmp hu o) h1 h2 (marks_ok g0)) fun σ H Q w => ?_, pt_weak (pt_cmpR (op_cmp hu o) h1 h2 (marks_ok g0)) fun σ H Q w => ?_⟩
    · obtain ⟨r, hs, s, m, en, p⟩ := w
      simp only [evE] at p
      refine rd_bind m en p fun d r1 H1 hs1 v x1 m1 e1 rv _ p1 => ?_
      refine rd_bind m1 e1 p1 fun d2 r2 H2 hs2 u x2 m2 e2 rv2 _ p2 => ?_
      exact q_cmp m2 (rv.mono x2) rv2 o p2
    · obtain ⟨r, hs, s, m, en, p⟩ := w
      simp only [evT, evE, bind_assoc] at p
      refine rd_bind m en p fun d r1 H1 hs1 v x1 m1 e1 rv _ p1 => ?_
      refine rd_bind m1 e1 p1 fun d2 r2 H2 hs2 u x2 m2 e2 rv2 _ p2 => ?_
      exact q_cmp m2 (rv.mono x2) rv2 o (pd_bl (fun d h e => cop_bl o _ _ _ d h e) p2)
  · cases g
theorem opt_nx {α : Type} (o : Option α) (f : α → D) (h : Hs) (c : Cn) (fs : List D) (h3 : Hs) : opt o f h ≠ .exc c fs h3 := by
  cases o <;> exact fun z => nomatch z
theorem cop_nx (o : Cop) (a b : D) (h : Hs) (c : Cn) (fs : List D) (h3 : Hs) : o.run a b h ≠ .exc c fs h3 := by
  cases o <;> simp only [Cop.run]
  case eq => exact opt_nx _ _ _ _ _ _
  case ne => exact opt_nx _ _ _ _ _ _
  case isin => exact opt_nx _ _ _ _ _ _
  case notin => exact opt_nx _ _ _ _ _ _
  case eqx => exact opt_nx _ _ _ _ _ _
  case nex => exact opt_nx _ _ _ _ _ _
  all_goals (cases a <;> cases b <;> exact fun z => nomatch z)
/-- the first comparison of a chain -/
theorem q_chn {W : Wd} {Y : WX} {σ : L2.St} {r : List Addr} {H : Hp} {hs : Hs} {α β : Type} {rel : List Addr → Hp → α → β → Prop} {Q : β → Hp → Prop} {d e : D} {v u : V} {o : Cop} {f : D → Hs → R α} {P : VK} (m : Mt W r H hs) (x : Rv W r H d v) (y : Rv W r H e u)
    (p : Post rel W Y σ r H ((o.run d e hs).bind f) Q) (k : ∀ b r3 H3 h3, Ext r H r3 H3 → Mt W r3 H3 h3 → Post rel W Y σ r3 H3 (f (.bl b) h3) Q → P (.bl b) H3) (kx : ∀ c fs h3, o.run d e hs ≠ .exc c fs h3) : RC W.K W.P W.w o v u H P := by
  refine q_cmp (σ := σ) (Y := Y) m x y o ?_
  cases hq : o.run d e hs with
  | ok w h3 =>
    obtain ⟨b, rfl⟩ := cop_bl o _ _ _ _ _ hq
    rw [hq] at p
    intro r' H' z x' m' rz
    cases rz
    exact k b r' H' h3 x' m' (Post.mono (σ := σ) p x' fun _ _ z => z)
  | exc c fs h3 => exact absurd hq (kx c fs h3)
  | bad =>
    rw [hq] at p
    exact p
theorem se_chn (o o2 : Cop) {a b d : Ex} (ha : SE L k a) (hb : SE L k b) (hd : SE L k d) : SE L k (.chn o o2 a b d) := by
  intro c X Y E h tk g
  simp only [chkE] at g
  split at g
  · rename_i q hq
    obtain ⟨p, rfl⟩ := asCmp2_of hq
    obtain ⟨oq, oq2, x, y, z⟩ := q
    simp only [Bool.and_eq_true, decide_eq_true_eq] at g
    obtain ⟨g1, g2, g0, g3, g4, g5⟩ := g
    subst g1 g2
    have hu : X.A.units + 152 < cLine := by have := h.un; omega
    have h1 := (ha c X Y x h tk g3).1
    have h2 := (hb c X Y y h tk g4).1
    have h3 := (hd c X Y z h tk g5).1
    have hm : lastMarks [o.op, o2.op] [y, z] = false := marks_ok g0
    refine ⟨pe_weak (pe_chain (op_cmp hu o) (op_cmp hu o2) h1 h2 h3 hm) fun σ H Q w => ?_, pt_weak (pt_chain (op_cmp hu o) (op_cmp hu o2) h1 h2 h3 hm) fun σ H Q w => ?_⟩
    · obtain ⟨r, hs, s, m, en, p⟩ := w
      simp only [evE] at p
      refine rd_bind m en p fun d1 r1 H1 hs1 v x1 m1 e1 rv _ p1 => ?_
      refine rd_bind m1 e1 p1 fun d2 r2 H2 hs2 u x2 m2 e2 rv2 _ p2 => ?_
      refine q_chn m2 (rv.mono x2) rv2 p2 (fun b r3 H3 h3 x3 m3 p3 => ⟨b, rfl, ?_⟩) (cop_nx o _ _ _)
      cases b with
      | false => exact pd_ok p3 m3 (.bl false)
      | true =>
        refine rd_bind m3 (e2.mono x3) p3 fun d4 r4 H4 hs4 u4 x4 m4 e4 rv4 _ p4 => ?_
        exact q_cmp m4 (rv2.mono (x3.trans x4)) rv4 o2 p4
    · obtain ⟨r, hs, s, m, en, p⟩ := w
      simp only [evT, evE, bind_assoc] at p
      refine rd_bind m en p fun d1 r1 H1 hs1 v x1 m1 e1 rv _ p1 => ?_
      refine rd_bind m1 e1 p1 fun d2 r2 H2 hs2 u x2 m2 e2 rv2 _ p2 => ?_
      refine q_chn m2 (rv.mono x2) rv2 p2 (fun b r3 H3 h3 x3 m3 p3 => ⟨b, rfl, ?_⟩) (cop_nx o _ _ _)
      cases b with
      | false => exact ⟨false, rfl, p3 r3 H3 false (Ext.refl _ _) m3 rfl⟩
      | true =>
        simp only [chnD, bind_assoc] at p3
        refine rd_bind m3 (e2.mono x3) p3 fun d4 r4 H4 hs4 u4 x4 m4 e4 rv4 _ p4 => ?_
        exact q_cmp m4 (rv2.mono (x3.trans x4)) rv4 o2 (pd_bl (fun d h e => cop_bl o2 _ _ _ d h e) p4)
  · cases g
end
end Q

/-! expressions, further forms -/
namespace Q
open PySem PySem.Spec PyProof.Rows L2

section
variable {L : Wl} {k : Nat}
theorem non_iff {W : Wd} {r : List Addr} {H : Hp} {d : D} {v : V} (x : Rv W r H d v) : decide (v = .non) = isN d := by
  cases x <;> rfl
theorem se_isn (n : Bool) {a : Ex} (ha : SE L k a) : SE L k (.isn a n) := by
  intro c X Y E h tk g
  simp only [chkE] at g
  split at g
  · rename_i q hq
    obtain ⟨p, rfl⟩ := asCmp1_of hq
    obtain ⟨oq, x, y⟩ := q
    simp only [Bool.and_eq_true, decide_eq_true_eq] at g
    obtain ⟨g1, g2, g3⟩ := g
    obtain ⟨j, p2, rfl⟩ := asConst_of g2
    subst g1
    have hx := (ha c X Y x h tk g3).1
    have w1 : ∀ (b : Bool) σ H Q, rdE (wdo X L) Y (evE (clOf L k) (.isn a b)) σ H Q → rdE (wdo X L) Y (evE (clOf L k) a) σ H fun x H1 => Q (.bl (decide (x = .non) != b)) H1 := by
      intro b σ H Q w
      obtain ⟨r, hs, s, m, en, p⟩ := w
      simp only [evE] at p
      refine rd_bind m en p fun d r1 H1 hs1 v x1 m1 e1 rv _ p1 => ?_
      rw [non_iff rv]
      exact pd_ok p1 m1 (.bl _)
    have w2 : ∀ (b : Bool) σ H (Q : Bool → Hp → Prop), rdT (wdo X L) Y (evT (clOf L k) (.isn a b)) σ H Q → rdE (wdo X L) Y (evE (clOf L k) a) σ H fun x H1 => Q (decide (x = .non) != b) H1 := by
      intro b σ H Q w
      obtain ⟨r, hs, s, m, en, p⟩ := w
      simp only [evT, evE, bind_assoc] at p
      refine rd_bind m en p fun d r1 H1 hs1 v x1 m1 e1 rv _ p1 => ?_
      rw [non_iff rv]
      exact p1 r1 H1 _ (Ext.refl _ _) m1 rfl
    cases n with
    | false =>
      refine ⟨pe_weak (pe_cmp (pc_isN hx)) fun σ H Q w => ?_, pt_weak (pt_cmp (pc_isN hx)) fun σ H Q w => ?_⟩
      · have := w1 false σ H Q w
        simpa [tIsN] using this
      · have := w2 false σ H Q w
        obtain ⟨r, hs, s, m, en, p⟩ := this
        refine ⟨r, hs, s, m, en, p.mono (Ext.refl _ _) fun v H z => ⟨_, rfl, by simpa using z⟩⟩
    | true =>
      refine ⟨pe_weak (pe_cmp (pc_notN hx)) fun σ H Q w => ?_, pt_weak (pt_cmp (pc_notN hx)) fun σ H Q w => ?_⟩
      · have := w1 true σ H Q w
        obtain ⟨r, hs, s, m, en, p⟩ := this
        refine ⟨r, hs, s, m, en, p.mono (Ext.refl _ _) fun v H z => by simpa using z⟩
      · have := w2 true σ H Q w
        obtain ⟨r, hs, s, m, en, p⟩ := this
        refine ⟨r, hs, s, m, en, p.mono (Ext.refl _ _) fun v H z => ⟨_, rfl, by simpa using z⟩⟩
  · cases g
/-- a test, then one of two -/
theorem test_then {W : Wd} {Y : WX} {σ : L2.St} {r : List Addr} {H : Hp} {hs : Hs} {s : Ev} {α β : Type} {rel : List Addr → Hp → α → β → Prop} {P : β → Hp → Prop} {f : Ev → Hs → R D} {g : D → Bool → Hs → R α} {K : Bool → Hp → Prop} (m : Mt W r H hs) (en : EnvR W r H s σ)
    (p : Post rel W Y σ r H ((f s hs).bind fun x h => match tru h x with
      | some b => g x b h
      | none => .bad) P) (kk : ∀ d b r1 H1 hs1, Ext r H r1 H1 → Mt W r1 H1 hs1 → EnvR W r1 H1 s σ → tru hs1 d = some b → Post rel W Y σ r1 H1 (g d b hs1) P → K b H1) : rdT W Y (fun s h => (f s h).bind truR) σ H K := by
  refine ⟨r, hs, s, m, en, ?_⟩
  show Post _ _ _ _ _ _ ((f s hs).bind truR) _
  cases q : f s hs with
  | ok d h1 =>
    rw [q] at p
    have p : Post rel W Y σ r H (match tru h1 d with
      | some b => g d b h1
      | none => .bad) P := p
    show Post _ _ _ _ _ _ (truR d h1) _
    unfold truR
    cases q2 : tru h1 d with
    | none => rw [q2] at p; exact False.elim p
    | some b =>
      rw [q2] at p
      intro r' H' b' x' m' e
      subst e
      exact kk d b r' H' h1 x' m' (en.mono x') q2 (p.mono x' fun _ _ z => z)
  | exc _ _ _ => rw [q] at p; exact p
  | bad => rw [q] at p; exact False.elim p
theorem iteD_eq (x : D) (f g : Hs → R D) (h : Hs) : iteD x f g h = match tru h x with
    | some b => (if b then f h else g h)
    | none => .bad := by
  unfold iteD
  cases tru h x with
  | none => rfl
  | some b => cases b <;> rfl
theorem orvD_eq (x : D) (f : Hs → R D) (h : Hs) : orvD x f h = match tru h x with
    | some b => (if b then .ok x h else f h)
    | none => .bad := by
  unfold orvD
  cases tru h x with
  | none => rfl
  | some b => cases b <;> rfl
theorem bad_match {α β : Type} (o : Option Bool) (g : Bool → R α) (f : α → Hs → R β) : (match o with
    | some b => g b
    | none => .bad).bind f = match o with
    | some b => (g b).bind f
    | none => .bad := by cases o <;> rfl
theorem opt_eq (o : Option Bool) (f : Bool → D) (h : Hs) : opt o f h = match o with
    | some b => .ok (f b) h
    | none => .bad := by cases o <;> rfl
theorem se_not {a : Ex} (ha : SE L k a) : SE L k (.not a) := by
  intro c X Y E h tk g
  simp only [chkE] at g
  split at g
  · rename_i x hx
    obtain ⟨p, rfl⟩ := asNot_of hx
    obtain ⟨h1, h2⟩ := ha c X Y x h tk g
    refine ⟨pe_weak (pe_notT h1) fun σ H Q w => ?_, pt_weak (pt_not h2) fun σ H Q w => ?_⟩
    · obtain ⟨r, hs, s, m, en, p⟩ := w
      simp only [evE] at p
      refine rd_bind m en p fun d r1 H1 hs1 v x1 m1 e1 rv _ p1 => ?_
      obtain ⟨b, hb, p1⟩ := pd_opt p1
      exact ⟨b, q_tru m1 rv hb, pd_ok p1 m1 (.bl _)⟩
    · obtain ⟨r, hs, s, m, en, p⟩ := w
      simp only [evT, evE, bind_assoc, opt_eq, bad_match] at p
      exact test_then m en p fun d b r1 H1 hs1 x1 m1 e1 _ p1 => p1 r1 H1 _ (Ext.refl _ _) m1 rfl
  · cases g
theorem se_and {es : Exs} (ih : SEs L k es) : SE L k (.and es) := by
  intro c X Y E h tk g
  simp only [chkE] at g
  split at g
  · rename_i l hl
    obtain ⟨p, rfl⟩ := asAnd_of hl
    simp only [Bool.and_eq_true, Bool.not_eq_true'] at g
    have ne : l ≠ [] := fun z => by rw [z] at g; cases g.2
    obtain ⟨⟨h1, h2⟩, _⟩ := (ih c X Y l h tk g.1).2 ne p
    exact ⟨pe_weak h1 fun σ H Q w => w, pt_weak h2.pt fun σ H Q w => w⟩
  · cases g
theorem se_or {es : Exs} (ih : SEs L k es) : SE L k (.or es) := by
  intro c X Y E h tk g
  simp only [chkE] at g
  split at g
  · rename_i l hl
    obtain ⟨p, rfl⟩ := asOr_of hl
    simp only [Bool.and_eq_true, Bool.not_eq_true'] at g
    have ne : l ≠ [] := fun z => by rw [z] at g; cases g.2
    obtain ⟨_, h1, h2⟩ := (ih c X Y l h tk g.1).2 ne p
    exact ⟨pe_weak h1 fun σ H Q w => w, pt_weak h2.pt fun σ H Q w => w⟩
  · cases g
theorem se_ite {q a b : Ex} (hq : SE L k q) (ha : SE L k a) (hb : SE L k b) : SE L k (.ite q a b) := by
  intro c X Y E h tk g
  simp only [chkE] at g
  split at g
  · rename_i r hr
    obtain ⟨p, rfl⟩ := asIf_of hr
    obtain ⟨x, y, z⟩ := r
    simp only [Bool.and_eq_true] at g
    obtain ⟨g1, g2, g3⟩ := g
    have h1 := hq c X Y x h tk g1
    have h2 := ha c X Y y h tk g2
    have h3 := hb c X Y z h tk g3
    refine ⟨pe_weak (pe_ifExp h1.2 h2.1 h3.1) fun σ H Q w => ?_, pt_weak (pt_if h1.2 h2.2 h3.2) fun σ H Q w => ?_⟩
    · obtain ⟨r, hs, s, m, en, p⟩ := w
      simp only [evE, iteD_eq] at p
      refine test_then m en p fun d b r1 H1 hs1 x1 m1 e1 _ p1 => ?_
      cases b with
      | true => exact ⟨r1, hs1, s, m1, e1, p1⟩
      | false => exact ⟨r1, hs1, s, m1, e1, p1⟩
    · obtain ⟨r, hs, s, m, en, p⟩ := w
      simp only [evT, evE, iteD_eq, bind_assoc, bad_match] at p
      refine test_then m en p fun d b r1 H1 hs1 x1 m1 e1 _ p1 => ?_
      cases b with
      | true => exact ⟨r1, hs1, s, m1, e1, p1⟩
      | false => exact ⟨r1, hs1, s, m1, e1, p1⟩
  · cases g
theorem se_orv {a b : Ex} (ha : SE L k a) (hb : SE L k b) : SE L k (.orv a b) := by
  intro c X Y E h tk g
  simp only [chkE] at g
  split at g
  · rename_i x y hr
    obtain ⟨p, rfl⟩ := asOr_of hr
    simp only [Bool.and_eq_true] at g
    have h1 := ha c X Y x h tk g.1
    have h2 := hb c X Y y h tk g.2
    refine ⟨pe_weak (pe_orT h1.1 (pe_one h2.1)) fun σ H Q w => ?_, pt_weak (pw_or h1.2 (pw_or1 h2.2)).pt fun σ H Q w => ?_⟩
    · obtain ⟨r, hs, s, m, en, p⟩ := w
      simp only [evE] at p
      refine rd_bind m en p fun d r1 H1 hs1 v x1 m1 e1 rv _ p1 => ?_
      rw [orvD_eq] at p1
      cases q2 : tru hs1 d with
      | none => rw [q2] at p1; exact False.elim p1
      | some t =>
        rw [q2] at p1
        refine ⟨t, q_tru m1 rv q2, ?_⟩
        cases t with
        | true => exact pd_ok p1 m1 rv
        | false => exact ⟨r1, hs1, s, m1, e1, p1⟩
    · obtain ⟨r, hs, s, m, en, p⟩ := w
      simp only [evT, evE, orvD_eq, bind_assoc, bad_match] at p
      refine test_then m en p fun d b r1 H1 hs1 x1 m1 e1 hb p1 => ?_
      cases b with
      | true =>
        have p2 : Post _ _ _ _ _ _ (truR d hs1) _ := p1
        unfold truR at p2
        rw [hb] at p2
        exact p2 r1 H1 _ (Ext.refl _ _) m1 rfl
      | false => exact ⟨r1, hs1, s, m1, e1, p1⟩
  · cases g
theorem se_sub {a i : Ex} (ha : SE L k a) (hi : SE L k i) : SE L k (.sub a i) := by
  intro c X Y E h tk g
  simp only [chkE] at g
  split at g
  · rename_i q hq
    obtain ⟨p, rfl⟩ := asSub_of hq
    obtain ⟨x, y⟩ := q
    simp only [Bool.and_eq_true] at g
    obtain ⟨g1, g2, g3⟩ := g
    have hu : X.A.units + 1 < cLine := by have := h.un; omega
    have e : PE X (.Subscript x y p) (rdE (wdo X L) Y (evE (clOf L k) (.sub a i))) := pe_weak (pe_ix (ix_U hu) (ha c X Y x h tk g2).1 (hi c X Y y h tk g3).1 (slice_ok g1)) fun σ H Q w => by
      obtain ⟨r, hs, s, m, en, p⟩ := w
      simp only [evE] at p
      refine rd_bind m en p fun d r1 H1 hs1 v x1 m1 e1 rv _ p1 => ?_
      refine rd_bind m1 e1 p1 fun d2 r2 H2 hs2 u x2 m2 e2 rv2 _ p2 => ?_
      exact q_ix m2 (rv.mono x2) rv2 p2
    exact ⟨e, pt_of rfl rfl e⟩
  · cases g
theorem se_gget (y : String) {a : Ex} (ha : SE L k a) : SE L k (.gget y a) := by
  intro c X Y E h tk g
  simp only [chkE] at g
  split at g
  · rename_i q hq
    obtain ⟨p, rfl⟩ := asSub_of hq
    obtain ⟨x, i⟩ := q
    simp only [Bool.and_eq_true] at g
    obtain ⟨g1, g2, g3⟩ := g
    split at g2
    · rename_i n hn
      obtain ⟨pn, rfl⟩ := asName_of hn
      rw [Bool.and_eq_true] at g2
      obtain ⟨b1, b2⟩ := glB_ok h g2.1
      obtain ⟨kvs, pa, d1, d2, d3⟩ := h.dic n y (beq_iff_eq.mp g2.2)
      have pn' : PE X (.Name n pn) (tC (.ref pa)) := C8.pe_gc b1 ⟨.ref pa, d2, rfl⟩ b2
      have e : PE X (.Subscript (.Name n pn) i p) (rdE (wdo X L) Y (evE (clOf L k) (.gget y a))) := pe_weak (pe_ix ix_kdict pn' (ha c X Y i h tk g3).1 (slice_ok g1)) fun σ H Q w => by
        obtain ⟨r, hs, s, m, en, p⟩ := w
        simp only [evE] at p
        show rdE (wdo X L) Y (evE (clOf L k) a) σ H _
        refine rd_bind m en p fun d r1 H1 hs1 v x1 m1 e1 rv hq1 p1 => ?_
        clear hq1
        unfold gget at p1
        rw [show (clOf L k).T.dic y = some kvs from d1] at p1
        cases d <;> first | exact p1.elim | skip
        rename_i z
        cases rv
        simp only at p1
        cases lk : kvs.lookup z with
        | none => rw [lk] at p1; exact p1.elim
        | some d =>
          rw [lk] at p1
          obtain ⟨v, kd, rv⟩ := d3 z d lk
          exact ⟨pa, z, v, rfl, rfl, kd, pd_ok p1 m1 (rv _ _)⟩
      exact ⟨e, pt_of rfl rfl e⟩
    · cases g2
  · cases g
theorem se_slc {a : Ex} {lo hi : Eo} (ha : SE L k a) (hl : SO L k lo) (hu : SO L k hi) : SE L k (.slc a lo hi) := by
  intro c X Y E h tk g
  simp only [chkE] at g
  split at g
  · rename_i q hq
    obtain ⟨p, rfl⟩ := asSub_of hq
    obtain ⟨x, y⟩ := q
    simp only at g
    split at g
    · rename_i q2 hq2
      obtain ⟨p2, rfl⟩ := asSlc_of hq2
      simp only [Bool.and_eq_true] at g
      obtain ⟨g1, g2, g3⟩ := g
      have e : PE X (.Subscript x (.Slice q2.1 q2.2 none p2) p) (rdE (wdo X L) Y (evE (clOf L k) (.slc a lo hi))) := pe_weak (pe_slice sl_U (ha c X Y x h tk g1).1 (hl c X Y _ h tk g2) (hu c X Y _ h tk g3)) fun σ H Q w => by
        obtain ⟨r, hs, s, m, en, p⟩ := w
        simp only [evE] at p
        refine rd_bind m en p fun d r1 H1 hs1 v x1 m1 e1 rv _ p1 => ?_
        refine rd_bind m1 e1 p1 fun d2 r2 H2 hs2 u x2 m2 e2 rv2 _ p2 => ?_
        refine rd_bind m2 e2 p2 fun d3 r3 H3 hs3 u3 x3 m3 e3 rv3 _ p3 => ?_
        subst rv2 rv3
        exact q_slice m3 (rv.mono (x2.trans x3)) p3
      exact ⟨e, pt_of rfl rfl e⟩
    · cases g
  · cases g
theorem se_fld {a : Ex} (f : String) (ha : SE L k a) : SE L k (.fld a f) := by
  intro c X Y E h tk g
  simp only [chkE] at g
  split at g
  · rename_i q hq
    obtain ⟨p, rfl⟩ := asAttr_of hq
    obtain ⟨x, y⟩ := q
    simp only [Bool.and_eq_true, beq_iff_eq] at g
    obtain ⟨g1, g2, g3, g4⟩ := g
    subst g1
    have e : PE X (.Attribute x (fN f) p) (rdE (wdo X L) Y (evE (clOf L k) (.fld a f))) := pe_weak (pe_fldU (ha c X Y x h tk g4).1 g3) fun σ H Q w => by
      obtain ⟨r, hs, s, m, en, p⟩ := w
      simp only [evE] at p
      refine rd_bind m en p fun d r1 H1 hs1 v x1 m1 e1 rv _ p1 => ?_
      exact q_fld h.cls h.noat m1 rv g2 p1
    exact ⟨e, pt_of rfl rfl e⟩
  · cases g
theorem pe_callS0 {X : Cx} {CX : CXT} {k : Nat} {f : Addr} {fd : FuncData} {ps : List Str} {sp : Sp} {E : L2.St → XK} {x : Str} {p pos : Pos} (F : FnOk X.prog X.w X.K X.mg X.base CX k f fd ps sp) (hr : Room k X.A) (hg : Gl X x) (hm : X.mg x = some (.ref f)) (hk : PySem.W.keepIn X.K (.ref f) = true) (hb : Binds X.K fd ps []) (hx : ∀ σ, PassesAt CX X σ (E σ))
    (hdb : (x == ("__debug__" : Str)) = false) : PE X (.Call (.Name x p) [] [] pos) (fun σ H Q => sp [] H Q (E σ)) := by
  refine ⟨fun pins s σ H Q I h => ?_⟩
  refine wpAny_Call_Name_kw (ld_glob I hg hm ?_ hdb)
  exact PySem.W.callWith_K0 I.kIn hk (run_fnSD (us := []) (dvs := []) (ds := []) F hr hb .nil (hx σ) I .nil h)
theorem se_call (f : String) {es : Exs} (ih : SEs L k es) : SE L k (.call f es) := by
  intro c X Y E h tk g
  simp only [chkE] at g
  split at g
  · rename_i q hq
    obtain ⟨p, p2, rfl⟩ := asCall_of hq
    obtain ⟨x, l⟩ := q
    simp only [Bool.and_eq_true, beq_iff_eq] at g
    obtain ⟨⟨g1, g2, g3⟩, g4⟩ := g
    obtain ⟨hc, hr⟩ := calm_hd h g1
    obtain ⟨k1, k2⟩ := glB_ok h g2
    obtain ⟨a, fd, ps, m1, m2, m3, m4⟩ := h.fns x f g3
    cases l with
    | nil =>
      cases es with
      | cons e0 es0 => simp only [chkEs] at g4; cases g4
      | nil =>
        have e : PE X (.Call (.Name x p) [] [] p2) (rdE (wdo X L) Y (evE (clOf L k) (.call f .nil))) := pe_weak (pe_callS0 m3 hr k1 m1 m2 m4 (E := WE Y) (passAt tk) k2) fun σ H Q w => by
          obtain ⟨r, hs, s, m, en, p⟩ := w
          simp only [evE, evs, R.bind_ok] at p
          exact ⟨r, hs, [], m, .nil, post_E p⟩
        exact ⟨e, pt_of rfl rfl e⟩
    | cons y l =>
      have hst := (chkEs_len g4).2
      rw [List.all_cons, Bool.and_eq_true] at hst
      have e : PE X (.Call (.Name x p) (y :: l) [] p2) (rdE (wdo X L) Y (evE (clOf L k) (.call f es))) := pe_weak (pe_callS m3 hr k1 m1 m2 m4 (E := WE Y) (passAt tk) (ih c X Y (y :: l) h tk g4).1 k2 (star_cons hst.1) (star_none hst.2)) fun σ H Q w => by
        obtain ⟨r, hs, s, m, en, p⟩ := w
        simp only [evE] at p
        refine rd_bind m en p fun ds r1 H1 hs1 vs x1 m1 e1 rv _ p1 => ?_
        exact ⟨r1, hs1, ds, m1, rv, post_E p1⟩
      exact ⟨e, pt_of rfl rfl e⟩
  · cases g
theorem pairs_at : ∀ {kk : List (List Int)} {zs : List (Int × Int)}, pairsI kk = some zs → kk.map prOf = zs ∧ ∀ k ∈ kk, k.length = 2
  | [], zs, h => by cases h; exact ⟨rfl, fun _ z => nomatch z⟩
  | k :: kk, zs, h => by
    match k, h with
    | [x, y], h =>
      simp only [pairsI] at h
      obtain ⟨l, e, rfl⟩ := Option.map_eq_some_iff.mp h
      obtain ⟨h1, h2⟩ := pairs_at e
      refine ⟨by rw [List.map_cons, h1]; rfl, fun z hz => ?_⟩
      rcases List.mem_cons.mp hz with e | hz
      · subst e; rfl
      · exact h2 z hz
theorem tups_at2 {W : Wd} {r : List Addr} {H : Hp} : ∀ {l : List D} {us : List V} {kk : List (List Int)}, Rvs W r H l us → tupsI l = some kk →
    ∃ ks : List (Addr × List Int), us = ks.map (fun p => V.ref p.1) ∧ (∀ p ∈ ks, TupAt W r H p.1 (p.2.map V.int)) ∧ ks.map (·.2) = kk
  | [], _, _, .nil, h => by cases h; exact ⟨[], rfl, (fun _ z => nomatch z), rfl⟩
  | d :: l, _, kk, .cons x t, h => by
    cases d <;> first | (cases h; done) | skip
    rename_i ds
    cases x with | tup tt es =>
    simp only [tupsI] at h
    split at h
    · rename_i k ks hk hks
      cases h
      obtain ⟨kss, e1, e2, e3⟩ := tups_at2 t hks
      have e4 := ints_at es hk
      subst e4
      refine ⟨(_, k) :: kss, by rw [e1]; rfl, fun p hp => ?_, by rw [List.map_cons, e3]⟩
      rcases List.mem_cons.mp hp with e | hp
      · subst e; exact tt
      · exact e2 p hp
    · cases h
theorem rvs_pairs_of {W : Wd} {r : List Addr} {H : Hp} : ∀ {L : List (Addr × List Int)}, (∀ q ∈ L, TupAt W r H q.1 (q.2.map V.int) ∧ q.2.length = 2) → Rvs W r H ((L.map fun q => prOf q.2).map pairD) (L.map fun q => V.ref q.1)
  | [], _ => .nil
  | ⟨a, k⟩ :: L, h => by
    have h1 := (h _ List.mem_cons_self).1
    have h2 := (h _ List.mem_cons_self).2
    simp only at h1 h2
    obtain ⟨x, y, rfl⟩ : ∃ x y, k = [x, y] := by
      match k, h2 with
      | [x, y], _ => exact ⟨x, y, rfl⟩
    have ih := rvs_pairs_of (L := L) fun z hz => h z (List.mem_cons_of_mem _ hz)
    have hd : Rv W r H (.tup [.int x, .int y]) (.ref a) := .tup (vs := [V.int x, V.int y]) h1 (.cons (.int x) (.cons (.int y) .nil))
    simp only [List.map_cons]
    exact .cons hd ih
theorem se_b (f : Bi) {es : Exs} (ih : SEs L k es) (ia : AllE (SE L k) es) : SE L k (.b f es) := by
  intro c X Y E h tk g
  simp only [chkE] at g
  split at g
  · rename_i q hq
    obtain ⟨p, p2, rfl⟩ := asCall_of hq
    obtain ⟨x, l⟩ := q
    rw [Bool.or_eq_true] at g
    rcases g with g | g
    · simp only [Bool.and_eq_true, beq_iff_eq] at g
      obtain ⟨⟨g1, g0, g2, g3⟩, g4, g5⟩ := g
      obtain ⟨hc, hr⟩ := calm_hd h g1
      obtain ⟨k1, k2⟩ := glB_ok h g2
      subst g3
      cases l with
      | nil => cases g5
      | cons y l =>
        have hst := (chkEs_len g4).2
        rw [List.all_cons, Bool.and_eq_true] at hst
        have e : PE X (.Call (.Name (Str.ofString f.val.1) p) (y :: l) [] p2) (rdE (wdo X L) Y (evE (clOf L k) (.b f es))) := pe_weak (pe_bi h hc (ih c X Y (y :: l) h tk g4).1 hst.1 hst.2 f g0 k1) fun σ H Q w => by
          obtain ⟨r, hs, s, m, en, p⟩ := w
          simp only [evE] at p
          refine rd_bind m en p fun ds r1 H1 hs1 vs x1 m1 e1 rv _ p1 => ?_
          exact q_bi m1 rv f ⟨(fun z => by subst z; cases g0), (fun z => by subst z; cases g0)⟩ p1
        exact ⟨e, pt_of rfl rfl e⟩
    · rw [Bool.and_eq_true, Bool.and_eq_true, Bool.or_eq_true] at g
      obtain ⟨⟨g1, g0⟩, g4⟩ := g
      dsimp only at g0 g4
      obtain ⟨hc, hr⟩ := calm_hd h g1
      rcases g0 with g0 | g0
      · simp only [Bool.and_eq_true, beq_iff_eq, decide_eq_true_eq] at g0
        obtain ⟨g0, g2, g3⟩ := g0
        subst g0 g3
        obtain ⟨k1, k2⟩ := glB_ok h g2
        split at g4
        · rename_i i
          split at g4
          · rename_i r hr2
            obtain ⟨p3, p4, rfl⟩ := asCall_of hr2
            obtain ⟨y, l2⟩ := r
            simp only [Bool.and_eq_true, beq_iff_eq, decide_eq_true_eq] at g4
            obtain ⟨⟨s1, s2, s3⟩, s4, s5⟩ := g4
            subst s3
            obtain ⟨j1, j2⟩ := glB_ok h s2
            obtain ⟨z, rfl⟩ := List.length_eq_one_iff.mp s4
            cases es with
            | nil => simp [chkEs] at s5
            | cons e0 es =>
              simp only [chkEs, Bool.and_eq_true] at s5
              obtain ⟨t1, t2, t3⟩ := s5
              cases es with
              | cons _ _ => simp [chkEs] at t3
              | nil =>
                have e : PE X (.Call (.Name "sorted" p) [.Call (.Name "set" p3) [z] [] p4] [] p2) (rdE (wdo X L) Y (evE (clOf L k) (.b .sortedset (.cons e0 .nil)))) := pe_weak (pe_ssetU hc (by have := h.un; omega) k1 (h.blt "sorted" (by decide)) j1 (h.blt "set" (by decide)) (ia.1 c X Y z h tk t2).1 t1) fun σ H Q w => by
                  obtain ⟨r, hs, s, m, en, p⟩ := w
                  simp only [evE, evs] at p
                  show rdE (wdo X L) Y (evE (clOf L k) e0) σ H _
                  rw [bind_assoc] at p
                  refine rd_bind m en p fun d r1 H1 hs1 v x1 m1 e1 rv hq1 p1 => ?_
                  clear hq1
                  simp only [R.bind, Bi.run] at p1
                  cases q1 : listOf hs1 d with
                  | none => rw [q1] at p1; exact False.elim p1
                  | some l1 =>
                    rw [q1] at p1
                    simp only [Option.bind_some] at p1
                    obtain ⟨pp, us, rfl, hl, es2⟩ := list_at m1 rv q1
                    cases q2 : strsL l1 with
                    | some zs =>
                      rw [q2] at p1
                      simp only at p1
                      split at p1
                      · rename_i few
                        have hu := strs_at es2 q2
                        subst hu
                        refine .inl ⟨pp, zs, rfl, hl, few, fun ys p so nd mem hn => ?_⟩
                        have eq := sset_of so nd mem
                        subst eq
                        have ok : ((sset zs).all PyData.strOk) = true := by
                          rw [List.all_eq_true]
                          intro x hx
                          exact strsOk es2 q2 x ((mem x).mp hx)
                        exact pd_lst p1 m1 (rvs_strs ok) p hn
                      · exact False.elim p1
                    | none =>
                      rw [q2] at p1
                      simp only at p1
                      cases q3 : tupsI l1 with
                      | none => rw [q3] at p1; exact False.elim p1
                      | some kk =>
                        rw [q3] at p1
                        simp only [Option.bind_some] at p1
                        cases q4 : pairsI kk with
                        | none => rw [q4] at p1; exact False.elim p1
                        | some zs =>
                          rw [q4] at p1
                          simp only at p1
                          split at p1
                          · rename_i few
                            obtain ⟨ks, f1, f2, f3⟩ := tups_at2 es2 q3
                            subst f1 f3
                            have f4 := pairs_at q4
                            refine .inr ⟨pp, ks, rfl, hl, fun p hp => ⟨(f2 p hp).sq, f4.2 _ (List.mem_map_of_mem hp)⟩, ?_, fun L p sub mem so hn => ?_⟩
                            · rw [← f4.1, List.length_map, List.length_map] at few; exact few
                            · have e5 : pset zs = L.map fun q => prOf q.2 := by
                                obtain ⟨u1, u2⟩ := pset_ok zs
                                refine uniq_of plt_asym u1 (List.pairwise_map.mpr so) fun k => ?_
                                rw [u2 k, ← f4.1]
                                constructor
                                · intro hk
                                  obtain ⟨w, hw, rfl⟩ := List.mem_map.mp hk
                                  obtain ⟨q, hq, rfl⟩ := List.mem_map.mp ((mem w).mpr hw)
                                  exact List.mem_map.mpr ⟨q, hq, rfl⟩
                                · intro hk
                                  obtain ⟨q, hq, rfl⟩ := List.mem_map.mp hk
                                  exact List.mem_map.mpr ⟨q.2, (mem q.2).mp (List.mem_map_of_mem hq), rfl⟩
                              rw [e5] at p1
                              refine pd_lst p1 m1 ?_ p hn
                              exact rvs_pairs_of fun q hq => ⟨f2 q (sub q hq), f4.2 _ (List.mem_map_of_mem (sub q hq))⟩
                          · exact False.elim p1
                exact ⟨e, pt_of rfl rfl e⟩
          · cases g4
        · cases g4
      · simp only [Bool.and_eq_true, beq_iff_eq, decide_eq_true_eq] at g0
        obtain ⟨g0, g2, g3⟩ := g0
        subst g0 g3
        obtain ⟨k1, k2⟩ := glB_ok h g2
        split at g4
        · rename_i i
          split at g4
          · rename_i r hr2
            obtain ⟨p3, p4, rfl⟩ := asCall_of hr2
            obtain ⟨y, l2⟩ := r
            simp only [Bool.and_eq_true, beq_iff_eq, decide_eq_true_eq] at g4
            obtain ⟨⟨s1, s2, s3⟩, s4, s5⟩ := g4
            subst s3
            obtain ⟨j1, j2⟩ := glB_ok h s2
            obtain ⟨z, rfl⟩ := List.length_eq_one_iff.mp s4
            cases es with
            | nil => simp [chkEs] at s5
            | cons e0 es =>
              simp only [chkEs, Bool.and_eq_true] at s5
              obtain ⟨t1, t2, t3⟩ := s5
              cases es with
              | cons _ _ => simp [chkEs] at t3
              | nil =>
                have e : PE X (.Call (.Name "len" p) [.Call (.Name "set" p3) [z] [] p4] [] p2) (rdE (wdo X L) Y (evE (clOf L k) (.b .lenset (.cons e0 .nil)))) := pe_weak (pe_lenSetT hc (by have := h.un; omega) k1 (h.blt "len" (by decide)) j1 (h.blt "set" (by decide)) (ia.1 c X Y z h tk t2).1 (star_cons t1)) fun σ H Q w => by
                  obtain ⟨r, hs, s, m, en, p⟩ := w
                  simp only [evE, evs] at p
                  show rdE (wdo X L) Y (evE (clOf L k) e0) σ H _
                  rw [bind_assoc] at p
                  refine rd_bind m en p fun d r1 H1 hs1 v x1 m1 e1 rv hq1 p1 => ?_
                  clear hq1
                  simp only [R.bind, Bi.run] at p1
                  cases q1 : listOf hs1 d with
                  | none => rw [q1] at p1; exact p1.elim
                  | some l1 =>
                    rw [q1] at p1
                    simp only [Option.bind_some] at p1
                    cases q2 : tupsI l1 with
                    | none => rw [q2] at p1; exact p1.elim
                    | some zs =>
                      rw [q2] at p1
                      simp only at p1
                      split at p1
                      · rename_i few
                        obtain ⟨pp, us, rfl, hl, es2⟩ := list_at m1 rv q1
                        obtain ⟨ks, f1, f2, f3⟩ := tups_at es2 q2
                        subst f1 f3
                        refine ⟨pp, ks, rfl, hl, f2, ?_, few.2, ?_⟩
                        · have := few.1; simp only [List.length_map] at this; omega
                        · have := pd_ok p1 m1 (.int _); simpa using this
                      · exact p1.elim
                exact ⟨e, pt_of rfl rfl e⟩
          · cases g4
        · cases g4
  · cases g
theorem bmD_some {α : Type} {f : Bm} {x : D} {g : Hs → R α} {h : Hs} {W : Wd} {Y : WX} {σ : L2.St} {r : List Addr} {H : Hp} {β : Type} {rel : List Addr → Hp → α → β → Prop} {Q : β → Hp → Prop} (p : Post rel W Y σ r H (bmD f x g h) Q) : bmK f x h = true ∧ Post rel W Y σ r H (g h) Q := by
  unfold bmD at p
  split at p
  · rename_i hk; exact ⟨hk, p⟩
  · exact False.elim p
theorem few_ok {X : Cx} {l : List Expr} {pos : Pos} (h1 : l.all noStar = true) (h2 : few l = true) : ((backTo pos (starEach l X.env)).all (fun x => !x.1) && (backToKw pos (keywordEach [] X.env)).all (fun x => x.1.isSome)
      && decide (l.length + ([] : List Keyword).length + (if ([] : List Keyword).isEmpty then 0 else 1) < 30)) = true := by
  rw [star_few h1]
  have h3 : l.length ≤ 20 := of_decide_eq_true h2
  have h4 : decide (l.length + ([] : List Keyword).length + (if ([] : List Keyword).isEmpty then 0 else 1) < 30) = true := decide_eq_true (by simp; omega)
  rw [h4]
  rfl
theorem se_bm (f : Bm) {a : Ex} {es : Exs} (ha : SE L k a) (ih : SEs L k es) : SE L k (.bm f a es) := by
  intro c X Y E h tk g
  simp only [chkE] at g
  split at g
  · rename_i q hq
    obtain ⟨p, p2, rfl, hln⟩ := asMeth_of hq
    obtain ⟨x, nm, l⟩ := q
    simp only [Bool.and_eq_true, beq_iff_eq] at g
    obtain ⟨⟨g1, g2⟩, g3, g4, g5⟩ := g
    subst g1
    have hu : X.A.units + 152 < cLine := by have := h.un; omega
    obtain ⟨s1, s2, s3⟩ := bm_slot f
    have hx := (ha c X Y x h tk g3).1
    have hl := (ih c X Y l h tk g4).1
    have hst := (chkEs_len g4).2
    have e : PE X (.Call (.Attribute x (Str.ofString f.name) p) l [] p2) (rdE (wdo X L) Y (evE (clOf L k) (.bm f a es))) := by
      cases l with
      | nil =>
        refine pe_weak (pe_bm0 s1 s2 s3 (mt_bm hu f) hx (plainB_ok g2) hln) fun σ H Q w => ?_
        obtain ⟨r, hs, s, m, en, p⟩ := w
        simp only [evE] at p
        refine rd_bind m en p fun d r1 H1 hs1 v x1 m1 e1 rv _ p1 => ?_
        obtain ⟨hk, p1⟩ := bmD_some p1
        refine ⟨q_bm_ty m1 rv f hk, ?_⟩
        cases es with
        | cons _ _ => simp [chkEs] at g4
        | nil => exact q_bm m1 rv .nil f p1
      | cons y l =>
        have hst2 := hst
        rw [List.all_cons, Bool.and_eq_true] at hst2
        refine pe_weak (pe_bm s1 s2 s3 (mt_bm hu f) hx hl (plainB_ok g2) (few_ok hst g5) hln (star_cons hst2.1) (star_none hst2.2)) fun σ H Q w => ?_
        obtain ⟨r, hs, s, m, en, p⟩ := w
        simp only [evE] at p
        refine rd_bind m en p fun d r1 H1 hs1 v x1 m1 e1 rv _ p1 => ?_
        obtain ⟨hk, p1⟩ := bmD_some p1
        refine ⟨q_bm_ty m1 rv f hk, ?_⟩
        refine rd_bind m1 e1 p1 fun ds r2 H2 hs2 vs x2 m2 e2 rv2 _ p2 => ?_
        exact q_bm m2 (rv.mono x2) rv2 f p2
    exact ⟨e, pt_of rfl rfl e⟩
  · cases g
end
end Q

/-! expressions: isinstance, comprehensions, lists of them, walks; the theorem -/
namespace Q
open PySem PySem.Spec PyProof.Rows L2

section
variable {L : Wl} {k : Nat}
theorem tyB1_ok {X : Cx} {c : Ck} (h : XOk L k c X) {t : Ty} {e : Expr} (g : tyB1 c t e = true) : PE X e (tC (t.v (wdo X L))) ∧ tyOk (wdo X L) t := by
  unfold tyB1 at g
  split at g
  · rename_i x hx
    obtain ⟨p, rfl⟩ := asName_of hx
    rw [Bool.and_eq_true] at g
    obtain ⟨k1, k2⟩ := glB_ok h g.1
    have g2 := g.2
    cases t <;> simp only [beq_iff_eq] at g2 <;> first | subst g2 | skip
    case tint => exact ⟨pe_bltn k1 (h.blt "int" (by decide)) (by decide +kernel) (v := .ty "int") (u := .type "int") rfl (by decide +kernel) k2, trivial⟩
    case tbool => exact ⟨pe_bltn k1 (h.blt "bool" (by decide)) (by decide +kernel) (v := .ty "bool") (u := .type "bool") rfl (by decide +kernel) k2, trivial⟩
    case tstr => exact ⟨pe_bltn k1 (h.blt "str" (by decide)) (by decide +kernel) (v := .ty "str") (u := .type "str") rfl (by decide +kernel) k2, trivial⟩
    case ttuple => exact ⟨pe_bltn k1 (h.blt "tuple" (by decide)) (by decide +kernel) (v := .ty "tuple") (u := .type "tuple") rfl (by decide +kernel) k2, trivial⟩
    case tlist => exact ⟨pe_bltn k1 (h.blt "list" (by decide)) (by decide +kernel) (v := .ty "list") (u := .type "list") rfl (by decide +kernel) k2, trivial⟩
    case tval => exact ⟨pe_bltn k1 (h.blt "ValueError" (by decide)) (by decide +kernel) (v := .ty "ValueError") (u := .type "ValueError") rfl (by decide +kernel) k2, trivial⟩
    case own d => exact ⟨pe_glob k1 (h.cns x d g2).2.1 (v := .ref (L.C d)) rfl k2, (h.cns x d g2).1⟩
  · cases g
def tTys (W : Wd) (ts : List Ty) : TA := fun _ H Q => Q (ts.map fun t => t.v W) H
theorem tyBs_ok {X : Cx} {c : Ck} (h : XOk L k c X) : ∀ {ts : List Ty} {es : List Expr}, tyBs c ts es = true → PA X es (tTys (wdo X L) ts) ∧ ts.length = es.length ∧ ∀ y ∈ ts, tyOk (wdo X L) y
  | [], [], _ => ⟨pa_weak pa_nil fun _ _ _ w => w, rfl, fun _ h => nomatch h⟩
  | [], _ :: _, g => nomatch g
  | _ :: _, [], g => nomatch g
  | t :: ts, e :: es, g => by
    simp only [tyBs, Bool.and_eq_true] at g
    obtain ⟨g1, g2, g3⟩ := g
    obtain ⟨r1, r2, r3⟩ := tyBs_ok h g3
    exact ⟨pa_weak (pa_cons (tyB1_ok h g2).1 r1 (star_cons g1)) fun _ _ _ w => w, by simp [r2], fun y hy => by
      rcases List.mem_cons.mp hy with e | e
      · subst e; exact (tyB1_ok h g2).2
      · exact r3 y e⟩
theorem se_isi {a : Ex} (ts : List Ty) (ha : SE L k a) : SE L k (.isi a ts) := by
  intro c X Y E h tk g
  simp only [chkE] at g
  split at g
  · rename_i x e t hq
    obtain ⟨p, p2, rfl⟩ := asCall_of hq
    simp only [Bool.and_eq_true, beq_iff_eq] at g
    obtain ⟨⟨g1, g2⟩, ⟨g3, g4⟩, g5, g6⟩ := g
    obtain ⟨k1, k2⟩ := glB_ok h g1
    subst g2
    have hx := (ha c X Y e h tk g5).1
    have mk : ∀ {tt : TE}, PE X t tt → PE X (.Call (.Name ("isinstance" : Str) p) [e, t] [] p2) (tCB (RIsi X.K) (tCons (rdE (wdo X L) Y (evE (clOf L k) a)) (tCons tt tNil))) := fun ht =>
      pe_callB call_isiU k1 (h.blt "isinstance" (by decide)) (by decide +kernel) (pa_cons hx (pa_cons ht pa_nil (star_cons g4)) (star_cons g3)) (by decide +kernel) k2 (star_cons g3) (star_none (by simp [g4]))
    have e : PE X (.Call (.Name ("isinstance" : Str) p) [e, t] [] p2) (rdE (wdo X L) Y (evE (clOf L k) (.isi a ts))) := by
      by_cases h1 : ∃ y, ts = [y]
      · obtain ⟨y, rfl⟩ := h1
        simp only [tyB] at g6
        refine pe_weak (mk (tyB1_ok h g6).1) fun σ H Q w => ?_
        obtain ⟨r, hs, s, m, en, p⟩ := w
        simp only [evE] at p
        refine rd_bind m en p fun d r1 H1 hs1 v x1 m1 e1 rv _ p1 => ?_
        obtain ⟨b, hb, p1⟩ := pd_opt p1
        obtain ⟨tv, t1, t2⟩ := ty_at h.cls m1 rv (fun ds z => by subst z; cases rv)
        simp only [isTys] at hb
        split at hb
        · rename_i a1 c1 ha1 hc1
          cases hb
          cases hc1
          rw [Bool.or_false] at p1
          exact .inl ⟨v, y.v _, tv, y.val _, a1, rfl, y.cls _, t1, t2 y a1 (tyB1_ok h g6).2 ha1, pd_ok p1 m1 (.bl _)⟩
        · cases hb
      · have g7 : (match asTup t with
          | some l => tyBs c ts l && decide (l.length ≤ 100)
          | none => false) = true := by
          unfold tyB at g6
          split at g6
          · rename_i y; exact absurd ⟨y, rfl⟩ h1
          · exact g6
        split at g7
        · rename_i l hl
          obtain ⟨j, p3, rfl⟩ := asTup_of hl
          rw [Bool.and_eq_true, decide_eq_true_eq] at g7
          obtain ⟨q1, q2, q3⟩ := tyBs_ok h g7.1
          refine pe_weak (mk (pe_tup q1)) fun σ H Q w => ?_
          obtain ⟨r, hs, s, m, en, p⟩ := w
          simp only [evE] at p
          refine rd_bind m en p fun d r1 H1 hs1 v x1 m1 e1 rv _ p1 => ?_
          obtain ⟨b, hb, p1⟩ := pd_opt p1
          refine ⟨by rw [List.length_map, q2, sl_eq]; exact Nat.le_trans g7.2 (by decide), fun tp hp => ?_⟩
          have xn := ext_new (r := r1) hp (.tup (ts.map fun t => t.v (wdo X L)))
          have mn := m1.new hp (.tup (ts.map fun t => t.v (wdo X L)))
          obtain ⟨tv, t1, t2⟩ := ty_at h.cls mn (rv.mono xn) (fun ds z => by subst z; cases rv)
          exact .inr ⟨v, tp, _, tv, _, b, rfl, upd_same, paired_cls _ ts, t1, isTys_kit t2 q3 hb, p1 r1 _ _ xn mn (.bl b)⟩
        · cases g7
    exact ⟨e, pt_of rfl rfl e⟩
  · cases g
theorem pe_comp {e : Ex} {tg : Tg} {it : It} {q : Eo} {own : List Nat} (he : SE L k e) (hi : SI L k it) (hq : SC L k q) {c : Ck} {X : Cx} {Y : WX} {elt T iter : Expr} {ifs : List Expr} {sc : Scope} (h : XOk L k c X) (tk : Takes X Y)
    (g : ((!c.hot && (noSet iter && (blkB c sc own && tgIn own tg))) && (chkI c it T iter && (tgB (c.blk sc) tg T && (chkC (c.blk sc) q ifs && chkE (c.blk sc) e elt)))) = true) :
    (X.calm = true ∧ tgIn own tg = true) ∧ PI X T iter (rd (WkR (wdo X L)) (wdo X L) Y (walk (clOf L k) it)) ∧ BlkOk X.N X.env.scope sc (ownL c own) ∧
    (∀ (s : Shared) (H : Hp) (C : Addr) (cl : List (Str × Addr)) (fp : List Addr), PG (X.blk s H sc (compEnvC sc cl C X.env) fp) T (tgG X.K tg)) ∧
    (∀ (s : Shared) (H : Hp) (C : Addr) (cl : List (Str × Addr)) (fp : List Addr), PTs (X.blk s H sc (compEnvC sc cl C X.env) fp) ifs (rdT (wdo X L) noX (evC (clOf L k) q))) ∧
    (∀ (s : Shared) (H : Hp) (C : Addr) (cl : List (Str × Addr)) (fp : List Addr), PE (X.blk s H sc (compEnvC sc cl C X.env) fp) elt (rdE (wdo X L) noX (evE (clOf L k) e))) ∧ ∀ x, foldedSetIterable iter X.env x = pure x := by
  simp only [Bool.and_eq_true] at g
  obtain ⟨⟨g1, g2, g3, g4⟩, g5, g6, g7, g8⟩ := g
  obtain ⟨hc, _⟩ := calm_hd h g1
  exact ⟨⟨hc, g4⟩, hi c X Y T iter h tk g5, blkB_ok h g3, fun s H C cl fp => tgB_ok (X := X.blk s H sc (compEnvC sc cl C X.env) fp) (blk_ok h) hc g6,
    fun s H C cl fp => hq (c.blk sc) (X.blk s H sc (compEnvC sc cl C X.env) fp) noX ifs (blk_ok h) takes0 g7, fun s H C cl fp => (he (c.blk sc) (X.blk s H sc (compEnvC sc cl C X.env) fp) noX elt (blk_ok h) takes0 g8).1, folded_ok g2⟩
theorem own_snd (c : Ck) : ∀ own : List Nat, (ownL c own).map (·.2) = own := by
  intro own
  unfold ownL
  rw [List.map_map]
  exact List.map_id own
theorem se_comp {e : Ex} {tg : Tg} {it : It} {q : Eo} {own : List Nat} (he : SE L k e) (hi : SI L k it) (hq : SC L k q) : SE L k (.comp e tg it q own) := by
  intro c X Y E h tk g
  simp only [chkE] at g
  split at g
  · rename_i r hr
    obtain ⟨p, rfl⟩ := asLc_of hr
    obtain ⟨elt, T, iter, ifs, sc⟩ := r
    obtain ⟨⟨hc, ht⟩, h1, h2, h3, h4, h5, h6⟩ := pe_comp he hi hq h tk g
    have e0 := pe_lc (pos := p) hc h.nd h1 h2 h3 h4 h5 h6
    rw [own_snd] at e0
    have e : PE X (.ListComp elt [⟨T, iter, ifs, 0⟩] sc p) (rdE (wdo X L) Y (evE (clOf L k) (.comp e tg it q own))) := pe_weak e0 fun σ H Q w => by
      simp only [evE] at w
      exact comp_ok ht w
    exact ⟨e, pt_of rfl rfl e⟩
  · cases g

/-! ### lists of expressions -/
theorem ses_nil : SEs L k .nil := by
  intro c X Y l h tk g
  simp only [chkEs, List.isEmpty_iff] at g
  subst g
  refine ⟨pa_weak pa_nil fun σ H Q w => ?_, fun z => absurd rfl z⟩
  obtain ⟨r, hs, s, m, en, p⟩ := w
  simp only [evs] at p
  exact p r H [] (Ext.refl _ _) m .nil
theorem andD_bad {α : Type} (x : D) (f : Hs → R D) (g : D → Hs → R α) (h : Hs) : (andD x f h).bind g = match x with
    | .bl true => (f h).bind g
    | .bl false => g (.bl false) h
    | _ => .bad := by
  cases x <;> first | rfl | (rename_i b; cases b <;> rfl)
theorem orD_bad {α : Type} (x : D) (f : Hs → R D) (g : D → Hs → R α) (h : Hs) : (orD x f h).bind g = match x with
    | .bl true => g (.bl true) h
    | .bl false => (f h).bind g
    | _ => .bad := by
  cases x <;> first | rfl | (rename_i b; cases b <;> rfl)
/-- a truth, then one of two -/
theorem bl_then {W : Wd} {Y : WX} {σ : L2.St} {r : List Addr} {H : Hp} {hs : Hs} {s : Ev} {α β : Type} {rel : List Addr → Hp → α → β → Prop} {P : β → Hp → Prop} {f : Ev → Hs → R D} {g : Bool → Hs → R α} {K : Bool → Hp → Prop} (m : Mt W r H hs) (en : EnvR W r H s σ)
    (p : Post rel W Y σ r H ((f s hs).bind fun x h => match x with
      | .bl true => g true h
      | .bl false => g false h
      | _ => .bad) P) (kk : ∀ b r1 H1 hs1, Ext r H r1 H1 → Mt W r1 H1 hs1 → EnvR W r1 H1 s σ → Post rel W Y σ r1 H1 (g b hs1) P → K b H1) : rdT W Y (fun s h => (f s h).bind truR) σ H K := by
  refine test_then (rel := rel) (P := P) (g := fun x b h => match x with
    | .bl true => g true h
    | .bl false => g false h
    | _ => .bad) m en ?_ fun d b r1 H1 hs1 x1 m1 e1 hb p1 => ?_
  · cases q : f s hs with
    | ok d h1 =>
      rw [q] at p
      have p : Post rel W Y σ r H (match (generalizing := false) d with
        | .bl true => g true h1
        | .bl false => g false h1
        | _ => .bad) P := p
      show Post rel W Y σ r H (match (generalizing := false) tru h1 d with
        | some b => (match (generalizing := false) d with
          | .bl true => g true h1
          | .bl false => g false h1
          | _ => .bad)
        | none => .bad) P
      cases d <;> first | exact False.elim p | exact p
    | exc _ _ _ => rw [q] at p; exact p
    | bad => rw [q] at p; exact False.elim p
  · cases d <;> first | exact False.elim p1 | skip
    rename_i t
    cases hb
    refine kk _ r1 H1 hs1 x1 m1 e1 ?_
    cases b <;> exact p1
theorem ses_cons {e : Ex} {es : Exs} (he : SE L k e) (ih : SEs L k es) : SEs L k (.cons e es) := by
  intro c X Y l h tk g
  cases l with
  | nil => cases g
  | cons x l =>
    simp only [chkEs, Bool.and_eq_true] at g
    obtain ⟨g1, g2, g3⟩ := g
    obtain ⟨h1, h2⟩ := he c X Y x h tk g2
    obtain ⟨i1, i2⟩ := ih c X Y l h tk g3
    refine ⟨pa_weak (pa_cons h1 i1 (star_cons g1)) fun σ H Q w => ?_, fun _ pos => ?_⟩
    · obtain ⟨r, hs, s, m, en, p⟩ := w
      simp only [evs] at p
      refine rd_bind m en p fun d r1 H1 hs1 v x1 m1 e1 rv _ p1 => ?_
      refine rd_bind m1 e1 p1 fun ds r2 H2 hs2 vs x2 m2 e2 rv2 _ p2 => ?_
      exact p2 r2 H2 _ (Ext.refl _ _) m2 (.cons (rv.mono x2) rv2)
    · cases es with
      | nil =>
        simp only [chkEs, List.isEmpty_iff] at g3
        subst g3
        exact ⟨⟨pe_one (pe_weak h1 fun σ H Q w => w), pw_and1 (pt_weak h2 fun σ H Q w => w)⟩, pe_one (pe_weak h1 fun σ H Q w => w), pw_or1 (pt_weak h2 fun σ H Q w => w)⟩
      | cons f fs =>
        cases l with
        | nil => cases g3
        | cons y l =>
          obtain ⟨⟨j1, j2⟩, j3, j4⟩ := i2 (fun z => nomatch z) pos
          refine ⟨⟨pe_weak (pe_and h1 j1) fun σ H Q w => ?_, pw_weak (pw_and h2 j2) fun σ H Q w => ?_⟩, pe_weak (pe_or h1 j3) fun σ H Q w => ?_, pw_weak (pw_or h2 j4) fun σ H Q w => ?_⟩
          · obtain ⟨r, hs, s, m, en, p⟩ := w
            simp only [evAnd] at p
            refine rd_bind m en p fun d r1 H1 hs1 v x1 m1 e1 rv _ p1 => ?_
            cases d <;> first | exact False.elim p1 | skip
            rename_i b _
            cases rv
            cases b with
            | true => exact ⟨true, rfl, r1, hs1, s, m1, e1, p1⟩
            | false => exact ⟨false, rfl, pd_ok p1 m1 (.bl false)⟩
          · obtain ⟨r, hs, s, m, en, p⟩ := w
            simp only [evAnd, bind_assoc, andD_bad] at p
            refine bl_then (rel := fun _ _ (a b : Bool) => a = b) (P := Q) (g := fun b h => if b then (evAnd (clOf L k) (.cons f fs) s h).bind truR else truR (.bl false) h) m en ?_ fun b r1 H1 hs1 x1 m1 e1 p1 => ?_
            · exact p
            · cases b with
              | true => exact ⟨r1, hs1, s, m1, e1, p1⟩
              | false => exact p1 r1 H1 _ (Ext.refl _ _) m1 rfl
          · obtain ⟨r, hs, s, m, en, p⟩ := w
            simp only [evOr] at p
            refine rd_bind m en p fun d r1 H1 hs1 v x1 m1 e1 rv _ p1 => ?_
            cases d <;> first | exact False.elim p1 | skip
            rename_i b _
            cases rv
            cases b with
            | true => exact ⟨true, rfl, pd_ok p1 m1 (.bl true)⟩
            | false => exact ⟨false, rfl, r1, hs1, s, m1, e1, p1⟩
          · obtain ⟨r, hs, s, m, en, p⟩ := w
            simp only [evOr, bind_assoc, orD_bad] at p
            refine bl_then (rel := fun _ _ (a b : Bool) => a = b) (P := Q) (g := fun b h => if b then truR (.bl true) h else (evOr (clOf L k) (.cons f fs) s h).bind truR) m en ?_ fun b r1 H1 hs1 x1 m1 e1 p1 => ?_
            · exact p
            · cases b with
              | true => exact p1 r1 H1 _ (Ext.refl _ _) m1 rfl
              | false => exact ⟨r1, hs1, s, m1, e1, p1⟩
/-! ### parts, tests, walks -/
theorem so_none : SO L k .none := by
  intro c X Y E h tk g
  simp only [chkO, Option.isNone_iff_eq_none] at g
  subst g
  refine po_weak po_none fun σ H Q w => ?_
  obtain ⟨r, hs, s, m, en, p⟩ := w
  simp only [evO] at p
  exact p r H _ (Ext.refl _ _) m rfl
theorem so_some {e : Ex} (he : SE L k e) : SO L k (.some e) := by
  intro c X Y E h tk g
  cases E with
  | none => cases g
  | some x =>
    refine po_weak (po_some (he c X Y x h tk g).1) fun σ H Q w => ?_
    obtain ⟨r, hs, s, m, en, p⟩ := w
    simp only [evO] at p
    refine rd_bind m en p fun d r1 H1 hs1 v x1 m1 e1 rv _ p1 => ?_
    cases d <;> first | exact False.elim p1 | skip
    cases rv
    exact ⟨_, rfl, p1 r1 H1 _ (Ext.refl _ _) m1 rfl⟩
theorem sc_none : SC L k .none := by
  intro c X Y l h tk g
  simp only [chkC, List.isEmpty_iff] at g
  subst g
  refine pts_weak pts_nil fun σ H Q w => ?_
  obtain ⟨r, hs, s, m, en, p⟩ := w
  simp only [evC] at p
  exact p r H _ (Ext.refl _ _) m rfl
theorem sc_some {e : Ex} (he : SE L k e) : SC L k (.some e) := by
  intro c X Y l h tk g
  simp only [chkC] at g
  split at g
  · rename_i x
    exact pts_weak (pts_one (he c X Y x h tk g).2) fun σ H Q w => w
  · cases g
theorem walkOf_some {X : Cx} {W : Wd} {Y : WX} {σ : L2.St} {r : List Addr} {H : Hp} {hs : Hs} {o : Option Walk} {Q : L2.It → Hp → Prop} (p : Post (WkR W) W Y σ r H (walkOf o hs) Q) : ∃ w, o = some w ∧ Post (WkR W) W Y σ r H (.ok w hs) Q := by
  cases o with
  | none => exact False.elim p
  | some w => exact ⟨w, rfl, p⟩
theorem si_sq {e : Ex} (he : SE L k e) : SI L k (.sq e) := by
  intro c X Y T E h tk g
  simp only [chkI] at g
  refine pi_weak (pi_sq (he c X Y E h tk g).1) fun σ H Q w => ?_
  obtain ⟨r, hs, s, m, en, p⟩ := w
  simp only [walk] at p
  refine rd_bind m en p fun d r1 H1 hs1 v x1 m1 e1 rv _ p1 => ?_
  obtain ⟨w, hw, p2⟩ := walkOf_some (X := X) p1
  cases d <;> first | (cases hw; done) | skip
  case tup ds =>
    cases rv with | tup t es =>
    cases hw
    exact ⟨_, rfl, .inr ⟨_, t.sq, p2 r1 H1 _ (Ext.refl _ _) m1 (wk_tup t es)⟩⟩
  case ref n =>
    cases rv with | ref ha =>
    obtain ⟨xs, _, h1, _⟩ := walk_ref hw
    obtain ⟨us, g1, g2⟩ := list_now m1 ha h1
    exact ⟨_, rfl, .inl ⟨us, g1, p2 r1 H1 _ (Ext.refl _ _) m1 (wk_list ha hw)⟩⟩
section
variable {W : Wd} {Y : WX} {σ : L2.St} {r : List Addr} {H : Hp} {hs : Hs} {Q : L2.It → Hp → Prop}
theorem rng1_some {d : D} (p : Post (WkR W) W Y σ r H (rng1 d hs) Q) : ∃ j, d = .int j ∧ small j ∧ Post (WkR W) W Y σ r H (.ok ⟨rangeL 0 j.toNat, fun _ => True⟩ hs) Q := by
  unfold rng1 at p
  split at p
  · rename_i j
    split at p
    · rename_i hj; exact ⟨j, rfl, hj, p⟩
    · exact False.elim p
  · exact False.elim p
theorem rng2_some {d e : D} (p : Post (WkR W) W Y σ r H (rng2 d e hs) Q) : ∃ i j, d = .int i ∧ e = .int j ∧ (small i ∧ small j) ∧ Post (WkR W) W Y σ r H (.ok ⟨rangeL i (j - i).toNat, fun _ => True⟩ hs) Q := by
  unfold rng2 at p
  split at p
  · rename_i i j
    split at p
    · rename_i hj; exact ⟨i, j, rfl, rfl, hj, p⟩
    · exact False.elim p
  · exact False.elim p
theorem rng3_some {d e f : D} (p : Post (WkR W) W Y σ r H (rng3 d e f hs) Q) : ∃ i j c, d = .int i ∧ e = .int j ∧ f = .int c ∧ (small i ∧ small j ∧ 0 < c ∧ c < 1000) ∧ Post (WkR W) W Y σ r H (.ok ⟨rangeC i c ((j - i + c - 1) / c).toNat, fun _ => True⟩ hs) Q := by
  unfold rng3 at p
  split at p
  · rename_i i j c
    split at p
    · rename_i hj; exact ⟨i, j, c, rfl, rfl, rfl, hj, p⟩
    · exact False.elim p
  · exact False.elim p
end
theorem si_r1 {a : Ex} (ha : SE L k a) : SI L k (.r1 a) := by
  intro c X Y T E h tk g
  simp only [chkI] at g
  split at g
  · rename_i x q hq
    obtain ⟨p, p2, rfl⟩ := asCall_of hq
    simp only [Bool.and_eq_true, beq_iff_eq] at g
    obtain ⟨⟨g1, g2⟩, g3, g4⟩ := g
    subst g2
    refine pi_weak (pi_range1 (glB_ok h g1).1 (h.blt "range" (by decide)) (pa_cons (ha c X Y q h tk g4).1 pa_nil (star_cons g3)) (star_cons g3)) fun σ H Q w => ?_
    obtain ⟨r, hs, s, m, en, p⟩ := w
    simp only [walk] at p
    refine rd_bind m en p fun d r1 H1 hs1 v x1 m1 e1 rv _ p1 => ?_
    obtain ⟨j, rfl, hj, p2⟩ := rng1_some p1
    cases rv
    exact ⟨j, rfl, hj.1, hj.2, p2 r1 H1 _ (Ext.refl _ _) m1 (wk_rng 0 _)⟩
  · cases g
theorem si_r2 {a b : Ex} (ha : SE L k a) (hb : SE L k b) : SI L k (.r2 a b) := by
  intro c X Y T E h tk g
  simp only [chkI] at g
  split at g
  · rename_i x q q2 hq
    obtain ⟨p, p2, rfl⟩ := asCall_of hq
    simp only [Bool.and_eq_true, beq_iff_eq] at g
    obtain ⟨⟨g1, g2⟩, ⟨g3, g4⟩, g5, g6⟩ := g
    subst g2
    have hs1 : starEach [q, q2] X.env = [(false, eval q X.env), (false, eval q2 X.env)] := by rw [star_cons g3, star_cons g4]; rfl
    refine pi_weak (pi_range2 (glB_ok h g1).1 (h.blt "range" (by decide)) (pa_cons (ha c X Y q h tk g5).1 (pa_cons (hb c X Y q2 h tk g6).1 pa_nil (star_cons g4)) (star_cons g3)) hs1 (star_cons g4)) fun σ H Q w => ?_
    obtain ⟨r, hs, s, m, en, p⟩ := w
    simp only [walk] at p
    refine rd_bind m en p fun d r1 H1 hs1 v x1 m1 e1 rv _ p1 => ?_
    refine rd_bind m1 e1 p1 fun d2 r2 H2 hs2 v2 x2 m2 e2 rv2 _ p2 => ?_
    obtain ⟨i, j, rfl, rfl, hj, p3⟩ := rng2_some p2
    cases rv; cases rv2
    exact ⟨i, j, rfl, ⟨hj.1.1, hj.1.2, hj.2.1, hj.2.2⟩, p3 r2 H2 _ (Ext.refl _ _) m2 (wk_rng i _)⟩
  · cases g
theorem rangeC_size {i j c : Int} (h : 0 < c) : Builtin.Range.rangeSize i j c = (((j - i + c - 1) / c).toNat : Int) := by
  unfold Builtin.Range.rangeSize
  rw [if_pos h]
  by_cases l : i < j
  · rw [if_pos l]
    have e : j - i + c - 1 = (j - i - 1) + 1 * c := by omega
    rw [e, Int.add_mul_ediv_right _ _ (by omega)]
    have := Int.ediv_nonneg (show 0 ≤ j - i - 1 by omega) (show 0 ≤ c by omega)
    omega
  · rw [if_neg l]
    by_cases z : j - i + c - 1 < 0
    · have := Int.ediv_neg_of_neg_of_pos z h
      omega
    · have := Int.ediv_eq_zero_of_lt (show 0 ≤ j - i + c - 1 by omega) (show j - i + c - 1 < c by omega)
      omega
theorem rgC_of {i j c : Int} (hi : small i) (hj : small j) (h : 0 < c) (h2 : c < 1000) : RgC i j c ((j - i + c - 1) / c).toNat := by
  refine ⟨by omega, by omega, ?_, rangeC_size h⟩
  obtain ⟨i0, i1⟩ := hi
  obtain ⟨j0, j1⟩ := hj
  unfold Builtin.Range.small
  rw [rangeC_size h]
  have b : ((j - i + c - 1) / c).toNat ≤ (j - i + c - 1).toNat := by
    by_cases z : j - i + c - 1 < 0
    · have := Int.ediv_neg_of_neg_of_pos z h
      omega
    · have := Int.ediv_le_self c (show 0 ≤ j - i + c - 1 by omega)
      omega
  have b2 : j - i ≤ 0 → ((j - i + c - 1) / c).toNat = 0 := fun q => by
    by_cases z : j - i + c - 1 < 0
    · have := Int.ediv_neg_of_neg_of_pos z h
      omega
    · have := Int.ediv_eq_zero_of_lt (show 0 ≤ j - i + c - 1 by omega) (show j - i + c - 1 < c by omega)
      omega
  have b3 : 0 < j - i → ((j - i + c - 1) / c) ≤ j - i := fun q => by
    apply Int.le_of_lt_add_one
    apply Int.ediv_lt_of_lt_mul h
    have : 0 ≤ (j - i) * (c - 1) := Int.mul_nonneg (by omega) (by omega)
    rw [Int.mul_sub, Int.mul_one] at this
    rw [Int.add_mul, Int.one_mul]
    omega
  generalize (j - i + c - 1) / c = q at *
  simp only [Builtin.Range.rangeFitsLong, Bool.and_eq_true, Bool.or_eq_true, decide_eq_true_eq, beq_iff_eq, gt_iff_lt, h, if_true]
  by_cases z : j - i ≤ 0
  · have := b2 z
    omega
  · have := b3 (by omega)
    omega
theorem si_r3 {a b d : Ex} (ha : SE L k a) (hb : SE L k b) (hd : SE L k d) : SI L k (.r3 a b d) := by
  intro c X Y T E h tk g
  simp only [chkI] at g
  split at g
  · rename_i x q q2 q3 hq
    obtain ⟨p, p2, rfl⟩ := asCall_of hq
    simp only [Bool.and_eq_true, beq_iff_eq] at g
    obtain ⟨⟨g1, g2⟩, ⟨g3, g4, g5⟩, g6, g7, g8⟩ := g
    subst g2
    refine pi_weak (pi_range3 (glB_ok h g1).1 (h.blt "range" (by decide)) (pa_cons (ha c X Y q h tk g6).1 (pa_cons (hb c X Y q2 h tk g7).1 (pa_cons (hd c X Y q3 h tk g8).1 pa_nil (star_cons g5)) (star_cons g4)) (star_cons g3)) (star_cons g3) (star_none (by simp [g4, g5]))) fun σ H Q w => ?_
    obtain ⟨r, hs, s, m, en, p⟩ := w
    simp only [walk] at p
    refine rd_bind m en p fun d r1 H1 hs1 v x1 m1 e1 rv _ p1 => ?_
    refine rd_bind m1 e1 p1 fun d2 r2 H2 hs2 v2 x2 m2 e2 rv2 _ p2 => ?_
    refine rd_bind m2 e2 p2 fun d3 r3 H3 hs3 v3 x3 m3 e3 rv3 _ p3 => ?_
    obtain ⟨i, j, f, rfl, rfl, rfl, hj, p4⟩ := rng3_some p3
    cases rv; cases rv2; cases rv3
    exact ⟨i, j, f, _, rfl, rgC_of hj.1 hj.2.1 hj.2.2.1 hj.2.2.2, p4 r3 H3 _ (Ext.refl _ _) m3 (wk_rngC i f _)⟩
  · cases g
end
end Q

/-! expressions: things made, methods called -/
namespace Q
open PySem PySem.Spec PyProof.Rows L2
theorem zipF_none : ∀ {fs : List String} {vs : List V} {m : String}, (∀ f ∈ fs, f ≠ m) → (zipF fs vs).lookup (fN m) = none
  | [], _, _, _ => by simp [zipF]
  | _ :: _, [], _, _ => by simp [zipF]
  | f :: fs, v :: vs, m, h => by
    unfold zipF
    rw [List.lookup_cons]
    have e : (fN m == fN f) = false := by
      rw [beq_eq_false_iff_ne]
      intro e
      exact h f List.mem_cons_self (fN_inj e).symm
    rw [e]
    exact zipF_none fun g hg => h g (List.mem_cons_of_mem _ hg)
theorem flds_known (c : Cn) : ∀ f ∈ c.flds, fldKnown f = true := by
  cases c <;> simp [Cn.flds, fldKnown]
theorem fN_ne {a b : String} (h : a ≠ b) : (fN a = fN b) = False := by
  simp only [eq_iff_iff, iff_false]
  exact fun e => h (fN_inj e)
theorem putAll_zip (c : Cn) (us : List V) (h : us.length = c.flds.length) : putAllF c.flds us [] = zipF c.flds us := by
  cases c <;> simp only [Cn.flds] at h ⊢ <;> (first
    | (have e : us = [] := List.eq_nil_of_length_eq_zero h
       subst e; rfl)
    | (obtain ⟨v, rfl⟩ := List.length_eq_one_iff.mp h
       rfl)
    | (obtain ⟨v, w, rfl⟩ : ∃ v w, us = [v, w] := by
         match us, h with
         | [v, w], _ => exact ⟨v, w, rfl⟩
       simp [putAllF, putF, zipF, fN_ne]))
section
variable {L : Wl} {k : Nat}
/-- a thing is made of its values -/
def tmMk (C : Addr) (flds : List String) (vs : List V) (H : Hp) (Q : VK) : Prop := vs.length = flds.length ∧ ∀ x dx, H x = none → H dx = none → dx ≠ x → Q (.ref x) (upd (upd H dx (.own x)) x (.ins C dx (zipF flds vs)))
theorem run_mk {X : Cx} {c : Ck} {d : Cn} {pins : List (Addr × Obj)} {σ : L2.St} {H : Hp} {s : Shared} {Q : VK} {us : List Value} {vs : List V} (h : XOk L k c X) (hr : Room (k + 2) X.A) (hi : IniOk X.K (L.C d) d) (hc : d.isExc = false) (hh : L.has d = true)
    (I : Inv X pins σ H s) (r : Vals vs us) (t : tmMk (L.C d) d.flds vs H Q) : wpAny (model X.prog X.w) X.A (PySem.call (.ref (L.C d)) us) (EP X pins σ Q) X.xe s := by
  obtain ⟨hl, q⟩ := t
  rcases hi with ⟨e, M⟩ | ⟨a, fd, nm, qual, st, N, M, F, hf⟩
  · rw [e] at hl q
    have ev : vs = [] := List.eq_nil_of_length_eq_zero hl
    subst ev
    cases r
    exact run_make0 M I q
  · obtain ⟨F1, B1⟩ := init_fn (P := X.prog) (w := X.w) (mg := X.mg) (base := X.base) F hf 0
    refine run_makeS (E := fun _ _ _ _ => False) M F1 (hr.mono (by omega)) B1 (fun pins H s e s' I z => passL pins σ H s e s' I z) I r fun x dx n1 n2 n3 => ?_
    refine ⟨x, L.C d, dx, vs, rfl, hl, upd_same, (h.cls.own d hh hc).1, fun f hf => h.noat d f hh (flds_known d f hf), rfl, ?_⟩
    rw [upd_upd, putAll_zip d vs hl]
    exact q x dx n1 n2 n3
theorem se_mk (d : Cn) {es : Exs} (ih : SEs L k es) : SE L k (.mk d es) := by
  intro c X Y E h tk g
  simp only [chkE] at g
  split at g
  · rename_i q hq
    obtain ⟨p, p2, rfl⟩ := asCall_of hq
    obtain ⟨x, l⟩ := q
    simp only [Bool.and_eq_true, beq_iff_eq, Bool.not_eq_true', decide_eq_true_eq] at g
    obtain ⟨⟨⟨g1, g2, g3⟩, g4, g5⟩, g6, g7⟩ := g
    obtain ⟨hc, hr⟩ := calm_hd h (by simpa using g1)
    obtain ⟨k1, k2⟩ := glB_ok h g2
    obtain ⟨m1, m2, m3⟩ := h.cns x d g3
    obtain ⟨_, i2, _⟩ := h.ini _ d g4
    have hmk : ∀ (pins : List (Addr × Obj)) (s : Shared) (σ : L2.St) (H : Hp) (us : List Value) (vs : List V) (Q : VK), Inv X pins σ H s → Vals vs us → tmMk (L.C d) d.flds vs H Q → wpAny (model X.prog X.w) X.A (PySem.call (.ref (L.C d)) us) (EP X pins σ Q) X.xe s :=
      fun pins s σ H us vs Q I r t => run_mk h hr (i2 g5) g5 m1 I r t
    have fin : ∀ {σ : L2.St} {Q : VK} {r1 : List Addr} {H1 : Hp} {hs1 : Hs} {ds : List D} {vs : List V}, Mt (wdo X L) r1 H1 hs1 → Rvs (wdo X L) r1 H1 ds vs → ds.length = d.flds.length → Post (Rv (wdo X L)) (wdo X L) Y σ r1 H1 (mkO d ds hs1) Q → tmMk (L.C d) d.flds vs H1 Q := by
      intro σ Q r1 H1 hs1 ds vs m rv hl p
      have p' : Post (Rv (wdo X L)) (wdo X L) Y σ r1 H1 (if ds.length = d.flds.length ∧ d.isExc = false then (.ok (.obj d ds) hs1 : R D) else .bad) Q ∨ d = .Desk := by
        cases d <;> first | (exact .inr rfl) | (cases g5; done) | (exact .inl p)
      rcases p' with p' | rfl
      · rw [if_pos ⟨hl, g5⟩] at p'
        refine ⟨by rw [rv.length]; exact hl, fun x dx n1 n2 n3 => ?_⟩
        have nx : (upd H1 dx (.own x)) x = none := by rw [upd_ne (Ne.symm n3)]; exact n1
        have m2 := m.new n2 (.own x)
        have m3 := m2.new nx (.ins (L.C d) dx (zipF d.flds vs))
        have x2 := (ext_new (r := r1) n2 (.own x)).trans (ext_new (r := r1) nx (.ins (L.C d) dx (zipF d.flds vs)))
        exact p' r1 _ (.ref x) x2 m3 (.obj m1 g5 upd_same (m.notNew n1) hl (rv.mono x2))
      · cases ds with
        | nil => simp [Cn.flds] at hl
        | cons _ _ => exact p.elim
    cases l with
    | nil =>
      cases es with
      | cons e0 es0 => simp only [chkEs] at g6; cases g6
      | nil =>
        have e : PE X (.Call (.Name x p) [] [] p2) (rdE (wdo X L) Y (evE (clOf L k) (.mk d .nil))) := pe_weak (pe_mk0 (tm := fun σ vs H Q => tmMk (L.C d) d.flds vs H Q) k1 m2 m3 k2 hmk) fun σ H Q w => by
          obtain ⟨r, hs, s, m, en, p⟩ := w
          simp only [evE, evs, R.bind_ok] at p
          exact fin m .nil (by simpa using g7) p
        exact ⟨e, pt_of rfl rfl e⟩
    | cons y l =>
      have hst := (chkEs_len g6).2
      rw [List.all_cons, Bool.and_eq_true] at hst
      have e : PE X (.Call (.Name x p) (y :: l) [] p2) (rdE (wdo X L) Y (evE (clOf L k) (.mk d es))) := pe_weak (pe_mk (tm := fun σ vs H Q => tmMk (L.C d) d.flds vs H Q) k1 m2 m3 (ih c X Y (y :: l) h tk g6).1 k2 hmk (star_cons hst.1) (star_none hst.2)) fun σ H Q w => by
        obtain ⟨r, hs, s, m, en, p⟩ := w
        simp only [evE] at p
        refine rd_bind m en p fun ds r1 H1 hs1 vs x1 m1 e1 rv q p1 => ?_
        exact fin m1 rv (by rw [evs_len q, (chkEs_len g6).1]; exact g7) p1
      exact ⟨e, pt_of rfl rfl e⟩
  · cases g
theorem mthD_some {α : Type} {C : Cl} {m : String} {d : D} {g : String → Hs → R α} {h : Hs} {W : Wd} {Y : WX} {σ : L2.St} {r : List Addr} {H : Hp} {β : Type} {rel : List Addr → Hp → α → β → Prop} {Q : β → Hp → Prop} (p : Post rel W Y σ r H (mthD C m d g h) Q) :
    ∃ c ds f, d = .obj c ds ∧ C.T.meth c m = some f ∧ Post rel W Y σ r H (g f h) Q := by
  unfold mthD at p
  split at p
  · rename_i c ds
    split at p
    · rename_i f hf; exact ⟨c, ds, f, rfl, hf, p⟩
    · exact p.elim
  · exact p.elim
theorem se_mth (m : String) {a : Ex} {es : Exs} (ha : SE L k a) (ih : SEs L k es) : SE L k (.mth a m es) := by
  intro c X Y E h tk g
  simp only [chkE] at g
  split at g
  · rename_i q hq
    obtain ⟨p, p2, rfl, hln⟩ := asMeth_of hq
    obtain ⟨x, nm, l⟩ := q
    simp only [Bool.and_eq_true, beq_iff_eq, Bool.not_eq_true'] at g
    obtain ⟨⟨⟨g1, g2⟩, g3, g4⟩, g5, g6, g7⟩ := g
    subst g2
    obtain ⟨hc, hr⟩ := calm_hd h (by simpa using g1)
    have hx := (ha c X Y x h tk g5).1
    have hl := (ih c X Y l h tk g6).1
    have hst := (chkEs_len g6).2
    have at_ : ∀ {σ : L2.St} {Q : VK} {r1 : List Addr} {H1 : Hp} {hs1 : Hs} {d : Cn} {ds : List D} {f : String} {v : V} {t : TA}, Rv (wdo X L) r1 H1 (.obj d ds) v → (clOf L k).T.meth d m = some f →
        (t σ H1 fun vs H2 => spF (wdo X L) L.T f k (v :: vs) H2 Q (WE Y σ)) → MthAt X (L2.CX X.prog X.w) (k + 2) (fN m) t (WE Y) σ Q v H1 := by
      intro σ Q r1 H1 hs1 d ds f v t rv hm ht
      obtain ⟨⟨h1, h2⟩, a, fd, ps, M, F, B⟩ := h.mts d m f hm
      cases rv with
      | obj pr xx hh n ll e =>
        have zn : ∀ g ∈ d.flds, g ≠ m := fun g hg z => by
          have w := flds_known d g hg
          rw [z, g4] at w
          exact Bool.noConfusion w
        exact ⟨_, _, _, a, _, fd, ps, _, rfl, hh, zipF_none zn, (h.cls.own d h1 h2).1, M, F, B, ht⟩
      | exc0 pr xx => rw [h2] at xx; cases xx
      | exc1 pr xx => rw [h2] at xx; cases xx
    have e : PE X (.Call (.Attribute x (fN m) p) l [] p2) (rdE (wdo X L) Y (evE (clOf L k) (.mth a m es))) := by
      cases l with
      | nil =>
        cases es with
        | cons e0 es0 => simp only [chkEs] at g6; cases g6
        | nil =>
          refine pe_weak (pe_mth0 hx hr (passAt tk) (meth_tree (plainB_ok g3) hln (few_ok hst g7))) fun σ H Q w => ?_
          obtain ⟨r, hs, s, mm, en, p⟩ := w
          simp only [evE] at p
          refine rd_bind mm en p fun d r1 H1 hs1 v x1 m1 e1 rv _ p1 => ?_
          obtain ⟨cc, ds, f, rfl, hf, p1⟩ := mthD_some p1
          simp only [evs, R.bind_ok] at p1
          exact at_ (hs1 := hs1) rv hf ⟨r1, hs1, _, m1, .cons rv .nil, post_E p1⟩
      | cons y l =>
        have hst2 := hst
        rw [List.all_cons, Bool.and_eq_true] at hst2
        refine pe_weak (pe_mth hx hr (passAt tk) hl (star_cons hst2.1) (star_none hst2.2) (meth_tree (plainB_ok g3) hln (few_ok hst g7))) fun σ H Q w => ?_
        obtain ⟨r, hs, s, mm, en, p⟩ := w
        simp only [evE] at p
        refine rd_bind mm en p fun d r1 H1 hs1 v x1 m1 e1 rv _ p1 => ?_
        obtain ⟨cc, ds, f, rfl, hf, p1⟩ := mthD_some p1
        refine at_ (hs1 := hs1) rv hf ?_
        refine rd_bind m1 e1 p1 fun es2 r2 H2 hs2 vs x2 m2 e2 rvs _ p2 => ?_
        exact ⟨r2, hs2, _, m2, .cons (rv.mono x2) rvs, post_E p2⟩
    exact ⟨e, pt_of rfl rfl e⟩
  · cases g
/-! ### is True, is False -/
theorem bl_same {x : V} {v : Value} (r : L2.RelV x v) (b : Bool) : (v == Value.bool b) = decide (x = .bl b) := by
  cases x with
  | non => cases r; rfl
  | bl c => cases r; cases b <;> cases c <;> rfl
  | int _ => obtain ⟨t, rfl⟩ := r; rfl
  | str _ => obtain ⟨t, rfl⟩ := r; rfl
  | byt _ => obtain ⟨t, rfl⟩ := r; rfl
  | flt _ => obtain ⟨t, rfl⟩ := r; rfl
  | ref _ => cases r; rfl
  | ty _ => cases r; rfl
theorem is_bool {M : Model} {A : Around} {E : Value → Shared → Prop} {s : Shared} {Q : Value → Shared → Prop} {x : V} {v : Value} (r : L2.RelV x v) (b : Bool) (h : Q (.bool (v == .bool b)) s) : wpAny M A (compareOp .Is v (.bool b)) Q E s := by
  cases x with
  | non => cases r; exact wpAny_pure h
  | bl c => cases r; exact wpAny_pure h
  | int _ => obtain ⟨t, rfl⟩ := r; exact wpAny_pure h
  | str _ => obtain ⟨t, rfl⟩ := r; exact wpAny_pure h
  | byt _ => obtain ⟨t, rfl⟩ := r; exact wpAny_pure h
  | flt _ => obtain ⟨t, rfl⟩ := r; exact wpAny_pure h
  | ref _ => cases r; exact wpAny_pure h
  | ty _ => cases r; exact wpAny_pure h
theorem isnot_bool {M : Model} {A : Around} {E : Value → Shared → Prop} {s : Shared} {Q : Value → Shared → Prop} {x : V} {v : Value} (r : L2.RelV x v) (b : Bool) (h : Q (.bool (!(v == .bool b))) s) : wpAny M A (compareOp .IsNot v (.bool b)) Q E s := by
  cases x with
  | non => cases r; exact wpAny_pure h
  | bl c => cases r; exact wpAny_pure h
  | int _ => obtain ⟨t, rfl⟩ := r; exact wpAny_pure h
  | str _ => obtain ⟨t, rfl⟩ := r; exact wpAny_pure h
  | byt _ => obtain ⟨t, rfl⟩ := r; exact wpAny_pure h
  | flt _ => obtain ⟨t, rfl⟩ := r; exact wpAny_pure h
  | ref _ => cases r; exact wpAny_pure h
  | ty _ => cases r; exact wpAny_pure h
theorem pc_isB {X : Cx} {a : Expr} {ta : TE} {b : Bool} {j pos'} (ha : PE X a ta) : PC X .Is a (.Constant (.bool b) j pos') (fun σ H Q => ta σ H fun x H1 => Q (.bl (decide (x = .bl b))) H1) := by
  refine ⟨fun pins s σ H Q I h => ?_⟩
  refine thn (ha.run pins s σ H _ I h) fun v s1 ⟨x, H1, I1, r1, q1⟩ => ?_
  exact Constant_bool (is_bool r1 b ⟨.bl _, H1, I1, by rw [bl_same r1]; rfl, q1⟩)
theorem pc_notB {X : Cx} {a : Expr} {ta : TE} {b : Bool} {j pos'} (ha : PE X a ta) : PC X .IsNot a (.Constant (.bool b) j pos') (fun σ H Q => ta σ H fun x H1 => Q (.bl (!decide (x = .bl b))) H1) := by
  refine ⟨fun pins s σ H Q I h => ?_⟩
  refine thn (ha.run pins s σ H _ I h) fun v s1 ⟨x, H1, I1, r1, q1⟩ => ?_
  exact Constant_bool (isnot_bool r1 b ⟨.bl _, H1, I1, by rw [bl_same r1]; rfl, q1⟩)
theorem bl_iff {W : Wd} {r : List Addr} {H : Hp} {d : D} {v : V} (b : Bool) (x : Rv W r H d v) : decide (v = .bl b) = isBl b d := by
  cases x <;> first | rfl | (rename_i c; cases b <;> cases c <;> rfl)
theorem se_ist (b n : Bool) {a : Ex} (ha : SE L k a) : SE L k (.ist a b n) := by
  intro c X Y E h tk g
  simp only [chkE] at g
  split at g
  · rename_i q hq
    obtain ⟨p, rfl⟩ := asCmp1_of hq
    obtain ⟨oq, x, y⟩ := q
    simp only [Bool.and_eq_true, decide_eq_true_eq] at g
    obtain ⟨g1, g2, g3⟩ := g
    obtain ⟨j, p2, rfl⟩ := asConst_of g2
    subst g1
    have hx := (ha c X Y x h tk g3).1
    have w1 : ∀ (z : Bool) σ H Q, rdE (wdo X L) Y (evE (clOf L k) (.ist a b z)) σ H Q → rdE (wdo X L) Y (evE (clOf L k) a) σ H fun x H1 => Q (.bl (decide (x = .bl b) != z)) H1 := by
      intro z σ H Q w
      obtain ⟨r, hs, s, m, en, p⟩ := w
      simp only [evE] at p
      refine rd_bind m en p fun d r1 H1 hs1 v x1 m1 e1 rv _ p1 => ?_
      rw [bl_iff b rv]
      exact pd_ok p1 m1 (.bl _)
    have w2 : ∀ (z : Bool) σ H (Q : Bool → Hp → Prop), rdT (wdo X L) Y (evT (clOf L k) (.ist a b z)) σ H Q → rdE (wdo X L) Y (evE (clOf L k) a) σ H fun x H1 => Q (decide (x = .bl b) != z) H1 := by
      intro z σ H Q w
      obtain ⟨r, hs, s, m, en, p⟩ := w
      simp only [evT, evE, bind_assoc] at p
      refine rd_bind m en p fun d r1 H1 hs1 v x1 m1 e1 rv _ p1 => ?_
      rw [bl_iff b rv]
      exact p1 r1 H1 _ (Ext.refl _ _) m1 rfl
    cases n with
    | false =>
      refine ⟨pe_weak (pe_cmp (pc_isB hx)) fun σ H Q w => ?_, pt_weak (pt_cmp (pc_isB hx)) fun σ H Q w => ?_⟩
      · have := w1 false σ H Q w
        simpa using this
      · have := w2 false σ H Q w
        obtain ⟨r, hs, s, m, en, p⟩ := this
        refine ⟨r, hs, s, m, en, p.mono (Ext.refl _ _) fun v H z => ⟨_, rfl, by simpa using z⟩⟩
    | true =>
      refine ⟨pe_weak (pe_cmp (pc_notB hx)) fun σ H Q w => ?_, pt_weak (pt_cmp (pc_notB hx)) fun σ H Q w => ?_⟩
      · have := w1 true σ H Q w
        obtain ⟨r, hs, s, m, en, p⟩ := this
        refine ⟨r, hs, s, m, en, p.mono (Ext.refl _ _) fun v H z => by simpa using z⟩
      · have := w2 true σ H Q w
        obtain ⟨r, hs, s, m, en, p⟩ := this
        refine ⟨r, hs, s, m, en, p.mono (Ext.refl _ _) fun v H z => ⟨_, rfl, by simpa using z⟩⟩
  · cases g
end
end Q

/-! expressions: the theorem -/
namespace Q
open PySem PySem.Spec PyProof.Rows L2

section
variable {L : Wl} {k : Nat}
theorem si_enum {e : Ex} (he : SE L k e) : SI L k (.enum e) := by
  intro c X Y T E h tk g
  simp only [chkI] at g
  split at g
  · rename_i l x q hl hq
    obtain ⟨j, p0, rfl⟩ := asTup_of hl
    obtain ⟨p, p2, rfl⟩ := asCall_of hq
    simp only [Bool.and_eq_true, beq_iff_eq] at g
    obtain ⟨⟨g1, g2⟩, g3, g4⟩ := g
    subst g2
    refine pi_weak (pi_enumU (glB_ok h g1).1 (h.blt "enumerate" (by decide)) (pa_cons (he c X Y q h tk g4).1 pa_nil (star_cons g3)) (star_cons g3)) fun σ H Q w => ?_
    obtain ⟨r, hs, s, m, en, p⟩ := w
    simp only [walk] at p
    refine rd_bind m en p fun d r1 H1 hs1 v x1 m1 e1 rv _ p1 => ?_
    obtain ⟨w, hw, p3⟩ := walkOf_some (X := X) p1
    unfold enumOf at hw
    split at hw
    · rename_i n
      cases rv with | ref ha =>
      obtain ⟨w', hw', rfl⟩ := Option.map_eq_some_iff.mp hw
      obtain ⟨xs, _, h1, _⟩ := walk_ref hw'
      obtain ⟨us, f1, f2⟩ := list_now m1 ha h1
      exact .inl ⟨_, us, rfl, f1, p3 r1 H1 _ (Ext.refl _ _) m1 (wk_enum ha hw')⟩
    · cases rv with | tup t e =>
      cases hw
      exact .inr ⟨_, _, rfl, t.sq, p3 r1 H1 _ (Ext.refl _ _) m1 (wk_enumT t e)⟩
    · cases hw
  · cases g
theorem si_zip {a b : Ex} (ha : SE L k a) (hb : SE L k b) : SI L k (.zip a b) := by
  intro c X Y T E h tk g
  simp only [chkI] at g
  split at g
  · rename_i l x q q2 hl hq
    obtain ⟨j, p0, rfl⟩ := asTup_of hl
    obtain ⟨p, p2, rfl⟩ := asCall_of hq
    simp only [Bool.and_eq_true, beq_iff_eq] at g
    obtain ⟨⟨g1, g2⟩, ⟨g3, g4⟩, g5, g6⟩ := g
    subst g2
    refine pi_weak (RZ.pi_zipA (glB_ok h g1).1 (h.blt "zip" (by decide)) (pa_cons (ha c X Y q h tk g5).1 (pa_cons (hb c X Y q2 h tk g6).1 pa_nil (star_cons g4)) (star_cons g3)) (star_cons g3) (star_none (by simp [g4]))) fun σ H Q w => ?_
    obtain ⟨r, hs, s, m, en, p⟩ := w
    simp only [walk] at p
    refine rd_bind m en p fun d r1 H1 hs1 v x1 m1 e1 rv _ p1 => ?_
    refine rd_bind m1 e1 p1 fun d2 r2 H2 hs2 v2 x2 m2 e2 rv2 _ p3 => ?_
    obtain ⟨w, hw, p4⟩ := walkOf_some (X := X) p3
    unfold zipOf at hw
    split at hw
    · rename_i n n2
      cases rv with | ref ha =>
      cases rv2 with | ref ha2 =>
      split at hw
      · rename_i w1 w2 hw1 hw2
        cases hw
        obtain ⟨xs, _, h1, _⟩ := walk_ref hw1
        obtain ⟨us, f1, f2⟩ := list_now m2 (x2.at ha) h1
        obtain ⟨xs2, _, h12, _⟩ := walk_ref hw2
        obtain ⟨us2, f12, f22⟩ := list_now m2 ha2 h12
        exact ⟨_, _, us, us2, rfl, .inl ⟨f1, f12, p4 r2 H2 _ (Ext.refl _ _) m2 (wk_zip (x2.at ha) hw1 ha2 hw2)⟩⟩
      · cases hw
    · cases rv with | tup t es =>
      cases rv2 with | tup t2 es2 =>
      cases hw
      have t1 := t.mono x2
      exact ⟨_, _, _, _, rfl, .inr ⟨t1.sq, t2.sq, p4 r2 H2 _ (Ext.refl _ _) m2 (wk_zipT t1 (es.mono x2) t2 es2)⟩⟩
    · cases hw
  · cases g
theorem se_no {e : Ex} (h : ∀ c E, chkE c e E = false) : SE L k e := fun c X Y E _ _ g => by rw [h] at g; cases g
theorem si_no {e : It} (h : ∀ c T E, chkI c e T E = false) : SI L k e := fun c X Y T E _ _ g => by rw [h] at g; cases g
mutual
theorem sE : ∀ e : Ex, SE L k e
  | .v i => se_v i
  | .k d => se_k d
  | .g y => se_g y
  | .tup es => se_tup (sEs es)
  | .lst es => se_lst (sEs es)
  | .dic t es => se_dic t (sAll es)
  | .bin o a b => se_bin o (sE a) (sE b)
  | .neg a => se_neg (sE a)
  | .cmp o a b => se_cmp o (sE a) (sE b)
  | .chn o p a b d => se_chn o p (sE a) (sE b) (sE d)
  | .isn a n => se_isn n (sE a)
  | .ist a b n => se_ist b n (sE a)
  | .not a => se_not (sE a)
  | .and es => se_and (sEs es)
  | .or es => se_or (sEs es)
  | .orv a b => se_orv (sE a) (sE b)
  | .ite q a b => se_ite (sE q) (sE a) (sE b)
  | .sub a i => se_sub (sE a) (sE i)
  | .slc a lo hi => se_slc (sE a) (sO lo) (sO hi)
  | .fld a f => se_fld f (sE a)
  | .call f es => se_call f (sEs es)
  | .mk d es => se_mk d (sEs es)
  | .mth a m es => se_mth m (sE a) (sEs es)
  | .b f es => se_b f (sEs es) (sAll es)
  | .bm f a es => se_bm f (sE a) (sEs es)
  | .isi a ts => se_isi ts (sE a)
  | .gget y a => se_gget y (sE a)
  | .gin _ _ _ => se_no fun _ _ => by simp only [chkE]
  | .comp e tg it q own => se_comp (sE e) (sI it) (sC q)
  | .jst _ => se_no fun _ _ => by simp only [chkE]
theorem sEs : ∀ es : Exs, SEs L k es
  | .nil => ses_nil
  | .cons e es => ses_cons (sE e) (sEs es)
theorem sAll : ∀ es : Exs, AllE (SE L k) es
  | .nil => trivial
  | .cons e es => ⟨sE e, sAll es⟩
theorem sO : ∀ o : Eo, SO L k o
  | .none => so_none
  | .some e => so_some (sE e)
theorem sC : ∀ o : Eo, SC L k o
  | .none => sc_none
  | .some e => sc_some (sE e)
theorem sI : ∀ it : It, SI L k it
  | .sq e => si_sq (sE e)
  | .r1 a => si_r1 (sE a)
  | .r2 a b => si_r2 (sE a) (sE b)
  | .r3 a b c => si_r3 (sE a) (sE b) (sE c)
  | .enum e => si_enum (sE e)
  | .zip a b => si_zip (sE a) (sE b)
  | .items _ => si_no fun _ _ _ => by simp only [chkI]
end
end
end Q

/-! statements -/
namespace Q
open PySem PySem.Spec PyProof.Rows L2

/-- what is wanted behind my statement's end -/
def PostS (D : Ends) (W : Wd) (Y : WX) (r : List Addr) (H : Hp) (res : SR) : Prop := match res with
  | .nx s h => ∀ r' H' σ, Ext r H r' H' → Mt W r' H' h → EnvR W r' H' s σ → D.nx σ H'
  | .bk s h => ∀ r' H' σ, Ext r H r' H' → Mt W r' H' h → EnvR W r' H' s σ → D.bk σ H'
  | .ct s h => ∀ r' H' σ, Ext r H r' H' → Mt W r' H' h → EnvR W r' H' s σ → D.ct σ H'
  | .rt d h => ∀ r' H' v, Ext r H r' H' → Mt W r' H' h → Rv W r' H' d v → D.rt v H'
  | .exc c fs s h => ∀ r' H' σ cls dx, Ext r H r' H' → Mt W r' H' h → EnvR W r' H' s σ → ExR W r' H' c fs cls dx → Y cls dx σ H'
  | .bad => False
def rdS (W : Wd) (Y : WX) (f : Ev → Hs → SR) : TS := fun D σ H => ∃ r hs s, Mt W r H hs ∧ EnvR W r H s σ ∧ PostS D W Y r H (f s hs)
theorem PostS.mono {D : Ends} {W : Wd} {Y : WX} {r r' : List Addr} {H H' : Hp} {res : SR} (p : PostS D W Y r H res) (x : Ext r H r' H') : PostS D W Y r' H' res := by
  cases res with
  | nx s h => exact fun r2 H2 σ x2 => p r2 H2 σ (x.trans x2)
  | bk s h => exact fun r2 H2 σ x2 => p r2 H2 σ (x.trans x2)
  | ct s h => exact fun r2 H2 σ x2 => p r2 H2 σ (x.trans x2)
  | rt d h => exact fun r2 H2 v x2 => p r2 H2 v (x.trans x2)
  | exc c fs s h => exact fun r2 H2 σ cls dx x2 => p r2 H2 σ cls dx (x.trans x2)
  | bad => exact p
theorem ps_weak {X : Cx} {S : Stmt} {t t' : TS} (h : PS X S t) (w : ∀ D σ H, t' D σ H → t D σ H) : PS X S t' := ⟨fun pins s σ H D I q => h.run pins s σ H D I (w D σ H q)⟩
theorem pss_weak {X : Cx} {S : List Stmt} {t t' : TS} (h : PSs X S t) (w : ∀ D σ H, t' D σ H → t D σ H) : PSs X S t' := ⟨fun pins s σ H D I q => h.run pins s σ H D I (w D σ H q)⟩

/-- a def's frame -/
structure FOk (X : Cx) : Prop where
  st : X.stack = X.env :: X.outer
  fr : X.env.frame = some X.env.locals
  ex : X.ex = []
  pass : PassesOwn (model X.prog X.w) X.A X.env X.xe
def SS (L : Wl) (k : Nat) (s : Sm) : Prop := ∀ (c : Ck) (X : Cx) (Y : WX) (S : Stmt), XOk L k c X → (c.hot = false → FOk X) → Takes X Y → chkS c s S = true → PS X S (rdS (wdo X L) Y (exS (clOf L k) s))
def SB (L : Wl) (k : Nat) (s : Bl) : Prop := ∀ (c : Ck) (X : Cx) (Y : WX) (S : List Stmt), XOk L k c X → (c.hot = false → FOk X) → Takes X Y → chkB c s S = true → PSs X S (rdS (wdo X L) Y (exB (clOf L k) s))
def SH (L : Wl) (k : Nat) (hs : Hds) : Prop := ∀ (c : Ck) (X : Cx) (Y : WX) (S : List ExceptHandler), XOk L k c X → c.hot = false → FOk X → Takes X Y → chkH c hs S = true → ∃ l, ClOk X S l ∧
  ∀ D d fs s h r H, PostS D (wdo X L) Y r H (exH (clOf L k) hs d fs s h) → ∀ r' H' σ' cls dx, Ext r H r' H' → Mt (wdo X L) r' H' h → EnvR (wdo X L) r' H' s σ' → ExR (wdo X L) r' H' d fs cls dx → wCl X.K Y D l cls dx σ' H'

section
variable {X : Cx} {W : Wd} {Y : WX} {σ : L2.St} {r : List Addr} {H : Hp} {hs : Hs} {s : Ev} {D : Ends}
/-- an expression within a statement -/
theorem st_bind {α β : Type} {rel : List Addr → Hp → α → β → Prop} {f : Ev → Hs → R α} {g : α → Hs → SR} {K : β → Hp → Prop} (m : Mt W r H hs) (e : EnvR W r H s σ) (p : PostS D W Y r H ((f s hs).st s g))
    (k : ∀ d r1 H1 hs1 v, Ext r H r1 H1 → Mt W r1 H1 hs1 → EnvR W r1 H1 s σ → rel r1 H1 d v → f s hs = .ok d hs1 → PostS D W Y r1 H1 (g d hs1) → K v H1) : rd rel W Y f σ H K := by
  refine ⟨r, hs, s, m, e, ?_⟩
  cases q : f s hs with
  | ok d hs1 =>
    rw [q] at p
    exact fun r' H' v x m' rv => k d r' H' hs1 v x m' (e.mono x) rv q (PostS.mono p x)
  | exc c fs hs1 =>
    rw [q] at p
    exact fun r' H' cls dx x m' ex => p r' H' σ cls dx x m' (e.mono x) ex
  | bad =>
    rw [q] at p
    exact p
end

section
variable {L : Wl} {k : Nat}
theorem ss_pass : SS L k .pass := by
  intro c X Y S h hf tk g
  cases S <;> first | (cases g; done) | skip
  refine ps_weak ps_pass fun D σ H w => ?_
  obtain ⟨r, hs, s, m, en, p⟩ := w
  simp only [exS] at p
  exact p r H σ (Ext.refl _ _) m en
theorem ss_brk : SS L k .brk := by
  intro c X Y S h hf tk g
  cases S <;> first | (cases g; done) | skip
  refine ps_weak ps_break fun D σ H w => ?_
  obtain ⟨r, hs, s, m, en, p⟩ := w
  simp only [exS] at p
  exact p r H σ (Ext.refl _ _) m en
theorem ss_cnt : SS L k .cnt := by
  intro c X Y S h hf tk g
  cases S <;> first | (cases g; done) | skip
  refine ps_weak ps_continue fun D σ H w => ?_
  obtain ⟨r, hs, s, m, en, p⟩ := w
  simp only [exS] at p
  exact p r H σ (Ext.refl _ _) m en
theorem ss_set (i : Nat) (e : Ex) : SS L k (.set i e) := by
  intro c X Y S h hf tk g
  simp only [chkS] at g
  split at g
  · rename_i q hq
    obtain ⟨p, rfl⟩ := asAsg_of hq
    obtain ⟨t, v⟩ := q
    simp only at g
    split at g
    · rename_i x hx
      obtain ⟨p2, rfl⟩ := asName_of hx
      simp only [Bool.and_eq_true, Bool.or_eq_true, Bool.not_eq_true'] at g
      obtain ⟨⟨g1, g2⟩, g3, g4⟩ := g
      obtain ⟨l1, l2⟩ := locB_ok h g2
      have done_ : ∀ D σ H, rdS (wdo X L) Y (exS (clOf L k) (.set i e)) D σ H → tAsg (rdE (wdo X L) Y (evE (clOf L k) e)) (gName i) D σ H := by
        intro D σ H w
        obtain ⟨r, hs, s, m, en, p⟩ := w
        simp only [exS] at p
        refine st_bind m en p fun d r1 H1 hs1 v x m1 e1 rv _ p1 => ?_
        exact p1 r1 H1 _ (Ext.refl _ _) m1 (e1.set rv i)
      cases hl : isLc v with
      | false =>
        exact ps_weak (ps_set h.nd (atB_ok h g1) l1 (sE e c X Y v h tk g3).1 (swaps_no hl) l2) done_
      | true =>
        rw [hl] at g4
        rcases g4 with g4 | g4
        · cases g4
        · cases e <;> first | (cases g4; done) | skip
          rename_i e' tg it q own
          have g5 := g3
          simp only [chkE] at g3
          split at g3
          · rename_i rr hr
            obtain ⟨p3, rfl⟩ := asLc_of hr
            obtain ⟨elt, T, iter, ifs, sc⟩ := rr
            have sw : swapsWith (.ListComp elt [⟨T, iter, ifs, 0⟩] sc p3) (some (.Name x p2)) p.line X.env = pure (X.env.blockKind == .function && X.env.kindOf x == some .local && p2.line == p3.line && !(sc.names.any fun (n, k) => n == x && (k == .local || k == .cell))) := rfl
            cases hb : (X.env.blockKind == .function && X.env.kindOf x == some .local && p2.line == p3.line && !(sc.names.any fun (n, k) => n == x && (k == .local || k == .cell))) with
            | false =>
              rw [hb] at sw
              exact ps_weak (ps_set h.nd (atB_ok h g1) l1 (sE _ c X Y _ h tk g5).1 sw l2) done_
            | true =>
              rw [hb] at sw
              have hxl : X.env.scope.names.lookup x = some .local := by
                simp only [Bool.and_eq_true] at hb
                exact beq_iff_eq.mp hb.1.1.2
              obtain ⟨⟨hc, ht⟩, h1, h2, h3, h4, h5, h6⟩ := pe_comp (sE e') (sI it) (sC q) h tk g3
              have e0 := ps_setLc (spos := p) hc h.nd (atB_ok h g1) hxl sw h1 h2 h3 h4 h5 h6
              rw [own_snd] at e0
              refine ps_weak e0 fun D σ H w => ?_
              have w2 := done_ D σ H w
              exact comp_ok ht w2
          · cases g3
    · cases g
  · cases g
theorem setAll_zip : ∀ (s : Ev) (is : List Nat) (ds : List D), setAll s is ds = (is.zip ds).foldl (fun s p => s.set p.1 (some p.2)) s
  | s, [], _ => by simp [setAll]
  | s, _ :: _, [] => by simp [setAll]
  | s, i :: is, d :: ds => by simp only [setAll, List.zip_cons_cons, List.foldl_cons, setAll_zip]
theorem pg_or {X : Cx} {T : Expr} {a b : TG} (h : PG X T a) (h2 : PG X T b) : PG X T (fun v σ H Q => a v σ H Q ∨ b v σ H Q) := ⟨fun pins s σ H v u Q I r w => by
  rcases w with w | w
  · exact h.run pins s σ H v u Q I r w
  · exact h2.run pins s σ H v u Q I r w⟩
theorem fm_len {α β : Type} {f : α → Option β} : ∀ {l : List α}, (∃ a ∈ l, f a = none) → (l.filterMap f).length ≠ l.length
  | a :: l, h => by
    have le := List.length_filterMap_le f l
    cases e : f a with
    | none =>
      rw [List.filterMap_cons_none e, List.length_cons]; omega
    | some b =>
      rw [List.filterMap_cons_some e, List.length_cons, List.length_cons]
      obtain ⟨x, hx, ex⟩ := h
      rcases List.mem_cons.mp hx with rfl | hx
      · rw [e] at ex; cases ex
      · have := fm_len (f := f) ⟨x, hx, ex⟩; omega
theorem sw_cell {l vs : List Expr} {j j2 p2 p3} {env : Env} {x : Str} {px : Pos} (hx : Expr.Name x px ∈ l) (hk : env.kindOf x ≠ some .local) : swappedStores [.Tuple l j p2] (.Tuple vs j2 p3) env = pure none := by
  unfold swappedStores
  simp only [pure_bind]
  split
  · rfl
  · split
    · rfl
    · split
      · rfl
      · rename_i h
        exfalso
        simp only [Bool.or_eq_true, bne_iff_ne, ne_eq, not_or, Decidable.not_not] at h
        refine fm_len ?_ h.1
        exact ⟨_, hx, by simp [hk]⟩
theorem ss_setT (is : List Nat) (e : Ex) : SS L k (.setT is e) := by
  intro c X Y S h hf tk g
  simp only [chkS] at g
  split at g
  · rename_i q hq
    obtain ⟨p, rfl⟩ := asAsg_of hq
    obtain ⟨t, v⟩ := q
    simp only at g
    split at g
    · rename_i l hl
      obtain ⟨j, p2, rfl⟩ := asTup_of hl
      simp only [Bool.and_eq_true] at g
      obtain ⟨⟨g1, g2⟩, g3, g4⟩ := g
      obtain ⟨hc, _⟩ := calm_hd h g1
      obtain ⟨r1, r2, r3⟩ := namesB_ok h g2
      have hw : swappedStores [.Tuple l j p2] v X.env = pure none := by
        rcases (Bool.or_eq_true _ _).mp g4 with g4 | g4
        · cases v <;> first | (cases g4; done) | rfl
        · cases v <;> first | rfl | skip
          obtain ⟨e, he, ge⟩ := List.any_eq_true.mp g4
          cases e <;> first | (cases ge; done) | skip
          refine sw_cell he ?_
          simp only [bne_iff_ne, ne_eq] at ge
          show X.env.scope.names.lookup _ ≠ _
          rw [h.sc]; exact ge
      have hs : swapsWithSole [.Tuple l j p2] v p.line X.env = pure false := by cases v <;> rfl
      refine ps_weak (ps_asg (sE e c X Y v h tk g3).1 (pg_or (pg_tup (k := j) (pos := p2) hc r1 r2 r3) (pg_lst (k := j) (pos := p2) hc r1 r2 r3)) hs hw) fun D σ H w => ?_
      obtain ⟨r, hs, s, m, en, p⟩ := w
      simp only [exS] at p
      refine st_bind m en p fun d r1 H1 hs1 v x m1 e1 rv _ p1 => ?_
      unfold setTR unp at p1
      split at p1
      · rename_i ds hds
        split at hds
        · rename_i ds' hi
          split at hds
          · rename_i hlen
            cases hds
            obtain ⟨a, us, rfl, hq, es⟩ := items_at m1 rv hi
            have fin : tgG.gNames is us σ H1 D.nx := gNames_ok (P := fun _ => True) hlen.symm es e1 trivial (fun _ _ _ _ _ => trivial) fun σ' e2 _ => p1 r1 H1 σ' (Ext.refl _ _) m1 (by rw [setAll_zip]; exact e2)
            rcases hq with hq | hq
            · exact .inr ⟨a, us, rfl, hq, by rw [es.length, hlen], fin⟩
            · exact .inl ⟨a, us, rfl, hq, by rw [es.length, hlen], fin⟩
          · cases hds
        · cases hds
      · exact False.elim p1
    · cases g
  · cases g
theorem ss_setI (o i e : Ex) : SS L k (.setI o i e) := by
  intro c X Y S h hf tk g
  simp only [chkS] at g
  split at g
  · rename_i q hq
    obtain ⟨p, rfl⟩ := asAsg_of hq
    obtain ⟨t, v⟩ := q
    simp only at g
    split at g
    · rename_i q2 hq2
      obtain ⟨p2, rfl⟩ := asSub_of hq2
      obtain ⟨to, ti⟩ := q2
      simp only [Bool.and_eq_true] at g
      obtain ⟨g1, g2, g3, g4⟩ := g
      have hu : X.A.units + 1 < cLine := by have := h.un; omega
      have hw : swappedStores [.Subscript to ti p2] v X.env = pure none := by cases v <;> rfl
      have hs : swapsWithSole [.Subscript to ti p2] v p.line X.env = pure false := by cases v <;> rfl
      refine ps_weak (ps_asg (sE e c X Y v h tk g4).1 (pg_sub (pos := p2) (sE o c X Y to h tk g2).1 (sE i c X Y ti h tk g3).1 (set_U hu) (by
        intro v
        cases ti <;> first | (cases g1; done) | rfl)) hs hw) fun D σ H w => ?_
      obtain ⟨r, hs, s, m, en, p⟩ := w
      simp only [exS] at p
      refine st_bind m en p fun d r1 H1 hs1 v x m1 e1 rv _ p1 => ?_
      refine st_bind m1 e1 p1 fun d2 r2 H2 hs2 v2 x2 m2 e2 rv2 _ p2 => ?_
      refine st_bind m2 e2 p2 fun d3 r3 H3 hs3 v3 x3 m3 e3 rv3 _ p3 => ?_
      unfold setIR at p3
      split at p3
      · rename_i hs4 h4
        exact q_set m3 (rv2.mono x3) rv3 (rv.mono (x2.trans x3)) h4 fun H' x4 m4 => p3 r3 H' σ x4 m4 (e3.mono x4)
      · exact False.elim p3
    · cases g
  · cases g
theorem ss_ex (e : Ex) : SS L k (.ex e) := by
  intro c X Y S h hf tk g
  simp only [chkS] at g
  split at g
  · rename_i x hx
    obtain ⟨p, rfl⟩ := asExpr_of hx
    simp only [Bool.and_eq_true, Bool.not_eq_true'] at g
    refine ps_weak (ps_expr (sE e c X Y x h tk g.2).1 (swaps_no g.1)) fun D σ H w => ?_
    obtain ⟨r, hs, s, m, en, p⟩ := w
    simp only [exS] at p
    refine st_bind m en p fun d r1 H1 hs1 v x m1 e1 rv _ p1 => ?_
    exact p1 r1 H1 σ (Ext.refl _ _) m1 e1
  · cases g
theorem ss_ret (e : Ex) : SS L k (.ret e) := by
  intro c X Y S h hf tk g
  simp only [chkS] at g
  split at g
  · rename_i x hx
    obtain ⟨p, rfl⟩ := asRet_of hx
    refine ps_weak (ps_ret (sE e c X Y x h tk g).1) fun D σ H w => ?_
    obtain ⟨r, hs, s, m, en, p⟩ := w
    simp only [exS] at p
    refine st_bind m en p fun d r1 H1 hs1 v x m1 e1 rv _ p1 => ?_
    exact p1 r1 H1 v (Ext.refl _ _) m1 rv
  · cases g
theorem ss_retN : SS L k .retN := by
  intro c X Y S h hf tk g
  simp only [chkS] at g
  split at g
  · rename_i hx
    obtain ⟨p, rfl⟩ := asRet_of hx
    refine ps_weak ps_retN fun D σ H w => ?_
    obtain ⟨r, hs, s, m, en, p⟩ := w
    simp only [exS] at p
    exact p r H _ (Ext.refl _ _) m .non
  · cases g
theorem ss_ite (q : Ex) {a b : Bl} (ha : SB L k a) (hb : SB L k b) : SS L k (.ite q a b) := by
  intro c X Y S h hf tk g
  simp only [chkS] at g
  split at g
  · rename_i x hx
    obtain ⟨p, rfl⟩ := asIfS_of hx
    simp only [Bool.and_eq_true] at g
    obtain ⟨g1, g2, g3⟩ := g
    refine ps_weak (ps_if (sE q c X Y _ h tk g1).2 (ha c X Y _ h hf tk g2) (hb c X Y _ h hf tk g3)) fun D σ H w => ?_
    obtain ⟨r, hs, s, m, en, p⟩ := w
    simp only [exS] at p
    refine st_bind m en p fun t r1 H1 hs1 t' x m1 e1 rv _ p1 => ?_
    subst rv
    cases t with
    | true => exact ⟨r1, hs1, s, m1, e1, p1⟩
    | false => exact ⟨r1, hs1, s, m1, e1, p1⟩
  · cases g
theorem sb_nil : SB L k .nil := by
  intro c X Y S h hf tk g
  simp only [chkB, List.isEmpty_iff] at g
  subst g
  refine pss_weak pss_nil fun D σ H w => ?_
  obtain ⟨r, hs, s, m, en, p⟩ := w
  simp only [exB] at p
  exact p r H σ (Ext.refl _ _) m en
theorem sb_cons {x : Sm} {b : Bl} (hx : SS L k x) (hb : SB L k b) : SB L k (.cons x b) := by
  intro c X Y S h hf tk g
  cases S with
  | nil => cases g
  | cons y t =>
    simp only [chkB, Bool.and_eq_true] at g
    refine pss_weak (pss_cons (hx c X Y y h hf tk g.1) (hb c X Y t h hf tk g.2)) fun D σ H w => ?_
    obtain ⟨r, hs, s, m, en, p⟩ := w
    simp only [exB] at p
    refine ⟨r, hs, s, m, en, ?_⟩
    cases q : exS (clOf L k) x s hs with
    | nx s2 h2 =>
      rw [q] at p
      exact fun r' H' σ' x' m' e' => ⟨r', h2, s2, m', e', PostS.mono p x'⟩
    | rt d h2 => rw [q] at p; exact p
    | bk s2 h2 => rw [q] at p; exact p
    | ct s2 h2 => rw [q] at p; exact p
    | exc d fs s2 h2 => rw [q] at p; exact p
    | bad => rw [q] at p; exact p
end
end Q

/-! statements, further ones -/
namespace Q
open PySem PySem.Spec PyProof.Rows L2
section
variable {L : Wl} {k : Nat}
theorem swap_par {env : Env} {x y : Str} {px py pt pt2 : Pos} {kt k2} {a b : Expr} (hk : env.scope.kind = .function) (hx : env.kindOf x = some .local) (hy : env.kindOf y = some .local) (hl : (px.line == py.line) = true) (ha : noStar a = true) (hb : noStar b = true)
    (hf : [a, b].all (foldedForSure 8) = false) (hc : [a, b].all (constantsAlone 8) = false) (hxy : (x == y) = false) : swappedStores [.Tuple [.Name x px, .Name y py] kt pt] (.Tuple [a, b] k2 pt2) env = pure (some [x, y]) := by
  have bk : env.blockKind = .function := by
    unfold Env.blockKind
    rw [hk]
    rfl
  have st : ∀ f : Expr → Bool, (∀ e, noStar e = true → f e = false) → [a, b].any f = false := by
    intro f h
    simp only [List.any_cons, List.any_nil, Bool.or_false, h a ha, h b hb, Bool.or_self]
  have l2 : (py.line == px.line) = true := by rw [beq_iff_eq] at hl ⊢; exact hl.symm
  have fm : ∀ f : Expr → Option Str, f (.Name x px) = some x → f (.Name y py) = some y → [Expr.Name x px, .Name y py].filterMap f = [x, y] := by
    intro f h1 h2
    simp only [List.filterMap_cons, List.filterMap_nil, h1, h2]
  have ed : [x, y].eraseDups = [x, y] := by
    have : (y == x) = false := by rw [beq_eq_false_iff_ne] at hxy ⊢; exact Ne.symm hxy
    simp [List.eraseDups_cons, this]
  unfold swappedStores
  simp only [List.length_cons, List.length_nil, bk, List.head?_cons, Option.map_some, Option.getD_some, Expr.pos, hf, hc]
  rw [st _ (fun e h => by cases e <;> first | (cases h; done) | rfl), fm _ (if_pos (by rw [hx]; simp)) (if_pos (by rw [hy, l2]; simp)), ed]
  rfl
theorem parB_of {c : Ck} {i j : Nat} {T V : Expr} {q : Expr × Expr} (h : parB c i j T V = some q) : ∃ x y px py k1 p1 k2 p2, T = .Tuple [.Name x px, .Name y py] k1 p1 ∧ V = .Tuple [q.1, q.2] k2 p2 ∧
    (atB c i x = true ∧ atB c j y = true ∧ i ≠ j) ∧ (c.sc.names.lookup x = some .local ∧ c.sc.names.lookup y = some .local ∧ (px.line == py.line) = true) ∧ (noStar q.1 = true ∧ noStar q.2 = true) ∧ c.sc.kind = .function ∧
    [q.1, q.2].all (foldedForSure 8) = false ∧ [q.1, q.2].all (constantsAlone 8) = false ∧ (x == y) = false := by
  unfold parB at h
  split at h
  · rename_i x px y py k1 p1 a b k2 p2
    split at h
    · rename_i hc
      cases h
      simp only [Bool.and_eq_true, decide_eq_true_eq, Bool.not_eq_true', beq_iff_eq] at hc
      obtain ⟨h1, h2, h3, h4, h5, h6, h7⟩ := hc
      exact ⟨x, y, px, py, k1, p1, k2, p2, rfl, rfl, h1, ⟨h2.1, h2.2.1, by rw [beq_iff_eq]; exact h2.2.2⟩, h3, h4, h5, h6, h7⟩
    · cases h
  · cases h
theorem ss_par (i j : Nat) (a b : Ex) : SS L k (.par i j a b) := by
  intro c X Y S h hf tk g
  simp only [chkS] at g
  split at g
  · rename_i q hq
    obtain ⟨p, rfl⟩ := asAsg_of hq
    obtain ⟨t, v⟩ := q
    simp only at g
    split at g
    · rename_i q2 hq2
      obtain ⟨x, y, px, py, k1, p1, k2, p2, e1, e2, ⟨h1, h2, h3⟩, ⟨h4, h5, h6⟩, ⟨h7, h8⟩, h9, h10, h11, h12⟩ := parB_of hq2
      subst e1 e2
      simp only [Bool.and_eq_true] at g
      obtain ⟨g1, g2, g3⟩ := g
      obtain ⟨hc, _⟩ := calm_hd h g1
      have kx : X.env.kindOf x = some .local := by unfold Env.kindOf; rw [h.sc]; exact h4
      have ky : X.env.kindOf y = some .local := by unfold Env.kindOf; rw [h.sc]; exact h5
      have hw := swap_par (env := X.env) (pt := p1) (pt2 := p2) (kt := k1) (k2 := k2) (by rw [h.sc]; exact h9) kx ky h6 h7 h8 h10 h11 h12
      refine ps_weak (ps_par hc h.nd (atB_ok h h1) (atB_ok h h2) h3 kx ky (pa_cons (sE a c X Y q2.1 h tk g2).1 (pa_cons (sE b c X Y q2.2 h tk g3).1 pa_nil (star_cons h8)) (star_cons h7)) hw rfl) fun D σ H w => ?_
      obtain ⟨r, hs, s, m, en, p⟩ := w
      simp only [exS] at p
      refine st_bind m en p fun d r1 H1 hs1 v x m1 e1 rv _ p1 => ?_
      refine st_bind m1 e1 p1 fun d2 r2 H2 hs2 v2 x2 m2 e2 rv2 _ p2 => ?_
      exact ⟨v, v2, rfl, p2 r2 H2 _ (Ext.refl _ _) m2 ((e2.set (rv.mono x2) i).set rv2 j)⟩
    · cases g
  · cases g

/-! ### while -/
theorem whU_some {c : Ev → Hs → R Bool} {b : Ev → Hs → SR} {s : Ev} {h : Hs} (e : whU c b s h ≠ .bad) : ∃ n, whI c b n s h = some (whU c b s h) := by
  unfold whU at e ⊢
  split at e
  · rename_i H
    exact ⟨H.choose, by rw [dif_pos H]; exact H.choose_spec.choose_spec⟩
  · exact absurd rfl e
theorem PostS.nb {D : Ends} {W : Wd} {Y : WX} {r : List Addr} {H : Hp} {res : SR} (p : PostS D W Y r H res) : res ≠ .bad := fun e => by rw [e] at p; exact p
theorem ss_whl (q : Ex) {a : Bl} (ha : SB L k a) : SS L k (.whl q a) := by
  intro c X Y S h hf tk g
  simp only [chkS] at g
  split at g
  · rename_i x hx
    obtain ⟨p, rfl⟩ := asWhl_of hx
    simp only [Bool.and_eq_true, Bool.not_eq_true'] at g
    obtain ⟨g1, g2, g3⟩ := g
    refine ps_weak (ps_while (hf g1).pass (sE q c X Y _ h tk g2).2 (ha c X Y _ h hf tk g3)) fun D σ H w => ?_
    obtain ⟨r, hs, s, m, en, p⟩ := w
    simp only [exS] at p
    obtain ⟨n, hn⟩ := whU_some p.nb
    generalize whU (fun s h => evT (clOf L k) q s h) (fun s h => exB (clOf L k) a s h) s hs = res at p hn
    refine ⟨fun n σ H => ∃ r hs s res, Mt (wdo X L) r H hs ∧ EnvR (wdo X L) r H s σ ∧ whI (fun s h => evT (clOf L k) q s h) (fun s h => exB (clOf L k) a s h) n s hs = some res ∧ PostS D (wdo X L) Y r H res, ⟨n, r, hs, s, res, m, en, hn, p⟩, ?_⟩
    rintro n σ H ⟨r, hs, s, res, m, en, hn, p⟩
    cases n with
    | zero => cases hn
    | succ n =>
      unfold whI at hn
      refine ⟨r, hs, s, m, en, ?_⟩
      cases q1 : evT (clOf L k) q s hs with
      | ok t h1 =>
        rw [q1] at hn
        intro r1 H1 t' x1 m1 et
        subst et
        cases t with
        | false =>
          simp only at hn
          cases hn
          exact p r1 H1 σ x1 m1 (en.mono x1)
        | true =>
          simp only at hn
          simp only [if_true]
          refine ⟨fun σ' H' => ∃ m', m' < n + 1 ∧ _, fun σ' H' z => z, r1, h1, s, m1, en.mono x1, ?_⟩
          cases q2 : exB (clOf L k) a s h1 with
          | nx s2 h2 =>
            rw [q2] at hn
            exact fun r2 H2 σ2 x2 m2 e2 => ⟨n, Nat.lt_succ_self n, r2, h2, s2, res, m2, e2, hn, PostS.mono p (x1.trans x2)⟩
          | ct s2 h2 =>
            rw [q2] at hn
            exact fun r2 H2 σ2 x2 m2 e2 => ⟨n, Nat.lt_succ_self n, r2, h2, s2, res, m2, e2, hn, PostS.mono p (x1.trans x2)⟩
          | bk s2 h2 =>
            rw [q2] at hn
            cases hn
            exact fun r2 H2 σ2 x2 m2 e2 => p r2 H2 σ2 (x1.trans x2) m2 e2
          | rt d h2 =>
            rw [q2] at hn
            cases hn
            exact fun r2 H2 v x2 m2 e2 => p r2 H2 v (x1.trans x2) m2 e2
          | exc d fs s2 h2 =>
            rw [q2] at hn
            cases hn
            exact fun r2 H2 σ2 cls dx x2 => p r2 H2 σ2 cls dx (x1.trans x2)
          | bad =>
            rw [q2] at hn
            cases hn
            exact p
      | exc d fs h1 =>
        rw [q1] at hn
        cases hn
        exact fun r2 H2 cls dx x2 m2 ex => p r2 H2 σ cls dx x2 m2 (en.mono x2) ex
      | bad =>
        rw [q1] at hn
        cases hn
        exact p
  · cases g

/-! ### for -/
theorem ss_for (tg : Tg) (it : It) {a : Bl} (ha : SB L k a) : SS L k (.for tg it a) := by
  intro c X Y S h hf tk g
  simp only [chkS] at g
  split at g
  · rename_i x hx
    obtain ⟨p, rfl⟩ := asFor_of hx
    simp only [Bool.and_eq_true, Bool.not_eq_true'] at g
    obtain ⟨⟨g1, g2⟩, g3, g4, g5⟩ := g
    obtain ⟨hc, _⟩ := h.calm g1
    refine ps_weak (ps_for (hf g1).pass hc (sI it c X Y _ _ h tk g3) (tgB_ok h hc g4) (ha c X Y _ h hf tk g5) (folded_ok g2)) fun D σ H w => ?_
    obtain ⟨r, hs, s, m, en, p⟩ := w
    simp only [exS] at p
    refine st_bind m en p fun w r1 H1 hs1 J x1 m1 e1 wk _ p1 => ?_
    generalize hG : forG tg (fun s h => exB (clOf L k) a s h) = G at p1
    refine ⟨fun i n σ H => ∃ r hs s, Ext r1 H1 r H ∧ Mt (wdo X L) r H hs ∧ EnvR (wdo X L) r H s σ ∧ PostS D (wdo X L) Y r H (forL w.ok G (w.items.drop i) s hs) ∧ n + i = w.items.length,
      ⟨w.items.length, r1, hs1, s, Ext.refl _ _, m1, e1, by simpa using p1, rfl⟩, ?_⟩
    rintro i n σ2 H2 ⟨r2, hs2, s2, x2, m2, e2, p2, hn⟩
    by_cases hil : i < w.items.length
    · refine .inr ?_
      rw [List.drop_eq_getElem_cons hil] at p2
      unfold forL at p2
      split at p2
      · rename_i hok
        obtain ⟨wk1, wk2, wk3⟩ := wk r2 H2 hs2 x2 m2 hok
        refine ⟨wk1 i hil, fun σ' H' => ∃ m', m' < n ∧ _, fun σ' H' z => z, fun xv H3 hy => ?_⟩
        obtain ⟨r3, x3, m3, rv⟩ := wk3 i xv H3 hy _ (List.getElem?_eq_getElem hil)
        rw [← hG] at p2
        unfold forG at p2
        cases hs3 : asg tg w.items[i] s2 with
        | none => rw [hs3] at p2; exact False.elim p2
        | some s3 =>
          rw [hs3] at p2
          refine asg_ok (P := fun _ => True) hs3 rv (e2.mono x3) trivial (fun _ _ _ _ _ => trivial) fun σ3 e3 _ => ⟨r3, hs2, s3, m3, e3, ?_⟩
          simp only at p2
          have x13 := x2.trans x3
          cases q2 : exB (clOf L k) a s3 hs2 with
          | nx s4 h4 =>
            rw [q2] at p2
            exact fun r4 H4 σ4 x4 m4 e4 => ⟨n - 1, by omega, r4, h4, s4, x13.trans x4, m4, e4, hG ▸ PostS.mono p2 (x3.trans x4), by omega⟩
          | ct s4 h4 =>
            rw [q2] at p2
            exact fun r4 H4 σ4 x4 m4 e4 => ⟨n - 1, by omega, r4, h4, s4, x13.trans x4, m4, e4, hG ▸ PostS.mono p2 (x3.trans x4), by omega⟩
          | bk s4 h4 =>
            rw [q2] at p2
            exact fun r4 H4 σ4 x4 m4 e4 => p2 r4 H4 σ4 (x3.trans x4) m4 e4
          | rt d h4 =>
            rw [q2] at p2
            exact fun r4 H4 v x4 m4 e4 => p2 r4 H4 v (x3.trans x4) m4 e4
          | exc d fs s4 h4 =>
            rw [q2] at p2
            exact fun r4 H4 σ4 cls dx x4 => p2 r4 H4 σ4 cls dx (x3.trans x4)
          | bad => rw [q2] at p2; exact p2
      · exact False.elim p2
    · refine .inl ?_
      rw [List.drop_eq_nil_of_le (by omega)] at p2
      unfold forL at p2
      split at p2
      · rename_i hok
        exact ⟨(wk r2 H2 hs2 x2 m2 hok).2.1 i (by omega), p2 r2 H2 σ2 (Ext.refl _ _) m2 e2⟩
      · exact False.elim p2
  · cases g
end
end Q

/-! raise, try; the theorem -/
namespace Q
open PySem PySem.Spec PyProof.Rows L2
section
variable {L : Wl} {k : Nat}
theorem plain_facts {d : Cn} (h : d.plainExc = true) : d.isExc = true ∧ d.flds = [] := by
  cases d <;> first | (cases h; done) | exact ⟨rfl, rfl⟩
/-- an exception's fields, the last one first -/
theorem lk_zip (d : Cn) (vs : List V) (h : vs.length = d.flds.length) : LkAll d.flds vs ((d.flds.map fN).zip vs).reverse := by
  cases d <;> simp only [Cn.flds] at h ⊢ <;> (first
    | (have e : vs = [] := List.eq_nil_of_length_eq_zero h
       subst e; trivial)
    | (obtain ⟨v, rfl⟩ := List.length_eq_one_iff.mp h
       simp [LkAll])
    | (obtain ⟨v, w, rfl⟩ : ∃ v w, vs = [v, w] := by
         match vs, h with
         | [v, w], _ => exact ⟨v, w, rfl⟩
       simp only [LkAll, List.map_cons, List.map_nil, List.zip_cons_cons, List.zip_nil_right, List.reverse_cons, List.reverse_nil, List.nil_append, List.cons_append, List.lookup_cons]
       refine ⟨?_, ?_, trivial⟩
       · rw [show (fN _ == fN _) = false from by rw [beq_eq_false_iff_ne]; exact fun e => absurd (fN_inj e) (by decide)]
         simp
       · simp))
theorem own_end {K : PySem.W.Frag} {C a : Addr} {flds : List String} {vs : List V} {H1 : Hp} {Q : XK} (T : OexC K C) (hl : vs.length = flds.length) (hn : ∀ f ∈ flds, PySem.W.findIn K (.ref C) (fN f) = some none)
    (q : ∀ dx, H1 dx = none → Q (.ref C) (some dx) (upd H1 dx (.xd ((flds.map fN).zip vs).reverse))) (na : H1 a = none) :
    spX K flds (.ref a :: (vs ++ [])) (upd H1 a (exo a C none)) (fun v H2 => v = .non ∧ ∃ (d : Addr) (fs : List (Str × V)), H2 a = some (exo a C (some d)) ∧ H2 d = some (exd d fs) ∧ H1 d = none ∧ Q (.ref C) (some d) (upd (del H2 a) d (.xd fs))) (fun _ _ _ => False) := by
  refine ⟨a, C, vs, by rw [List.append_nil], hl, upd_same, T, hn, fun dx n1 n2 => ?_⟩
  have n3 : H1 dx = none := by rw [upd_ne n2] at n1; exact n1
  refine ⟨rfl, dx, ((flds.map fN).zip vs).reverse, by rw [upd_ne (Ne.symm n2), upd_same], upd_same, n3, ?_⟩
  have eu : upd (del (upd (upd (upd H1 a (exo a C none)) a (exo a C (some dx))) dx (exd dx ((flds.map fN).zip vs).reverse)) a) dx (.xd ((flds.map fN).zip vs).reverse) = upd H1 dx (.xd ((flds.map fN).zip vs).reverse) := by
    funext b
    by_cases hb : b = dx
    · rw [hb, upd_same, upd_same]
    · rw [upd_ne hb, upd_ne hb]
      by_cases hb2 : b = a
      · rw [hb2, del_same, na]
      · rw [del_ne hb2, upd_ne hb, upd_ne hb2, upd_ne hb2]
  rw [eu]
  exact q dx n3
theorem ss_raise (d : Cn) (es : Exs) : SS L k (.raise d es) := by
  intro c X Y S h hf tk g
  simp only [chkS] at g
  split at g
  · rename_i e he
    obtain ⟨p, rfl⟩ := asRaise_of he
    split at g
    · rename_i q hq
      obtain ⟨p1, p2, rfl⟩ := asCall_of hq
      obtain ⟨x, l⟩ := q
      simp only [Bool.and_eq_true, beq_iff_eq, decide_eq_true_eq] at g
      obtain ⟨⟨⟨g1, g2⟩, g3, g4⟩, g5, g6, g7⟩ := g
      obtain ⟨hc, hr⟩ := calm_hd h g1
      obtain ⟨k1, k2⟩ := glB_ok h g3
      obtain ⟨m1, m2, m3⟩ := h.cns x d g4
      cases gp : d.plainExc with
      | false =>
        rw [gp, Bool.false_or] at g2
        simp only [Bool.and_eq_true, beq_iff_eq] at g2
        obtain ⟨f1, f2, f3⟩ := g2
        obtain ⟨_, _, i3⟩ := h.ini _ d f2
        obtain ⟨ai, fd, nm, qual, st, N, T, j1, j2, F, hf, hS⟩ := i3 f1
        obtain ⟨F1, B1⟩ := initx_fn (P := X.prog) (w := X.w) (base := X.base) F hf 0 hS
        cases l with
        | nil => cases g6
        | cons y l =>
          have hst := (chkEs_len g5).2
          rw [List.all_cons, Bool.and_eq_true] at hst
          refine ps_weak (ps_raise hc tk (pmk_oex (dvs := []) (ds := []) T j1 j2 F1 (hr.mono (by omega)) B1 .nil passL k1 m2 (sEs es c X Y (y :: l) h tk g5).1 k2 (star_cons hst.1) (star_none hst.2))) fun D σ H w => ?_
          obtain ⟨r, hs, s, m, en, p⟩ := w
          simp only [exS] at p
          refine st_bind m en p fun ds r1 H1 hs1 vs x1 m1' e1 rv q p1 => ?_
          unfold raiseR excO at p1
          rw [gp, if_neg (by decide)] at p1
          split at p1
          · rename_i fs hfs
            split at hfs
            · rename_i hl
              cases hfs
              have hlv : vs.length = d.flds.length := by rw [rv.length]; exact hl.2
              refine ⟨by rw [rv.length, evs_len q, (chkEs_len g5).1]; exact g7, fun a na => own_end (Q := fun cls d H' => Y cls d σ H') T hlv (fun f hf => h.noat d f m1 (flds_known d f hf)) (fun dx n1 => ?_) na⟩
              have m2' := m1'.new n1 (.xd ((d.flds.map fN).zip vs).reverse)
              have x2 := ext_new (r := r1) n1 (.xd ((d.flds.map fN).zip vs).reverse)
              exact p1 r1 _ σ _ (some dx) x2 m2' (e1.mono x2) ⟨⟨f1, m1⟩, rfl, .inr ⟨dx, _, vs, rfl, upd_same, m1'.notNew n1, rv.mono x2, lk_zip d vs hlv, hl.2⟩⟩
            · cases hfs
          · exact False.elim p1
      | true =>
      obtain ⟨bmB, B, newId, initId, F, q1, q2⟩ := h.pex d m1 gp
      obtain ⟨f1, f2⟩ := plain_facts gp
      have g2 := gp
      cases l with
      | nil => cases g6
      | cons y l =>
        have hst := (chkEs_len g5).2
        rw [List.all_cons, Bool.and_eq_true] at hst
        refine ps_weak (ps_raise hc tk (pmk_ownA F q1 m2 m3 q2 k1 (sEs es c X Y (y :: l) h tk g5).1 k2 (star_cons hst.1) (star_none hst.2))) fun D σ H w => ?_
        obtain ⟨r, hs, s, m, en, p⟩ := w
        simp only [exS] at p
        refine st_bind m en p fun ds r1 H1 hs1 vs x1 m1' e1 rv q p1 => ⟨?_, ?_⟩
        · rw [rv.length, evs_len q, (chkEs_len g5).1, sl_eq]
          exact Nat.le_trans g7 (by decide)
        · unfold raiseR excO at p1
          rw [if_pos g2] at p1
          split at p1
          · rename_i fs hfs
            split at hfs
            · cases hfs
              exact p1 r1 H1 σ _ none (Ext.refl _ _) m1' e1 ⟨⟨f1, m1⟩, rfl, .inl ⟨f2, rfl, rfl⟩⟩
            · cases hfs
          · exact False.elim p1
    · cases g
  · cases g
theorem suite_ok {c : Ck} {X : Cx} {a : Addr} {pn : List (Addr × Obj)} (h : XOk L k c X) : XOk L k { c with hot := true } (X.suite a pn) where
  sc := h.sc
  N := h.N
  nd := h.nd
  fn := h.fn
  calm := fun z => nomatch z
  un := h.un
  cls := h.cls
  noat := h.noat
  blt := h.blt
  fns := h.fns
  cns := h.cns
  exm := h.exm
  pex := h.pex
  con := h.con
  mts := h.mts
  ini := h.ini
  dic := h.dic
theorem tr_ok {c : Ck} {X : Cx} {xe : Value → Shared → Prop} {pn : List (Addr × Obj)} (h : XOk L k c X) : XOk L k c (X.tr pn xe) where
  sc := h.sc
  N := h.N
  nd := h.nd
  fn := h.fn
  calm := h.calm
  un := h.un
  cls := h.cls
  noat := h.noat
  blt := h.blt
  fns := h.fns
  cns := h.cns
  exm := h.exm
  pex := h.pex
  con := h.con
  mts := h.mts
  ini := h.ini
  dic := h.dic
/-- a caught exception, known -/
theorem exc_known {W : Wd} {r : List Addr} {H : Hp} {hs : Hs} {d : Cn} {fs : List D} {cls : Value} {dx : Option Addr} {a : Addr} (m : Mt W r H hs) (ha : H a = none) (e : ExR W r H d fs cls dx) : Rv W r (upd H a (exT a (W.C d) dx)) (.obj d fs) (.ref a) := by
  have x := ext_new (r := r) ha (exT a (W.C d) dx)
  have e2 := e.mono x
  obtain ⟨⟨h1, h2⟩, h3, h4⟩ := e2
  rcases h4 with ⟨f1, rfl, rfl⟩ | ⟨dd, l, vs, rfl, g1, g2, g3, g4, g5⟩
  · exact .exc0 h2 h1 f1 upd_same (m.notNew ha)
  · exact .exc1 h2 h1 upd_same (m.notNew ha) g1 g2 g3 g4 g5
theorem sh_nil : SH L k .nil := by
  intro c X Y S h hh hf tk g
  simp only [chkH, List.isEmpty_iff] at g
  subst g
  refine ⟨[], .nil, fun D d fs s h r H p r' H' σ' cls dx x m e ex => ?_⟩
  simp only [exH] at p
  exact p r' H' σ' cls dx x m e ex
def goneE (i : Option Nat) (s : Ev) : Ev := match i with
  | some i => s.set i none
  | none => s
def putE (i : Option Nat) (d : D) (s : Ev) : Ev := match i with
  | some i => s.set i (some d)
  | none => s
theorem suite_eq (i : Option Nat) (c : Cn) (fs : List D) (s : Ev) (b : Ev → Hs → SR) (h : Hs) : suite i c fs s b h = match b (putE i (.obj c fs) s) h with
    | .nx s h => .nx (goneE i s) h
    | .rt d h => .rt d h
    | _ => .bad := by
  cases i <;> rfl
theorem sh_cons (d : Cn) (i : Option Nat) {b : Bl} {r : Hds} (hb : SB L k b) (hr : SH L k r) : SH L k (.cons d i b r) := by
  intro c X Y S h hh hf tk g
  simp only [chkH] at g
  split at g
  · rename_i x p1 nm y t p2 l2
    simp only [Bool.and_eq_true, beq_iff_eq] at g
    obtain ⟨⟨⟨g1, g2⟩, g3, g4⟩, g5, g6⟩ := g
    obtain ⟨k1, k2⟩ := glB_ok h g1
    obtain ⟨m1, m2, m3⟩ := h.cns x d g2
    obtain ⟨l, hl, hw⟩ := hr c X Y l2 h hh hf tk g6
    have nms : Names X x (.ref (L.C d)) := ⟨k1, k2, .inl m2⟩
    have su : ∀ (a : Addr) (pn : List (Addr × Obj)), PSs (X.suite a pn) (y :: t) (rdS (wdo X L) noX (exB (clOf L k) b)) := fun a pn => hb { c with hot := true } (X.suite a pn) noX (y :: t) (suite_ok h) (fun z => nomatch z) takes0 g5
    refine ⟨⟨.ref (L.C d), i, rdS (wdo X L) noX (exB (clOf L k) b)⟩ :: l, ?_, fun D d' fs s hs r H p r' H' σ' cls dx x m e ex => ?_⟩
    · cases i with
      | none =>
        cases nm with
        | none => exact .plain nms su hl
        | some n => cases g4
      | some i =>
        cases nm with
        | none => cases g4
        | some n =>
          simp only [Bool.and_eq_true, beq_iff_eq] at g4
          exact .named nms (atB_ok h g4.1) (by unfold Env.kindOf; rw [h.sc]; exact g4.2) su hl
    · obtain ⟨⟨e1, e2⟩, e3, e4⟩ := id ex
      refine ⟨d'.under d, by rw [e3]; exact h.exm d' d e2 m1 e1 g3, fun hu => ⟨L.C d', e3, fun a ha => ?_⟩, fun hu => ?_⟩
      · simp only [exH, hu, if_true] at p
        rw [suite_eq] at p
        have xn := ext_new (r := r') ha (exT a (L.C d') dx)
        have rv := exc_known m ha ex
        refine ⟨r', hs, putE i (.obj d' fs) s, m.new ha _, ?_, ?_⟩
        · cases i with
          | none => exact e.mono xn
          | some i => exact (e.mono xn).set rv i
        · cases q : exB (clOf L k) b (putE i (.obj d' fs) s) hs with
          | nx s2 h2 =>
            rw [q] at p
            intro r2 H2 σ2 x2 m2 en2
            refine p r2 H2 _ (x.trans (xn.trans x2)) m2 ?_
            cases i with
            | none => exact en2
            | some i => exact en2.gone i
          | rt d h2 =>
            rw [q] at p
            exact fun r2 H2 v x2 m2 rv2 => p r2 H2 v (x.trans (xn.trans x2)) m2 rv2
          | bk s2 h2 => rw [q] at p; exact p.elim
          | ct s2 h2 => rw [q] at p; exact p.elim
          | exc d fs s2 h2 => rw [q] at p; exact p.elim
          | bad => rw [q] at p; exact p.elim
      · simp only [exH, hu] at p
        exact hw D d' fs s hs r H p r' H' σ' cls dx x m e ex
  · cases g
theorem ss_try {a : Bl} {hs : Hds} (ha : SB L k a) (hh : SH L k hs) : SS L k (.try a hs) := by
  intro c X Y S h hf tk g
  simp only [chkS] at g
  split at g
  · rename_i q hq
    obtain ⟨p, rfl⟩ := asTry_of hq
    obtain ⟨b, hds⟩ := q
    simp only [Bool.and_eq_true, Bool.not_eq_true'] at g
    obtain ⟨⟨g1, g2⟩, g3, g4⟩ := g
    have F := hf g1
    obtain ⟨l, hl, hw⟩ := hh c X Y hds h g1 F tk g4
    cases hds with
    | nil => cases g2
    | cons hd hds =>
      refine ps_weak (ps_tryU (tb := fun W => rdS (wdo X L) W (exB (clOf L k) a)) F.st F.fr F.ex h.nd tk (fun W pn xe tk2 pa => ha c (X.tr pn xe) W b (tr_ok h) (fun _ => ⟨F.st, F.fr, F.ex, pa⟩) tk2 g3) hl) fun D σ H w => ?_
      obtain ⟨r, hs', s, m, en, p⟩ := w
      simp only [exS] at p
      refine ⟨r, hs', s, m, en, ?_⟩
      cases q : exB (clOf L k) a s hs' with
      | nx s2 h2 => rw [q] at p; exact p
      | rt d h2 => rw [q] at p; exact p
      | bk s2 h2 => rw [q] at p; exact p
      | ct s2 h2 => rw [q] at p; exact p
      | exc d fs s2 h2 =>
        rw [q] at p
        exact fun r' H' σ' cls dx x m' e' ex => hw D d fs s2 h2 r H p r' H' σ' cls dx x m' e' ex
      | bad => rw [q] at p; exact p
  · cases g
mutual
theorem sS : ∀ s : Sm, SS L k s
  | .pass => ss_pass
  | .set i e => ss_set i e
  | .setT is e => ss_setT is e
  | .par i j a b => ss_par i j a b
  | .setI o i e => ss_setI o i e
  | .ex e => ss_ex e
  | .ret e => ss_ret e
  | .retN => ss_retN
  | .ite q a b => ss_ite q (sB a) (sB b)
  | .whl q a => ss_whl q (sB a)
  | .for tg it a => ss_for tg it (sB a)
  | .brk => ss_brk
  | .cnt => ss_cnt
  | .raise d es => ss_raise d es
  | .try a hs => ss_try (sB a) (sH hs)
theorem sB : ∀ b : Bl, SB L k b
  | .nil => sb_nil
  | .cons x r => sb_cons (sS x) (sB r)
theorem sH : ∀ hs : Hds, SH L k hs
  | .nil => sh_nil
  | .cons d i b r => sh_cons d i (sB b) (sH r)
end
end
end Q

/-! defs -/
namespace Q
open PySem PySem.Spec PyProof.Rows L2
/-- a def of the given text is mine -/
def fnB (G : List (Str × Gn)) (g : Fn) (N : List Str) (st : Stmt) : Bool := match plainOf (defArgs st) with
  | some as => (decide (as.length = g.np) && (N.take g.np == as.map (·.arg) && (decide (N.length = g.ns) && nodupB N))) &&
    ((decide ((defScope st).kind = .function) && (!(defScope st).isCoroutine && !(defScope st).isGenerator)) &&
    ((as.all (fun a => (defScope st).names.lookup a.arg == some .local || (defScope st).names.lookup a.arg == some .cell) && (defScope st).names.all (fun y => decide (y.2 ≠ .free))) &&
    chkB ⟨G, defScope st, N, fun _ => true, false⟩ g.body (defBody st)))
  | none => false
theorem fnB_ok {G : List (Str × Gn)} {g : Fn} {N : List Str} {st : Stmt} (h : fnB G g N st = true) : ∃ as, defArgs st = plainArgs as ∧ as.length = g.np ∧ N.length = g.ns ∧ FnScope N (as.map (·.arg)) (defScope st) ∧ (as.map (·.arg)).Nodup ∧ chkB ⟨G, defScope st, N, fun _ => true, false⟩ g.body (defBody st) = true := by
  unfold fnB at h
  split at h
  · rename_i as has
    simp only [Bool.and_eq_true, decide_eq_true_eq, beq_iff_eq, Bool.not_eq_true', List.all_eq_true, Bool.or_eq_true] at h
    obtain ⟨⟨h1, h2, h3, h4⟩, ⟨h5, h6, h7⟩, ⟨h8, h9⟩, h10⟩ := h
    have nd := nodupB_ok h4
    refine ⟨as, plainOf_of has, h1, h3, ⟨h5, h6, h7, nd, by rw [List.length_map, h1]; exact h2, fun x hx => ?_, h9⟩, by rw [← h2]; exact nd.sublist (List.take_sublist _ _), h10⟩
    obtain ⟨a, ha, rfl⟩ := List.mem_map.mp hx
    exact h8 a ha
  · cases h
/-- what stands behind the top: classes, constants, built-in names -/
structure SOk (L : Wl) (G : List (Str × Gn)) (K : PySem.W.Frag) (P : Program) (w : World) (mg : Str → Option Value) : Prop where
  cls : ClsOk ⟨K, L.C, L.has, P, w⟩
  noat : ∀ (d : Cn) (f : String), L.has d = true → fldKnown f = true → NoAttr K (L.C d) (fN f)
  blt : ∀ x, x ∈ bltN → mg x = none
  cns : ∀ x d, G.lookup x = some (.cl d) → L.has d = true ∧ mg x = some (.ref (L.C d)) ∧ PySem.W.keepIn K (.ref (L.C d)) = true
  exm : ∀ d e : Cn, L.has d = true → L.has e = true → d.isExc = true → e.isExc = true → PySem.W.exmOne K (.ref (L.C d)) (.ref (L.C e)) = some (d.under e)
  pex : ∀ d : Cn, L.has d = true → d.plainExc = true → PlainX K (L.C d)
  con : ∀ x y, G.lookup x = some (.con y) → ∃ d v u, L.T.con y = some d ∧ mg x = some u ∧ L2.RelV v u ∧ ∀ r H, Rv ⟨K, L.C, L.has, P, w⟩ r H d v
  ini : ∀ x d, G.lookup x = some (.mk d) → IniS L G K mg d
  dic : ∀ x y, G.lookup x = some (.dic y) → DicS L K P w mg x y
/-- a def of the text -/
def DefAt (L : Wl) (G : List (Str × Gn)) (K : PySem.W.Frag) (f : String) (a : Addr) (fd : FuncData) (ps : List Str) : Prop :=
  ∃ (g : Fn) (nm qual : Str) (st : Stmt) (N : List Str), L.T.fn f = some g ∧ Fun K nm qual st a fd ∧ fnB G g N st = true ∧ ps = (defArgs st).args.map (·.arg)
theorem DefAt.facts {L : Wl} {G : List (Str × Gn)} {K : PySem.W.Frag} {f : String} {a : Addr} {fd : FuncData} {ps : List Str} (d : DefAt L G K f a fd ps) :
    PySem.W.keepIn K (.ref a) = true ∧ Binds K fd ps [] ∧ (∀ us : List Value, us.length = ps.length → bindArgs fd ⟨us, []⟩ = pure (ps.zip us)) ∧ ∃ g, L.T.fn f = some g ∧ ps.length = g.np := by
  obtain ⟨g, nm, qual, st, N, h1, h3, h4, rfl⟩ := d
  obtain ⟨as, e1, e2, e3, e4, e5, e6⟩ := fnB_ok h4
  have ea : (defArgs st).args = as := by rw [e1]; rfl
  rw [ea]
  refine ⟨h3.kp, h3.binds fun kV doc pm an cdv ct us hl => bind_plain e1 rfl (by simpa using hl) e5, fun us hl => ?_, g, h1, by simpa using e2⟩
  obtain ⟨oc, od, kV, doc, pm, an, cdv, ct, osl, rfl, _, _⟩ := h3.ex
  exact bind_plain e1 rfl (by simpa using hl) e5
/-- a def behind the top -/
def DefOk (L : Wl) (G : List (Str × Gn)) (K : PySem.W.Frag) (mg : Str → Option Value) (x : Str) (f : String) : Prop := ∃ a fd ps, mg x = some (.ref a) ∧ DefAt L G K f a fd ps
/-- a method of a class -/
def MtOk (L : Wl) (G : List (Str × Gn)) (K : PySem.W.Frag) (c : Cn) (m f : String) : Prop := (L.has c = true ∧ c.isExc = false) ∧ ∃ a fd ps, Meth K (L.C c) (fN m) a ∧ DefAt L G K f a fd ps
theorem start_env {W : Wd} {r : List Addr} {H : Hp} {ds : List D} {vs : List V} (t : Rvs W r H ds vs) {n : Nat} {N : List Str} (hN : N.length = n) : EnvR W r H (start n ds) (L2.start N vs) := by
  have hl := t.length
  unfold start L2.start
  refine ⟨by simp [hl, hN], fun i d h => ?_⟩
  by_cases hi : i < ds.length
  · rw [List.getElem?_append_left (by simpa using hi), List.getElem?_map] at h
    cases q : ds[i]? with
    | none => rw [q] at h; cases h
    | some e =>
      rw [q] at h
      cases h
      obtain ⟨v, h1, h2⟩ := t.get q
      refine ⟨v, ?_, h2⟩
      rw [List.getElem?_append_left (by simp [hl]; exact hi), List.getElem?_map, h1]
      rfl
  · rw [List.getElem?_append_right (by simp; omega), List.getElem?_replicate] at h
    split at h
    · cases h
    · cases h
theorem call_some {T : Tab} {k : Nat} {f : String} {g : Fn} {ds : List D} {hs : Hs} (hg : T.fn f = some g) (h : call T (k + 1) f ds hs ≠ .bad) : ds.length = g.np ∧ call T (k + 1) f ds hs = (exB ⟨T, call T k⟩ g.body (start g.ns ds) hs).fin := by
  simp only [call, hg] at h ⊢
  split
  · rename_i h1; exact ⟨h1, rfl⟩
  · rename_i h1; rw [if_neg h1] at h; exact absurd rfl h
theorem Post.nb {α β : Type} {rel : List Addr → Hp → α → β → Prop} {W : Wd} {X : WX} {σ : L2.St} {r : List Addr} {H : Hp} {res : R α} {Q : β → Hp → Prop} (p : Post rel W X σ r H res Q) : res ≠ .bad := fun e => by rw [e] at p; exact p
theorem fns_ok {L : Wl} {G : List (Str × Gn)} {P : Program} {w : World} {K : PySem.W.Frag} {mg : Str → Option Value} {base : Heap} (S : SOk L G K P w mg) (D : ∀ x f, G.lookup x = some (.fn f) → DefOk L G K mg x f) (MM : ∀ c m f, L.T.meth c m = some f → MtOk L G K c m f) :
    ∀ (k : Nat) (f : String) (a : Addr) (fd : FuncData) (ps : List Str), DefAt L G K f a fd ps → FnOk P w K mg base (L2.CX P w) (k + 2) a fd ps (spF ⟨K, L.C, L.has, P, w⟩ L.T f k)
  | 0, f, a, fd, ps, _ => by
    have no : ∀ {vs H Q E}, ¬ spF ⟨K, L.C, L.has, P, w⟩ L.T f 0 vs H Q E := fun ⟨r, hs, ds, _, _, p⟩ => p
    exact ⟨fun vs H Q E h => (no h).elim, fun _ _ _ _ _ _ _ _ _ _ _ _ _ h => (no h).elim⟩
  | k + 1, f, a, fd, ps, d => by
    obtain ⟨g, nm, qual, st, N, h1, h3, h4, rfl⟩ := d
    obtain ⟨as, e1, e2, e3, e4, e5, e6⟩ := fnB_ok h4
    have ea : (defArgs st).args = as := by rw [e1]; rfl
    rw [ea]
    refine h3.okX e4 (fun vs H Q E h => ?_) fun cdv A outer s H vs Q E hr h => ?_
    · obtain ⟨r, hs, ds, m, t, p⟩ := h
      rw [t.length, (call_some h1 p.nb).1, List.length_map, e2]
    · obtain ⟨r, hs, ds, m, t, p⟩ := h
      obtain ⟨q1, q2⟩ := call_some h1 p.nb
      rw [q2] at p
      let X : Cx := cxOf (L2.CX P w) P w K mg base N qual (defScope st) a cdv A outer s H E
      have XO : XOk L k ⟨G, defScope st, N, fun _ => true, false⟩ X := {
        sc := rfl
        N := rfl
        nd := e4.nd
        fn := fun _ _ => rfl
        calm := fun _ => ⟨rfl, hr⟩
        un := by have := hr.un; show (A.deeper _).units + 160 < cLine; omega
        cls := S.cls
        noat := S.noat
        blt := S.blt
        fns := fun x f hf => by
          obtain ⟨a, fd, ps, q1, q⟩ := D x f hf
          obtain ⟨q2, q3, _⟩ := q.facts
          exact ⟨a, fd, ps, q1, q2, fns_ok S D MM k f a fd ps q, q3⟩
        mts := fun c m f hf => by
          obtain ⟨h0, a, fd, ps, q1, q⟩ := MM c m f hf
          obtain ⟨q2, q3, _⟩ := q.facts
          exact ⟨h0, a, fd, ps, q1, fns_ok S D MM k f a fd ps q, q3⟩
        ini := S.ini
        dic := S.dic
        cns := S.cns
        exm := S.exm
        pex := S.pex
        con := S.con }
      have FO : FOk X := ⟨rfl, rfl, rfl, passes_of rfl⟩
      refine ⟨_, sB g.body _ X (fun cls d _ H => E cls d H) (defBody st) XO (fun _ => FO) (takes_of rfl rfl rfl rfl) e6, r, hs, start g.ns ds, m, start_env t e3, ?_⟩
      show PostS _ _ _ _ _ (exB ⟨L.T, call L.T k⟩ g.body (start g.ns ds) hs)
      cases q : exB ⟨L.T, call L.T k⟩ g.body (start g.ns ds) hs with
      | nx s2 h2 => rw [q] at p; exact fun r' H' σ x m' _ => p r' H' .non x m' .non
      | rt d h2 => rw [q] at p; exact p
      | bk s2 h2 => rw [q] at p; exact p.elim
      | ct s2 h2 => rw [q] at p; exact p.elim
      | exc d fs s2 h2 => rw [q] at p; exact fun r' H' σ cls dx x m' _ ex => p r' H' cls dx x m' ex
      | bad => rw [q] at p; exact p.elim
end Q

/-! the head: what stands behind the top -/
namespace Q
open PySem PySem.Spec PyProof.Rows L2

/-- the part of the heap that the names reach, without its lists -/
def frN (g : Addr → Option Obj) (as : List Addr) : PySem.W.Frag := (He.frG g as).filter fun p => decide (p.2.cls ≠ .type "list")
theorem lookup_mem {α β : Type} [BEq α] [LawfulBEq α] : ∀ {l : List (α × β)} {a : α} {b : β}, l.lookup a = some b → (a, b) ∈ l
  | [], _, _, h => by cases h
  | (x, y) :: l, a, b, h => by
    rw [List.lookup_cons] at h
    cases e : a == x with
    | true =>
      rw [e] at h
      cases h
      rw [beq_iff_eq.mp e]
      exact List.mem_cons_self
    | false =>
      rw [e] at h
      exact List.mem_cons_of_mem _ (lookup_mem h)
theorem frG_mem {g : Addr → Option Obj} {as : List Addr} {a : Addr} {o : Obj} (h : (a, o) ∈ He.frG g as) : g a = some o := by
  unfold He.frG at h
  obtain ⟨b, hb, e⟩ := List.mem_filterMap.mp h
  cases q : g b with
  | none => rw [q] at e; cases e
  | some ob => rw [q] at e; cases e; exact q
theorem frN_in {h : Heap} {as : List Addr} : (frN h.get? as).In h := fun a o e => frG_mem (List.mem_filter.mp (lookup_mem e)).1
theorem frN_nl {g : Addr → Option Obj} {as : List Addr} {a : Addr} {o : Obj} (e : (frN g as).lookup a = some o) : o.cls ≠ .type "list" := by
  have h := (List.mem_filter.mp (lookup_mem e)).2
  simpa using h
/-- the text's dicts: their names, their keys -/
abbrev Tds : Type := List (Str × List Str)
abbrev AlQ : Type := (Bool × List He.FnV) × List (Option (List (Option (Str × Int))))
def obsQ (ck : PySem.W.Frag → Bool) (fn : List He.FnD) (ts : Tds) (K : PySem.W.Frag) : AlQ := ((ck K && fn.all fun d => (He.Fa.code d.at_ d.qual).ok K, fn.map fun d => He.fnObs K d.at_), ts.map fun t => He.dicW K (He.ga K t.1))
def valQ (fn : List He.FnD) (ts : Tds) (w : World) : AlQ := ((true, fn.map He.FnD.val), ts.map fun t => some (He.keysIn w.params t.2))
def SaysQ (ck : PySem.W.Frag → Bool) (fn : List He.FnD) (ts : Tds) (w : World) (K : PySem.W.Frag) : Prop := obsQ ck fn ts K = valQ fn ts w
def obsQG (n : Nat) (ck : PySem.W.Frag → Bool) (fn : List He.FnD) (ts : Tds) (g : Addr → Option Obj) : AlQ := obsQ ck fn ts (frN g (He.asG g n ++ [cStatics]))
def hookQ (n : Nat) (ck : PySem.W.Frag → Bool) (fn : List He.FnD) (ts : Tds) : PySem.W.Hook where
  α := AlQ
  obs := fun s => obsQG n ck fn ts s.heap.get?
  val := fun w => valQ fn ts w
  says := fun w h => ∃ K : PySem.W.Frag, K.In h ∧ (∀ a o, K.lookup a = some o → o.cls ≠ .type "list") ∧ SaysQ ck fn ts w K
  of := fun _ _ e => ⟨_, frN_in, fun _ _ z => frN_nl z, e⟩
  keeps := fun _ _ _ ⟨K, hK, hl, c⟩ k => ⟨K, PySem.W.Frag.In.keeps hK k, hl, c⟩
theorem obsQG_eq {n : Nat} {ck : PySem.W.Frag → Bool} {fn : List He.FnD} {ts : Tds} {g : Addr → Option Obj} {s : Shared} (h : ∀ a, g a = s.heap.get? a) : obsQG n ck fn ts g = (hookQ n ck fn ts).obs s := by
  have e : g = s.heap.get? := funext h
  rw [e] <;> rfl
theorem SaysQ.one {ck : PySem.W.Frag → Bool} {fn : List He.FnD} {ts : Tds} {w : World} {K : PySem.W.Frag} (c : SaysQ ck fn ts w K) : (ck K && fn.all fun d => (He.Fa.code d.at_ d.qual).ok K, fn.map fun d => He.fnObs K d.at_) = (true, fn.map He.FnD.val) := congrArg (fun z : AlQ => z.1) c
theorem SaysQ.tab {ck : PySem.W.Frag → Bool} {fn : List He.FnD} {ts : Tds} {w : World} {K : PySem.W.Frag} (c : SaysQ ck fn ts w K) {t : Str × List Str} (h : t ∈ ts) : He.dicW K (He.ga K t.1) = some (He.keysIn w.params t.2) := by
  have e : ts.map (fun t => He.dicW K (He.ga K t.1)) = ts.map fun t => some (He.keysIn w.params t.2) := congrArg (fun z : AlQ => z.2) c
  exact List.map_inj_left.mp e t h
theorem SaysQ.ck {ck : PySem.W.Frag → Bool} {fn : List He.FnD} {ts : Tds} {w : World} {K : PySem.W.Frag} (c : SaysQ ck fn ts w K) : ck K = true :=
  (He.ba (show (ck K && fn.all fun d => (He.Fa.code d.at_ d.qual).ok K) = true from congrArg (fun z : Bool × List He.FnV => z.1) c.one)).1
theorem SaysQ.def_ {ck : PySem.W.Frag → Bool} {fn : List He.FnD} {ts : Tds} {w : World} {K : PySem.W.Frag} (c : SaysQ ck fn ts w K) {d : He.FnD} (h : d ∈ fn) :
    ∃ oc od osl kV doc pm an cdv ct, K.lookup (He.fAd K d.at_) = some ⟨oc, od, .func (PySem.W.fnOf d.name d.qual d.params d.body d.scope .none kV doc pm an cdv ct), osl⟩ ∧ PySem.W.codeIn K cdv d.qual = true := by
  have c2 := (He.ba (show (ck K && fn.all fun d => (He.Fa.code d.at_ d.qual).ok K) = true from congrArg (fun z : Bool × List He.FnV => z.1) c.one)).2
  have e : fn.map (fun d => He.fnObs K d.at_) = fn.map He.FnD.val := congrArg (fun z : Bool × List He.FnV => z.2) c.one
  exact He.fn_ok (List.map_inj_left.mp e d h) (List.all_eq_true.mp c2 d h)

/-! ### a law's data -/
def cA (K : PySem.W.Frag) (c : Cn) : Addr := He.ga K (Str.ofString c.name)
/-- the j-th statement of a class -/
def inCls (s : Stmt) (j : Nat) : Stmt := match s with
  | .ClassDef (body := b) .. => b.getD j (.Pass ⟨0, 0, 0, 0⟩)
  | s => s
/-- one def of the given text: x a global's name, m a method's of the class x -/
structure DD where
  x : String
  m : Option String
  nm : String
  qual : String
  st : Stmt
  key : String
  g : Fn
  N : List Str
/-- an __init__ of the class x -/
structure DI where
  x : String
  qual : String
  st : Stmt
  N : List Str
def DI.at_ (d : DI) : Str × Option Str := (Str.ofString d.x, some "__init__")
def DD.at_ (d : DD) : Str × Option Str := (Str.ofString d.x, d.m.map fN)
/-- a law's world: its defs, its classes, its constants, its __init__s, the classes that are made (by whose __init__), the methods of the classes -/
structure Lw where
  ds : List DD
  cs : List Cn
  ks : List (String × String × D)
  is : List DI
  im : List (Cn × Option String)
  mt : List (Cn × String × String)
  dks : List (String × String × List (Str × D))
def Lw.ts (l : Lw) : Tds := l.dks.map fun k => (Str.ofString k.1, k.2.2.map (·.1))
def Lw.G (l : Lw) : List (Str × Gn) := ((l.ds.filter fun d => d.m.isNone).map fun d => (Str.ofString d.x, Gn.fn d.key)) ++ ((l.cs.map fun c => (Str.ofString c.name, Gn.cl c)) ++ ((l.ks.map fun k => (Str.ofString k.1, Gn.con k.2.1)) ++ ((l.im.map fun p => (mkN p.1, Gn.mk p.1)) ++ l.dks.map fun k => (Str.ofString k.1, Gn.dic k.2.1))))
def Lw.T (l : Lw) : Tab := ⟨fun f => (l.ds.find? fun d => d.key == f).map (·.g), fun c m => (l.mt.find? fun p => p.1 == c && p.2.1 == m).map (·.2.2), fun y => (l.ks.find? fun k => k.2.1 == y).map (·.2.2), fun y => (l.dks.find? fun k => k.2.1 == y).map (·.2.2)⟩
def Lw.W (l : Lw) (K : PySem.W.Frag) : Wl := ⟨cA K, fun c => l.cs.contains c, l.T⟩
def Lw.fn (l : Lw) : List He.FnD := (l.ds.map fun d => ⟨d.at_, Str.ofString d.nm, Str.ofString d.qual, defArgs d.st, defBody d.st, defScope d.st⟩) ++ l.is.map fun d => ⟨d.at_, "__init__", Str.ofString d.qual, defArgs d.st, defBody d.st, defScope d.st⟩
mutual
def conB (K : PySem.W.Frag) : D → Value → Bool
  | .int i, .int j _ => i == j
  | .str x, .str y _ => x == y && PyData.strOk x
  | .bl b, .bool c => b == c
  | .tup ds, .ref a => (match K.lookup a with
    | some o => decide (o.cls = .type "tuple") && (match o.data with
      | .seq its n => decide (its.size ≤ 1000) && (!rowK ds && conBs K ds its.toList)
      | _ => false)
    | none => false)
  | _, _ => false
def conBs (K : PySem.W.Frag) : List D → List Value → Bool
  | [], [] => true
  | d :: ds, u :: us => conB K d u && conBs K ds us
  | _, _ => false
end
mutual
theorem conB_ok {W : Wd} : ∀ {d : D} {u : Value}, conB W.K d u = true → ∃ v, L2.RelV v u ∧ ∀ r H, Rv W r H d v
  | .int i, u, h => by
    cases u <;> first | (cases h; done) | skip
    simp only [conB, beq_iff_eq] at h
    subst h
    exact ⟨.int i, ⟨_, rfl⟩, fun _ _ => .int i⟩
  | .bl i, u, h => by
    cases u <;> first | (cases h; done) | skip
    simp only [conB, beq_iff_eq] at h
    subst h
    exact ⟨.bl i, rfl, fun _ _ => .bl i⟩
  | .str x, u, h => by
    cases u <;> first | (cases h; done) | skip
    simp only [conB, Bool.and_eq_true, beq_iff_eq] at h
    obtain ⟨h1, h2⟩ := h
    subst h1
    exact ⟨.str x, ⟨_, rfl⟩, fun _ _ => .str x h2⟩
  | .tup ds, u, h => by
    cases u <;> first | (cases h; done) | skip
    rename_i a
    simp only [conB] at h
    split at h
    · rename_i o ho
      rw [Bool.and_eq_true, decide_eq_true_eq] at h
      obtain ⟨h1, h2⟩ := h
      split at h2
      · rename_i its n hd
        rw [Bool.and_eq_true, Bool.and_eq_true, decide_eq_true_eq, Bool.not_eq_true'] at h2
        obtain ⟨vs, g1, g2⟩ := conBs_ok h2.2.2
        exact ⟨.ref a, rfl, fun r H => .tup (.inr ⟨⟨o, its, n, ho, h1, hd, by rw [sl_eq]; exact Nat.le_trans h2.1 (by decide), g1⟩, rowK_rowV (g2 r H) h2.2.1⟩) (g2 r H)⟩
      · cases h2
    · cases h
  | .non, u, h => by cases u <;> cases h
  | .obj _ _, u, h => by cases u <;> cases h
  | .ref _, u, h => by cases u <;> cases h
  | .lv _, u, h => by cases u <;> cases h
theorem conBs_ok {W : Wd} : ∀ {ds : List D} {us : List Value}, conBs W.K ds us = true → ∃ vs, Vals vs us ∧ ∀ r H, Rvs W r H ds vs
  | [], [], _ => ⟨[], .nil, fun _ _ => .nil⟩
  | [], _ :: _, h => nomatch h
  | _ :: _, [], h => nomatch h
  | d :: ds, u :: us, h => by
    simp only [conBs, Bool.and_eq_true] at h
    obtain ⟨v, g1, g2⟩ := conB_ok h.1
    obtain ⟨vs, f1, f2⟩ := conBs_ok h.2
    exact ⟨v :: vs, .cons g1 f1, fun r H => .cons (g2 r H) (f2 r H)⟩
end
def flds : List String := ["at", "word", "line", "name", "part", "one", "other", "kept"]
def baseTys : List Ty := [.tint, .tbool, .tstr, .ttuple, .tlist, .tval]
def tyB' (t : Ty) : Value := match t with
  | .tint => .type "int"
  | .tbool => .type "bool"
  | .tstr => .type "str"
  | .ttuple => .type "tuple"
  | .tlist => .type "list"
  | .tval => .type "ValueError"
  | .own _ => .none
def ckCls (K : PySem.W.Frag) (cs : List Cn) (c : Cn) : Bool :=
  (He.eqO (PySem.W.nsIn K mainGlobals (Str.ofString c.name)) (some (some (.ref (cA K c)))) && (PySem.W.keepIn K (.ref (cA K c)) && decide (PySem.W.mroIn K (cA K c) (.type "object") = some true))) &&
  ((He.eqO (PySem.W.findIn K (.ref (cA K c)) "__class__") (some (some (.builtin "object.__class__"))) && (if c.isExc then
    He.eqO (PySem.W.findIn K (.ref (cA K c)) "__getattribute__") (some (some (.builtin "BaseException.__getattribute__"))) && (He.eqO (PySem.W.findIn K (.ref (cA K c)) "__getattr__") (some none) && (decide (PySem.W.subIn K (.ref (cA K c)) (.type "BaseException") = some true) &&
      (PySem.W.hasDictIn K (cA K c) && (decide (PySem.W.typeIn K (.ref (cA K c)) = some (.type "type")) && ((!c.plainExc || PySem.W.excIn K (cA K c) He.veBase "ValueError.__new__") && cs.all fun d => !d.isExc || decide (PySem.W.exmOne K (.ref (cA K c)) (.ref (cA K d)) = some (c.under d)))))))
    else (He.Fa.cls (Str.ofString c.name)).ok K)) &&
  ((cs.all fun d => decide (PySem.W.kitOne K (.ref (cA K c)) (.ref (cA K d)) = some (c.under d))) && ((baseTys.all fun t => decide (PySem.W.kitOne K (.ref (cA K c)) (tyB' t) = some (isTyC c t))) &&
    ((tyN.all fun n => decide (PySem.W.kitOne K (.type n) (.ref (cA K c)) = some false)) && flds.all fun f => He.eqO (PySem.W.findIn K (.ref (cA K c)) (fN f)) (some none)))))
/-- what a class that is made must have -/
def ckIni (l : Lw) (K : PySem.W.Frag) (p : Cn × Option String) : Bool := l.cs.contains p.1 && (PySem.W.keepIn K (.ref (cA K p.1)) && (match p.2 with
  | none => (decide (p.1.flds = []) && !p.1.isExc) && (PySem.W.makesIn K (cA K p.1) && (He.eqO (PySem.W.findIn K (.ref (cA K p.1)) "__init__") (some (some (.builtin "object.__init__"))) && decide (PySem.W.mroIn K (cA K p.1) (.type "object") = some true)))
  | some x => match l.is.find? fun d => d.x == x with
    | none => false
    | some d => He.eqO (PySem.W.findIn K (.ref (cA K p.1)) "__init__") (some (some (.ref (He.fAd K d.at_)))) && (if p.1.isExc then (oexB K (cA K p.1) && (He.eqO (PySem.W.findIn K (.ref (cA K p.1)) "__setattr__") (some (some (.builtin "object.__setattr__"))) &&
        (decide (PySem.W.subIn K (.ref (cA K p.1)) (.type "BaseException") = some true) && decide (PySem.W.typeIn K (.ref (cA K p.1)) = some (.type "type"))))) && (decide (PySem.W.typeIn K (.ref (He.fAd K d.at_)) = some (.type "function")) && (l.cs.contains .SayError &&
        (decide (PySem.W.specialIn K (.ref (cA K .SayError)) "__getattribute__" = some (some (.builtin "type.__getattribute__"))) && (PySem.W.readsIn K (cA K .SayError) (.type "type") && (match PySem.W.findCls K (.ref (cA K .SayError)) (.type "type") "__init__" with
          | some (.val (.builtin i)) => i == "ValueError.__init__"
          | _ => false)))))
      else PySem.W.makesIn K (cA K p.1) && PySem.W.isFn K (.ref (He.fAd K d.at_)))))
def ckMt (l : Lw) (K : PySem.W.Frag) (p : Cn × String × String) : Bool := (l.cs.contains p.1 && !p.1.isExc) && (match l.ds.find? fun d => d.key == p.2.2 with
  | none => false
  | some d => He.eqO (PySem.W.findIn K (.ref (cA K p.1)) (fN p.2.1)) (some (some (.ref (He.fAd K d.at_)))) && (PySem.W.isFn K (.ref (He.fAd K d.at_)) && PySem.W.keepIn K (.ref (He.fAd K d.at_))))
/-- a dict of the text -/
def ckDk (K : PySem.W.Frag) (k : String × String × List (Str × D)) : Bool := He.eqO (PySem.W.nsIn K mainGlobals (Str.ofString k.1)) (some (some (.ref (He.ga K (Str.ofString k.1))))) && k.2.2.all fun q => match PySem.W.nsIn K (He.ga K (Str.ofString k.1)) q.1 with
  | some (some u) => conB K q.2 u
  | _ => false
def Lw.ck (l : Lw) (K : PySem.W.Frag) : Bool :=
  (bltN.all (fun x => He.eqO (PySem.W.nsIn K mainGlobals x) (some none)) && (decide (PySem.W.specialIn K (.builtin "object.__class__") "__get__" = some (some (.builtin "getset_descriptor.__get__"))) && decide (PySem.W.takesIn K (.builtin "object.__class__") = some true))) &&
  ((l.ds.all fun d => (d.m.isSome || He.eqO (PySem.W.nsIn K mainGlobals (Str.ofString d.x)) (some (some (.ref (He.ga K (Str.ofString d.x)))))) && PySem.W.keepIn K (.ref (He.fAd K d.at_))) &&
  (((l.cs.all fun c => ckCls K l.cs c) && ((l.is.all fun d => PySem.W.keepIn K (.ref (He.fAd K d.at_))) && ((l.im.all fun p => ckIni l K p) && l.mt.all fun p => ckMt l K p))) && ((l.dks.all fun k => ckDk K k) && l.ks.all fun k => match PySem.W.nsIn K mainGlobals (Str.ofString k.1) with
    | some (some u) => conB K k.2.2 u
    | _ => false)))
/-- each def, checked -/
def Lw.fns (l : Lw) : Bool := (l.ds.all fun d => fnB l.G d.g d.N d.st) && l.im.all fun p => match p.2 with
  | none => true
  | some x => match l.is.find? fun d => d.x == x with
    | none => false
    | some d => if p.1.isExc then initXFn l.G p.1.flds d.N d.st else initFn p.1.flds d.N d.st
section
variable {l : Lw} {K : PySem.W.Frag} {h : Heap} {mg : Str → Option Value} {w : World}
theorem has_mem {c : Cn} (hc : (l.W K).has c = true) : c ∈ l.cs := List.contains_iff_mem.mp hc
theorem ck_cls (c : l.ck K = true) {d : Cn} (hd : (l.W K).has d = true) : ckCls K l.cs d = true := by
  unfold Lw.ck at c
  simp only [Bool.and_eq_true] at c
  exact List.all_eq_true.mp c.2.2.1.1 d (has_mem hd)
theorem find_some' {α : Type} {p : α → Bool} {l : List α} {a : α} (h : l.find? p = some a) : a ∈ l ∧ p a = true := ⟨List.mem_of_find?_eq_some h, List.find?_some h⟩
theorem sOk (P : Program) (X : K.In h) (Gm : h.Ns mainGlobals mg) (cq : SaysQ l.ck l.fn l.ts w K) (nd : (l.ks.map (·.2.1)).Nodup) (ndd : (l.dks.map (·.2.1)).Nodup) (hf : l.fns = true) : SOk (l.W K) l.G K P w mg := by
  have c := cq.ck
  have c0 := c
  unfold Lw.ck at c0
  simp only [Bool.and_eq_true, decide_eq_true_eq] at c0
  obtain ⟨⟨b1, b2, b3⟩, b4, ⟨b5, b7, b8, b9⟩, b10, b6⟩ := c0
  have at_ : ∀ {d : Cn}, (l.W K).has d = true → _ := fun {d} hd => ck_cls c hd
  refine { cls := { own := fun d hd he => ?_, spec := b2, tak := b3, exc := fun d hd he => ?_, kit := fun d t hd ht => ?_, kitT := fun d n hd hn => ?_ }, noat := fun d f hd hf => ?_, blt := fun x hx => ?_, cns := fun x d hx => ?_, exm := fun d e hd he h1 h2 => ?_, pex := fun d hd hp => ?_, con := fun x y hx => ?_, ini := fun x d hx => ?_, dic := fun x y hx => ?_ }
  · have q := at_ hd
    unfold ckCls at q
    simp only [Bool.and_eq_true, decide_eq_true_eq, he, Bool.false_eq_true, if_false] at q
    exact ⟨He.cls_ok q.2.1.2, He.eqO_ok q.2.1.1, q.1.2.2⟩
  · have q := at_ hd
    unfold ckCls at q
    simp only [Bool.and_eq_true, decide_eq_true_eq, he, if_true] at q
    obtain ⟨⟨q1, q2, q3⟩, ⟨q4, q5, q6, q7, q8, q9⟩, q10⟩ := q
    exact ⟨He.eqO_ok q5, He.eqO_ok q6, q7, q8, He.eqO_ok q4, b2, b3, q3⟩
  · have q := at_ hd
    unfold ckCls at q
    simp only [Bool.and_eq_true, List.all_eq_true, decide_eq_true_eq] at q
    obtain ⟨_, _, q1, q2, _⟩ := q
    cases t with
    | own e => exact q1 e (has_mem (K := K) ht)
    | tint => exact q2 .tint (by decide)
    | tbool => exact q2 .tbool (by decide)
    | tstr => exact q2 .tstr (by decide)
    | ttuple => exact q2 .ttuple (by decide)
    | tlist => exact q2 .tlist (by decide)
    | tval => exact q2 .tval (by decide)
  · have q := at_ hd
    unfold ckCls at q
    simp only [Bool.and_eq_true, List.all_eq_true, decide_eq_true_eq] at q
    exact q.2.2.2.2.1 n hn
  · have q := at_ hd
    unfold ckCls at q
    simp only [Bool.and_eq_true, List.all_eq_true] at q
    refine He.eqO_ok (q.2.2.2.2.2 f ?_)
    unfold fldKnown at hf
    exact List.contains_iff_mem.mp hf
  · exact PySem.W.mg_none_of X Gm (He.eqO_ok (List.all_eq_true.mp b1 x hx))
  · have m := PySem.mem_of_lookup hx
    unfold Lw.G at m
    simp only [List.mem_append, List.mem_map] at m
    rcases m with ⟨dd, _, e⟩ | ⟨cc, hc, e⟩ | ⟨kk, _, e⟩ | ⟨ii, _, e⟩ | ⟨zz, hz, e⟩
    rotate_left 4
    · cases e
    · cases e
    · cases e
      have hh : (l.W K).has d = true := List.contains_iff_mem.mpr hc
      have q := at_ hh
      unfold ckCls at q
      simp only [Bool.and_eq_true] at q
      exact ⟨hh, PySem.W.mg_of X Gm (He.eqO_ok q.1.1), q.1.2.1⟩
    · cases e
    · cases e
  · have q := at_ hd
    unfold ckCls at q
    simp only [Bool.and_eq_true, decide_eq_true_eq, h1, if_true, List.all_eq_true] at q
    have q9 := q.2.1.2.2.2.2.2.2.2 e (has_mem (K := K) he)
    have q10 : PySem.W.exmOne K (.ref (cA K d)) (.ref (cA K e)) = some (d.under e) := by simpa [h2] using q9
    exact q10
  · have q := at_ hd
    have he := (plain_facts hp).1
    unfold ckCls at q
    simp only [Bool.and_eq_true, decide_eq_true_eq, he, if_true, hp, Bool.not_true, Bool.false_or] at q
    obtain ⟨_, ⟨_, _, _, q7, _, q9, q10, _⟩, _⟩ := q
    exact ⟨_, _, _, _, PySem.F.excBase_ValueError, q10, fun M h k => ⟨PySem.W.looks_subIn k q7, PySem.W.looks_typeIn k q9⟩⟩
  · have m := PySem.mem_of_lookup hx
    unfold Lw.G at m
    simp only [List.mem_append, List.mem_map] at m
    rcases m with ⟨dd, _, e⟩ | ⟨cc, hc, e⟩ | ⟨kk, hk, e⟩ | ⟨ii, _, e⟩ | ⟨zz, hz, e⟩
    rotate_left 4
    · cases e
    · cases e
    · cases e
    · cases e
      have q := List.all_eq_true.mp b6 kk hk
      split at q
      · rename_i u hu
        obtain ⟨v, g1, g2⟩ := conB_ok (W := ⟨K, (l.W K).C, (l.W K).has, P, w⟩) q
        refine ⟨kk.2.2, v, u, ?_, PySem.W.mg_of X Gm hu, g1, g2⟩
        show ((l.ks.find? fun k => k.2.1 == kk.2.1).map (·.2.2)) = some kk.2.2
        rw [find_key nd hk]
        rfl
      · cases q
    · cases e
  · have m := PySem.mem_of_lookup hx
    unfold Lw.G at m
    simp only [List.mem_append, List.mem_map] at m
    rcases m with ⟨dd, _, e⟩ | ⟨cc, hc, e⟩ | ⟨kk, hk, e⟩ | ⟨p, hp, e⟩ | ⟨zz, hz, e⟩
    rotate_left 4
    · cases e
    · cases e
    · cases e
    · cases e
    · cases e
      have q := List.all_eq_true.mp b8 p hp
      have hfi := hf
      unfold Lw.fns at hfi
      rw [Bool.and_eq_true] at hfi
      have qf := List.all_eq_true.mp hfi.2 p hp
      unfold ckIni at q
      rw [Bool.and_eq_true, Bool.and_eq_true] at q
      obtain ⟨q1, q0, q2⟩ := q
      refine ⟨q1, fun hx => ?_, fun hx => ?_⟩
      · cases hp2 : p.2 with
        | none =>
          rw [hp2] at q2
          simp only [Bool.and_eq_true, decide_eq_true_eq] at q2
          exact .inl ⟨q2.1.1, q2.2.1, He.eqO_ok q2.2.2.1, q2.2.2.2, q0⟩
        | some x =>
          rw [hp2] at q2 qf
          simp only at q2 qf
          split at q2
          · cases q2
          · rename_i d hd
            rw [hd] at qf
            simp only [hx, Bool.false_eq_true, if_false] at q2 qf
            simp only [Bool.and_eq_true] at q2
            obtain ⟨hm, hd2⟩ := find_some' hd
            obtain ⟨oc, od, osl, kV, doc, pm, an, cdv, ct, g1, g2⟩ := cq.def_ (d := ⟨d.at_, "__init__", Str.ofString d.qual, defArgs d.st, defBody d.st, defScope d.st⟩) (by unfold Lw.fn; exact List.mem_append_right _ (List.mem_map_of_mem hm))
            exact .inr ⟨_, _, _, _, d.st, d.N, ⟨q2.2.1, He.eqO_ok q2.1, q2.2.2, q0⟩, fun_mk g1 g2 (List.all_eq_true.mp b7 d hm), qf⟩
      · cases hp2 : p.2 with
        | none =>
          rw [hp2] at q2
          simp only [Bool.and_eq_true, decide_eq_true_eq, hx] at q2
          simp at q2
        | some x =>
          rw [hp2] at q2 qf
          simp only at q2 qf
          split at q2
          · cases q2
          · rename_i d hd
            rw [hd] at qf
            simp only [hx, if_true] at q2 qf
            simp only [Bool.and_eq_true, decide_eq_true_eq] at q2
            obtain ⟨hm, hd2⟩ := find_some' hd
            obtain ⟨oc, od, osl, kV, doc, pm, an, cdv, ct, g1, g2⟩ := cq.def_ (d := ⟨d.at_, "__init__", Str.ofString d.qual, defArgs d.st, defBody d.st, defScope d.st⟩) (by unfold Lw.fn; exact List.mem_append_right _ (List.mem_map_of_mem hm))
            obtain ⟨z1, ⟨z2, z3, z4, z5⟩, z6, z7, z8, z9, z10⟩ := q2
            refine ⟨_, _, _, _, d.st, d.N, ⟨oexB_ok z2, He.eqO_ok z3, z4, z5, q0⟩, He.eqO_ok z1, z6, fun_mk g1 g2 (List.all_eq_true.mp b7 d hm), qf, fun y hy => ?_⟩
            have hsay : (l.W K).has .SayError = true := z7
            have my : mg y = some (.ref (cA K .SayError)) := by
              have m := PySem.mem_of_lookup hy
              unfold Lw.G at m
              simp only [List.mem_append, List.mem_map] at m
              rcases m with ⟨dd, _, e⟩ | ⟨cc, hc, e⟩ | ⟨kk, hk, e⟩ | ⟨p, hp, e⟩ | ⟨zz, hz, e⟩
              rotate_left 4
              · cases e
              · cases e
              · cases e
                have q := at_ hsay
                unfold ckCls at q
                simp only [Bool.and_eq_true] at q
                exact PySem.W.mg_of X Gm (He.eqO_ok q.1.1)
              · cases e
              · cases e
            refine ⟨my, z8, z9, ?_⟩
            split at z10
            · rename_i i hi
              rw [beq_iff_eq] at z10
              subst z10
              exact hi
            · cases z10
  · have m := PySem.mem_of_lookup hx
    unfold Lw.G at m
    simp only [List.mem_append, List.mem_map] at m
    rcases m with ⟨dd, _, e⟩ | ⟨cc, hc, e⟩ | ⟨kk, hk, e⟩ | ⟨ii, _, e⟩ | ⟨zz, hz, e⟩
    · cases e
    · cases e
    · cases e
    · cases e
    · cases e
      have q := List.all_eq_true.mp b10 zz hz
      unfold ckDk at q
      rw [Bool.and_eq_true] at q
      obtain ⟨es, n, kd1, kd2, _⟩ := He.dicW_ok (cq.tab (t := (Str.ofString zz.1, zz.2.2.map (·.1))) (by unfold Lw.ts; exact List.mem_map_of_mem hz))
      refine ⟨zz.2.2, He.ga K (Str.ofString zz.1), ?_, PySem.W.mg_of X Gm (He.eqO_ok q.1), fun z d hzd => ?_⟩
      · show ((l.dks.find? fun k => k.2.1 == zz.2.1).map (·.2.2)) = some zz.2.2
        rw [find_key ndd hz]
        rfl
      · have q2 := List.all_eq_true.mp q.2 (z, d) (lookup_mem hzd)
        simp only at q2
        split at q2
        · rename_i u hu
          obtain ⟨v, g1, g2⟩ := conB_ok (W := ⟨K, (l.W K).C, (l.W K).has, P, w⟩) q2
          exact ⟨v, ⟨es, n, u, kd1, kd2, hu, g1⟩, g2⟩
        · cases q2
where
  find_key {α : Type} {f : α → String} : ∀ {ks : List α} {k : α}, (ks.map f).Nodup → k ∈ ks → (ks.find? fun z => f z == f k) = some k
    | [], _, _, h => nomatch h
    | z :: ks, k, nd, h => by
      rw [List.map_cons, List.nodup_cons] at nd
      rw [List.find?_cons]
      rcases List.mem_cons.mp h with e | e
      · subst e; simp
      · have : (f z == f k) = false := by
          rw [beq_eq_false_iff_ne]
          exact fun e2 => nd.1 (e2 ▸ List.mem_map_of_mem e)
        rw [this]
        exact find_key nd.2 e
theorem defAt_ok (c : SaysQ l.ck l.fn l.ts w K) (nd : (l.ds.map (·.key)).Nodup) (hf : l.fns = true) {dd : DD} (hd : dd ∈ l.ds) : ∃ fd ps, DefAt (l.W K) l.G K dd.key (He.fAd K dd.at_) fd ps := by
  have ck := c.ck
  unfold Lw.ck at ck
  simp only [Bool.and_eq_true] at ck
  have q := List.all_eq_true.mp ck.2.1 dd hd
  rw [Bool.and_eq_true] at q
  unfold Lw.fns at hf
  rw [Bool.and_eq_true] at hf
  obtain ⟨oc, od, osl, kV, doc, pm, an, cdv, ct, g1, g2⟩ := c.def_ (d := ⟨dd.at_, Str.ofString dd.nm, Str.ofString dd.qual, defArgs dd.st, defBody dd.st, defScope dd.st⟩) (by unfold Lw.fn; exact List.mem_append_left _ (List.mem_map_of_mem hd))
  refine ⟨_, _, dd.g, Str.ofString dd.nm, Str.ofString dd.qual, dd.st, dd.N, ?_, fun_mk g1 g2 q.2, List.all_eq_true.mp hf.1 dd hd, rfl⟩
  show ((l.ds.find? fun d => d.key == dd.key).map (·.g)) = some dd.g
  rw [sOk.find_key nd hd]
  rfl
theorem defs_ok (X : K.In h) (Gm : h.Ns mainGlobals mg) (c : SaysQ l.ck l.fn l.ts w K) (nd : (l.ds.map (·.key)).Nodup) (hf : l.fns = true) (x : Str) (f : String) (hx : l.G.lookup x = some (.fn f)) : DefOk (l.W K) l.G K mg x f := by
  have m := PySem.mem_of_lookup hx
  unfold Lw.G at m
  simp only [List.mem_append, List.mem_map] at m
  rcases m with ⟨dd, hd, e⟩ | ⟨cc, hc, e⟩ | ⟨kk, hk, e⟩ | ⟨p, hp, e⟩ | ⟨zz, hz, e⟩
  rotate_left 4
  · cases e
  · cases e
    obtain ⟨hd, hn⟩ := List.mem_filter.mp hd
    obtain ⟨fd, ps, D⟩ := defAt_ok c nd hf hd
    have ck := c.ck
    unfold Lw.ck at ck
    simp only [Bool.and_eq_true] at ck
    have q := List.all_eq_true.mp ck.2.1 dd hd
    rw [Bool.and_eq_true] at q
    have em : dd.m = none := by simpa using hn
    have q1 := q.1
    rw [em] at q1
    simp only [Option.isSome_none, Bool.false_or] at q1
    refine ⟨_, fd, ps, ?_, D⟩
    have ea : He.fAd K dd.at_ = He.ga K (Str.ofString dd.x) := by unfold DD.at_; rw [em]; rfl
    rw [ea]
    exact PySem.W.mg_of X Gm (He.eqO_ok q1)
  · cases e
  · cases e
  · cases e
theorem mts_ok (c : SaysQ l.ck l.fn l.ts w K) (nd : (l.ds.map (·.key)).Nodup) (hf : l.fns = true) (d : Cn) (m f : String) (hx : l.T.meth d m = some f) : MtOk (l.W K) l.G K d m f := by
  obtain ⟨p, hp, e⟩ := Option.map_eq_some_iff.mp hx
  obtain ⟨p1, p2⟩ := find_some' hp
  simp only [Bool.and_eq_true, beq_iff_eq] at p2
  obtain ⟨e1, e2⟩ := p2
  subst e1 e2 e
  have ck := c.ck
  unfold Lw.ck at ck
  simp only [Bool.and_eq_true] at ck
  have q := List.all_eq_true.mp ck.2.2.1.2.2.2 p p1
  unfold ckMt at q
  simp only [Bool.and_eq_true, Bool.not_eq_true'] at q
  obtain ⟨⟨q1, q2⟩, q3⟩ := q
  split at q3
  · cases q3
  · rename_i dd hd
    simp only [Bool.and_eq_true] at q3
    obtain ⟨h1, h2⟩ := find_some' hd
    obtain ⟨fd, ps, D⟩ := defAt_ok c nd hf h1
    rw [beq_iff_eq.mp h2] at D
    exact ⟨⟨q1, q2⟩, _, fd, ps, ⟨He.eqO_ok q3.1, q3.2.1, q3.2.2⟩, D⟩
end
/-- THE WALK: what mine computes at every script, the given law answers -/
theorem law_walk {l : PySem.W.OpenLaw} {q : Program} {loose : List Str} {XP : (Str → Option Value) → Heap → Prop} {d : DefRec} {n : Nat} (lw : Lw) (k : Nat)
    (hn : l.most = some 63) (hdf : d.params.defaults = []) (hr : Room (k + 2) callerA) (dn : d.name = ("law" : Str)) (nd : (lw.ds.map (·.key)).Nodup) (nk : (lw.ks.map (·.2.1)).Nodup) (nkd : (lw.dks.map (·.2.1)).Nodup) (hf : lw.fns = true) (hl : lw.G.lookup ("law" : Str) = some (.fn "law")) (hp : ∃ g, lw.T.fn "law" = some g ∧ g.np = 1)
    (hv : ∀ ns : List Int, ns.length ≤ 63 → (∀ z ∈ ns, Builtin.Int.intBits z ≤ 1048576) → ∃ h, Q.call lw.T k "law" [.ref 0] [.frz (ns.map D.int)] = .ok (.bl true) h) :
    PySem.W.WalkO q loose XP (hookQ n lw.ck lw.fn lw.ts).says l.row.toRowW d [] (fun f vs => PySem.call f vs) := by
  refine Att.attach_callB hn hdf fun w s0 s1 mg mb fa o pm cd doc a vs ns G Yx ho hd hcd hmg hobj hints hlen hbits hg => ?_
  obtain ⟨K, KX, nl, c⟩ := Yx
  have S := sOk l.prog KX G.T.g c nk nkd hf
  have DD := fun x f hx => defs_ok KX G.T.g c nd hf x f hx
  have MM := fun d m f hx => mts_ok c nd hf d m f hx
  obtain ⟨fa', fd, ps, m1, at_⟩ := DD "law" "law" hl
  obtain ⟨m2, _, m5, g, m6, m7⟩ := at_.facts
  rw [dn, m1] at hmg
  cases hmg
  obtain ⟨g', e1, e2⟩ := hp
  have e3 : g = g' := Option.some.inj (m6.symm.trans e1)
  subst e3
  have hlen1 : ps.length = 1 := m7.trans e2
  obtain ⟨x, rfl⟩ : ∃ x, ps = [x] := List.length_eq_one_iff.mp hlen1
  have base_ : ∀ base : Heap, K.In base → base.Ns mainGlobals mg → FnOk l.prog w K mg base (L2.CX l.prog w) (k + 2) fa fd [x] (spF ⟨K, (lw.W K).C, (lw.W K).has, l.prog, w⟩ lw.T "law" k) := fun base _ _ => fns_ok S DD MM k "law" fa fd [x] at_
  refine law_call KX G.T.g G.T.b G.T.builtins G.T.nolimit hg hobj hints (Nat.le_trans hlen (by decide)) hr base_ (fun s u => L2.BindsTo.of_looks fun M => ?_) (fun H hO hS => ?_) fun H e s' z => ?_
  · rw [m5 [u] rfl]
    exact PySem.W.Looks.of_pure rfl
  · obtain ⟨h', hh⟩ := hv ns hlen hbits
    have hfz : ∃ ob, H a = some (.frz ob (.lst (ns.map V.int))) := by
      rcases hS with (hS | ⟨ob, hS⟩) | ⟨ob, its, n, hS, hc, _⟩
      · rcases hO a with z | ⟨o, xs, z⟩ <;> rw [z] at hS <;> cases hS
      · exact ⟨ob, hS⟩
      · exact absurd hc (nl _ _ hS)
    obtain ⟨ob, hfz⟩ := hfz
    have ints_rv : ∀ (r : List Addr) (H : Hp) (ns : List Int), Rvs ⟨K, (lw.W K).C, (lw.W K).has, l.prog, w⟩ r H (ns.map D.int) (ns.map V.int) := fun r H ns => by
      induction ns with
      | nil => exact .nil
      | cons n ns ih => exact .cons (.int n) ih
    refine ⟨[a], [.frz (ns.map D.int)], [.ref 0], ⟨rfl, by simp, fun i b o h1 h2 => ?_⟩, .cons (.ref rfl) .nil, ?_⟩
    · cases i with
      | succ i => simp at h1
      | zero =>
        cases h1
        cases h2
        exact ⟨ob, _, hfz, ints_rv _ _ ns⟩
    · show Post _ _ _ _ _ _ (Q.call lw.T k "law" [.ref 0] [.frz (ns.map D.int)]) _
      rw [hh]
      intro r' H' v x m rv
      cases rv
      rfl
  · obtain ⟨_, _, _, _, _, _, _, _, _, _, _, _, z⟩ := z
    exact z
end Q

namespace Q
def f_points_is_point : Fn := ⟨1, 5, (.cons (.ite (.or (.cons (.not (.isi (.v 0) [.ttuple])) (.cons (.cmp .ne (.b .len (.cons (.v 0) .nil)) (.k (.int 3))) .nil))) (.cons (.ret (.k (.bl false))) .nil) .nil) (.cons (.for (.one 1) (.sq (.v 0)) (.cons (.ite (.or (.cons (.not (.isi (.v 1) [.tint])) (.cons (.isi (.v 1) [.tbool]) .nil))) (.cons (.ret (.k (.bl false))) .nil) .nil) .nil)) (.cons (.setT [2, 3, 4] (.v 0)) (.cons (.ret (.and (.cons (.cmp .ge (.v 2) (.k (.int 1))) (.cons (.chn .le .le (.k (.int 0)) (.v 3) (.v 2)) (.cons (.chn .le .le (.k (.int 0)) (.v 4) (.v 2)) .nil))))) .nil))))⟩
def f_rows_is_place : Fn := ⟨2, 2, (.cons (.ret (.and (.cons (.isi (.v 0) [.tint]) (.cons (.not (.isi (.v 0) [.tbool])) (.cons (.chn .le .lt (.k (.int 0)) (.v 0) (.v 1)) .nil))))) .nil)⟩
def f_rows_is_row : Fn := ⟨2, 4, (.cons (.ite (.or (.cons (.not (.isi (.v 0) [.ttuple])) (.cons (.cmp .eq (.b .len (.cons (.v 0) .nil)) (.k (.int 0))) (.cons (.not (.isi (.sub (.v 0) (.k (.int 0))) [.tstr])) .nil)))) (.cons (.ret (.k (.bl false))) .nil) .nil) (.cons (.set 2 (.k (.int 0))) (.cons (.ite (.cmp .isin (.sub (.v 0) (.k (.int 0))) (.g "rows.PLAIN")) (.cons (.set 2 (.k (.int 1))) .nil) (.cons (.ite (.cmp .eq (.sub (.v 0) (.k (.int 0))) (.k (.str (S "not")))) (.cons (.set 2 (.k (.int 2))) .nil) (.cons (.ite (.cmp .isin (.sub (.v 0) (.k (.int 0))) (.g "rows.FOLDS")) (.cons (.set 2 (.k (.int 3))) .nil) .nil) .nil)) .nil)) (.cons (.ret (.and (.cons (.cmp .eq (.b .len (.cons (.v 0) .nil)) (.v 2)) (.cons (.b .all (.cons (.comp (.call "rows.is_place" (.cons (.v 3) (.cons (.v 1) .nil))) (.one 3) (.sq (.slc (.v 0) (.some (.k (.int 1))) .none)) .none [3]) .nil)) .nil)))) .nil))))⟩
def f_rows_rows_fault : Fn := ⟨1, 3, (.cons (.ite (.cmp .eq (.b .len (.cons (.v 0) .nil)) (.k (.int 0))) (.cons (.ret (.k (.int 0))) .nil) .nil) (.cons (.for (.many [1, 2]) (.enum (.v 0)) (.cons (.ite (.or (.cons (.cmp .ge (.v 1) (.g "rows.MOST")) (.cons (.not (.call "rows.is_row" (.cons (.v 2) (.cons (.v 1) .nil)))) .nil))) (.cons (.ret (.v 1)) .nil) .nil) .nil)) (.cons (.ret (.k .non)) .nil)))⟩
def f_rows_asked_rows : Fn := ⟨1, 2, (.cons (.set 1 (.call "rows.rows_fault" (.cons (.v 0) .nil))) (.cons (.ite (.isn (.v 1) true) (.cons (.raise .NoRows (.cons (.v 1) .nil)) .nil) .nil) .nil))⟩
def f_rows_fold_out_of : Fn := ⟨4, 4, (.cons (.ite (.cmp .eq (.v 0) (.k (.str (S "more")))) (.cons (.ret (.b .min (.cons (.bin .add (.v 1) (.v 2)) (.cons (.v 3) .nil)))) .nil) .nil) (.cons (.ite (.cmp .eq (.v 0) (.k (.str (S "less")))) (.cons (.ret (.b .max (.cons (.bin .sub (.bin .add (.v 1) (.v 2)) (.v 3)) (.cons (.k (.int 0)) .nil)))) .nil) .nil) (.cons (.ite (.cmp .eq (.v 0) (.k (.str (S "greater")))) (.cons (.ret (.b .max (.cons (.v 1) (.cons (.v 2) .nil)))) .nil) .nil) (.cons (.ite (.cmp .eq (.v 0) (.k (.str (S "lesser")))) (.cons (.ret (.b .min (.cons (.v 1) (.cons (.v 2) .nil)))) .nil) .nil) (.cons (.ret (.b .min (.cons (.bin .add (.bin .sub (.v 3) (.v 1)) (.v 2)) (.cons (.v 3) .nil)))) .nil)))))⟩
def f_rows_worth_of_rows : Fn := ⟨2, 8, (.cons (.ex (.call "rows.asked_rows" (.cons (.v 0) .nil))) (.cons (.ite (.not (.call "points.is_point" (.cons (.v 1) .nil))) (.cons (.raise .NoPoint (.cons (.k (.str (S "no point"))) .nil)) .nil) .nil) (.cons (.setT [2, 3, 4] (.v 1)) (.cons (.set 5 (.dic false (.cons (.k (.str (S "never"))) (.cons (.k (.int 0)) (.cons (.k (.str (S "always"))) (.cons (.v 2) (.cons (.k (.str (S "p"))) (.cons (.v 3) (.cons (.k (.str (S "q"))) (.cons (.v 4) .nil)))))))))) (.cons (.set 6 (.lst .nil)) (.cons (.for (.one 7) (.sq (.v 0)) (.cons (.ite (.cmp .eq (.b .len (.cons (.v 7) .nil)) (.k (.int 1))) (.cons (.ex (.bm .append (.v 6) (.cons (.sub (.v 5) (.sub (.v 7) (.k (.int 0)))) .nil))) .nil) (.cons (.ite (.cmp .eq (.b .len (.cons (.v 7) .nil)) (.k (.int 2))) (.cons (.ex (.bm .append (.v 6) (.cons (.bin .sub (.v 2) (.sub (.v 6) (.sub (.v 7) (.k (.int 1))))) .nil))) .nil) (.cons (.ex (.bm .append (.v 6) (.cons (.call "rows.fold_out_of" (.cons (.sub (.v 7) (.k (.int 0))) (.cons (.sub (.v 6) (.sub (.v 7) (.k (.int 1)))) (.cons (.sub (.v 6) (.sub (.v 7) (.k (.int 2)))) (.cons (.v 2) .nil))))) .nil))) .nil)) .nil)) .nil)) (.cons (.ret (.sub (.v 6) (.neg (.k (.int 1))))) .nil)))))))⟩
def f_fractions_shared : Fn := ⟨2, 5, (.cons (.set 2 (.b .abs (.cons (.v 0) .nil))) (.cons (.set 3 (.b .abs (.cons (.v 1) .nil))) (.cons (.whl (.cmp .gt (.v 3) (.k (.int 0))) (.cons (.set 4 (.bin .mod (.v 2) (.v 3))) (.cons (.set 2 (.v 3)) (.cons (.set 3 (.v 4)) .nil)))) (.cons (.ret (.v 2)) .nil))))⟩
def f_fractions_fraction : Fn := ⟨2, 3, (.cons (.ite (.cmp .eq (.v 1) (.k (.int 0))) (.cons (.raise .NoNumber (.cons (.k (.str (S "nothing is divided by nought"))) .nil)) .nil) .nil) (.cons (.set 2 (.call "fractions.shared" (.cons (.v 0) (.cons (.v 1) .nil)))) (.cons (.ite (.cmp .lt (.v 1) (.k (.int 0))) (.cons (.set 2 (.neg (.v 2))) .nil) .nil) (.cons (.ret (.tup (.cons (.bin .fdiv (.v 0) (.v 2)) (.cons (.bin .fdiv (.v 1) (.v 2)) .nil)))) .nil))))⟩
def f_fractions_less : Fn := ⟨2, 2, (.cons (.ret (.cmp .lt (.bin .mul (.sub (.v 0) (.k (.int 0))) (.sub (.v 1) (.k (.int 1)))) (.bin .mul (.sub (.v 1) (.k (.int 0))) (.sub (.v 0) (.k (.int 1)))))) .nil)⟩
def f_lines_rule_at : Fn := ⟨2, 2, (.cons (.ret (.call "fractions.fraction" (.cons (.bin .add (.bin .mul (.sub (.v 0) (.k (.int 1))) (.sub (.v 1) (.k (.int 0)))) (.bin .mul (.sub (.v 0) (.k (.int 2))) (.sub (.v 1) (.k (.int 1))))) (.cons (.sub (.v 1) (.k (.int 1))) .nil)))) .nil)⟩
def f_lines_joined : Fn := ⟨1, 3, (.cons (.set 1 (.lst .nil)) (.cons (.for (.one 2) (.sq (.v 0)) (.cons (.ite (.and (.cons (.cmp .ne (.v 1) (.lst .nil)) (.cons (.cmp .eq (.slc (.sub (.v 1) (.neg (.k (.int 1)))) (.some (.k (.int 1))) .none) (.slc (.v 2) (.some (.k (.int 1))) .none)) .nil))) (.cons (.setI (.v 1) (.neg (.k (.int 1))) (.v 2)) .nil) (.cons (.ex (.bm .append (.v 1) (.cons (.v 2) .nil))) .nil)) .nil)) (.cons (.ret (.b .tuple (.cons (.v 1) .nil))) .nil)))⟩
def f_lineworks_level : Fn := ⟨1, 1, (.cons (.ret (.tup (.cons (.tup (.cons (.g "lines.ONE") (.cons (.k (.int 0)) (.cons (.v 0) .nil)))) .nil))) .nil)⟩
def f_lineworks_pieces : Fn := ⟨2, 8, (.cons (.set 2 (.lst .nil)) (.cons (.set 3 (.k (.int 0))) (.cons (.set 4 (.k (.int 0))) (.cons (.whl (.and (.cons (.cmp .lt (.v 3) (.b .len (.cons (.v 0) .nil))) (.cons (.cmp .lt (.v 4) (.b .len (.cons (.v 1) .nil))) .nil))) (.cons (.set 5 (.sub (.v 0) (.v 3))) (.cons (.set 6 (.sub (.v 1) (.v 4))) (.cons (.set 7 (.sub (.v 5) (.k (.int 0)))) (.cons (.ite (.call "fractions.less" (.cons (.sub (.v 6) (.k (.int 0))) (.cons (.v 7) .nil))) (.cons (.set 7 (.sub (.v 6) (.k (.int 0)))) .nil) .nil) (.cons (.ex (.bm .append (.v 2) (.cons (.tup (.cons (.v 7) (.cons (.v 5) (.cons (.v 6) .nil)))) .nil))) (.cons (.ite (.cmp .eq (.sub (.v 5) (.k (.int 0))) (.v 7)) (.cons (.set 3 (.bin .add (.v 3) (.k (.int 1)))) .nil) .nil) (.cons (.ite (.cmp .eq (.sub (.v 6) (.k (.int 0))) (.v 7)) (.cons (.set 4 (.bin .add (.v 4) (.k (.int 1)))) .nil) .nil) .nil)))))))) (.cons (.ret (.v 2)) .nil)))))⟩
def f_lineworks_added : Fn := ⟨2, 5, (.cons (.ret (.call "lines.joined" (.cons (.comp (.tup (.cons (.v 2) (.cons (.bin .add (.sub (.v 3) (.k (.int 1))) (.sub (.v 4) (.k (.int 1)))) (.cons (.bin .add (.sub (.v 3) (.k (.int 2))) (.sub (.v 4) (.k (.int 2)))) .nil)))) (.many [2, 3, 4]) (.sq (.call "lineworks.pieces" (.cons (.v 0) (.cons (.v 1) .nil)))) .none [2, 3, 4]) .nil))) .nil)⟩
def f_lineworks_turned : Fn := ⟨1, 2, (.cons (.ret (.b .tuple (.cons (.comp (.tup (.cons (.sub (.v 1) (.k (.int 0))) (.cons (.neg (.sub (.v 1) (.k (.int 1)))) (.cons (.neg (.sub (.v 1) (.k (.int 2)))) .nil)))) (.one 1) (.sq (.v 0)) .none [1]) .nil))) .nil)⟩
def f_lineworks_raised : Fn := ⟨2, 3, (.cons (.ret (.b .tuple (.cons (.comp (.tup (.cons (.sub (.v 2) (.k (.int 0))) (.cons (.sub (.v 2) (.k (.int 1))) (.cons (.bin .add (.sub (.v 2) (.k (.int 2))) (.v 1)) .nil)))) (.one 2) (.sq (.v 0)) .none [2]) .nil))) .nil)⟩
def f_lineworks_higher : Fn := ⟨4, 6, (.cons (.set 4 (.call "fractions.less" (.cons (.call "lines.rule_at" (.cons (.v 2) (.cons (.v 0) .nil))) (.cons (.call "lines.rule_at" (.cons (.v 3) (.cons (.v 0) .nil))) .nil)))) (.cons (.set 5 (.call "fractions.less" (.cons (.call "lines.rule_at" (.cons (.v 2) (.cons (.v 1) .nil))) (.cons (.call "lines.rule_at" (.cons (.v 3) (.cons (.v 1) .nil))) .nil)))) (.cons (.ite (.and (.cons (.v 4) (.cons (.call "fractions.less" (.cons (.call "lines.rule_at" (.cons (.v 3) (.cons (.v 1) .nil))) (.cons (.call "lines.rule_at" (.cons (.v 2) (.cons (.v 1) .nil))) .nil))) .nil))) (.cons (.ret (.lst (.cons (.tup (.cons (.call "lineworks.crossing" (.cons (.v 2) (.cons (.v 3) .nil))) (.cons (.sub (.v 3) (.k (.int 1))) (.cons (.sub (.v 3) (.k (.int 2))) .nil)))) (.cons (.tup (.cons (.v 1) (.cons (.sub (.v 2) (.k (.int 1))) (.cons (.sub (.v 2) (.k (.int 2))) .nil)))) .nil)))) .nil) .nil) (.cons (.ite (.and (.cons (.v 5) (.cons (.call "fractions.less" (.cons (.call "lines.rule_at" (.cons (.v 3) (.cons (.v 0) .nil))) (.cons (.call "lines.rule_at" (.cons (.v 2) (.cons (.v 0) .nil))) .nil))) .nil))) (.cons (.ret (.lst (.cons (.tup (.cons (.call "lineworks.crossing" (.cons (.v 2) (.cons (.v 3) .nil))) (.cons (.sub (.v 2) (.k (.int 1))) (.cons (.sub (.v 2) (.k (.int 2))) .nil)))) (.cons (.tup (.cons (.v 1) (.cons (.sub (.v 3) (.k (.int 1))) (.cons (.sub (.v 3) (.k (.int 2))) .nil)))) .nil)))) .nil) .nil) (.cons (.ite (.or (.cons (.v 4) (.cons (.v 5) .nil))) (.cons (.ret (.lst (.cons (.tup (.cons (.v 1) (.cons (.sub (.v 3) (.k (.int 1))) (.cons (.sub (.v 3) (.k (.int 2))) .nil)))) .nil))) .nil) .nil) (.cons (.ret (.lst (.cons (.tup (.cons (.v 1) (.cons (.sub (.v 2) (.k (.int 1))) (.cons (.sub (.v 2) (.k (.int 2))) .nil)))) .nil))) .nil))))))⟩
def f_lineworks_crossing : Fn := ⟨2, 2, (.cons (.ret (.call "fractions.fraction" (.cons (.bin .sub (.sub (.v 1) (.k (.int 2))) (.sub (.v 0) (.k (.int 2)))) (.cons (.bin .sub (.sub (.v 0) (.k (.int 1))) (.sub (.v 1) (.k (.int 1)))) .nil)))) .nil)⟩
def f_lineworks_greater_line : Fn := ⟨2, 7, (.cons (.set 2 (.lst .nil)) (.cons (.set 3 (.g "lines.NOUGHT")) (.cons (.for (.many [4, 5, 6]) (.sq (.call "lineworks.pieces" (.cons (.v 0) (.cons (.v 1) .nil)))) (.cons (.ex (.bm .extend (.v 2) (.cons (.call "lineworks.higher" (.cons (.v 3) (.cons (.v 4) (.cons (.v 5) (.cons (.v 6) .nil))))) .nil))) (.cons (.set 3 (.v 4)) .nil))) (.cons (.ret (.call "lines.joined" (.cons (.v 2) .nil))) .nil))))⟩
def f_lineworks_lesser_line : Fn := ⟨2, 2, (.cons (.ret (.call "lineworks.turned" (.cons (.call "lineworks.greater_line" (.cons (.call "lineworks.turned" (.cons (.v 0) .nil)) (.cons (.call "lineworks.turned" (.cons (.v 1) .nil)) .nil))) .nil))) .nil)⟩
def f_lineworks_cut_off : Fn := ⟨1, 1, (.cons (.ret (.call "lineworks.greater_line" (.cons (.call "lineworks.lesser_line" (.cons (.v 0) (.cons (.call "lineworks.level" (.cons (.k (.int 1)) .nil)) .nil))) (.cons (.call "lineworks.level" (.cons (.k (.int 0)) .nil)) .nil)))) .nil)⟩
def f_meanings_fold_line : Fn := ⟨3, 3, (.cons (.ite (.cmp .eq (.v 0) (.k (.str (S "more")))) (.cons (.ret (.call "lineworks.cut_off" (.cons (.call "lineworks.added" (.cons (.v 1) (.cons (.v 2) .nil))) .nil))) .nil) .nil) (.cons (.ite (.cmp .eq (.v 0) (.k (.str (S "less")))) (.cons (.ret (.call "lineworks.cut_off" (.cons (.call "lineworks.raised" (.cons (.call "lineworks.added" (.cons (.v 1) (.cons (.v 2) .nil))) (.cons (.neg (.k (.int 1))) .nil))) .nil))) .nil) .nil) (.cons (.ite (.cmp .eq (.v 0) (.k (.str (S "greater")))) (.cons (.ret (.call "lineworks.greater_line" (.cons (.v 1) (.cons (.v 2) .nil)))) .nil) .nil) (.cons (.ite (.cmp .eq (.v 0) (.k (.str (S "lesser")))) (.cons (.ret (.call "lineworks.lesser_line" (.cons (.v 1) (.cons (.v 2) .nil)))) .nil) .nil) (.cons (.ret (.call "lineworks.cut_off" (.cons (.call "lineworks.raised" (.cons (.call "lineworks.added" (.cons (.v 2) (.cons (.call "lineworks.turned" (.cons (.v 1) .nil)) .nil))) (.cons (.k (.int 1)) .nil))) .nil))) .nil)))))⟩
def f_meanings_row_line : Fn := ⟨2, 2, (.cons (.ite (.cmp .eq (.sub (.v 0) (.k (.int 0))) (.k (.str (S "never")))) (.cons (.ret (.call "lineworks.level" (.cons (.k (.int 0)) .nil))) .nil) .nil) (.cons (.ite (.cmp .eq (.sub (.v 0) (.k (.int 0))) (.k (.str (S "always")))) (.cons (.ret (.call "lineworks.level" (.cons (.k (.int 1)) .nil))) .nil) .nil) (.cons (.ite (.cmp .eq (.sub (.v 0) (.k (.int 0))) (.k (.str (S "p")))) (.cons (.ret (.g "meanings.LETTER_LINE")) .nil) .nil) (.cons (.ite (.cmp .eq (.sub (.v 0) (.k (.int 0))) (.k (.str (S "not")))) (.cons (.ret (.call "lineworks.raised" (.cons (.call "lineworks.turned" (.cons (.sub (.v 1) (.sub (.v 0) (.k (.int 1)))) .nil)) (.cons (.k (.int 1)) .nil)))) .nil) .nil) (.cons (.ret (.call "meanings.fold_line" (.cons (.sub (.v 0) (.k (.int 0))) (.cons (.sub (.v 1) (.sub (.v 0) (.k (.int 1)))) (.cons (.sub (.v 1) (.sub (.v 0) (.k (.int 2)))) .nil))))) .nil)))))⟩
def f_meanings_last_line : Fn := ⟨1, 3, (.cons (.set 1 (.lst .nil)) (.cons (.for (.one 2) (.sq (.v 0)) (.cons (.ex (.bm .append (.v 1) (.cons (.call "meanings.row_line" (.cons (.v 2) (.cons (.v 1) .nil))) .nil))) .nil)) (.cons (.ret (.sub (.v 1) (.neg (.k (.int 1))))) .nil)))⟩
def f_meanings_line_of_rows : Fn := ⟨1, 2, (.cons (.set 1 (.call "rows.rows_fault" (.cons (.v 0) .nil))) (.cons (.ite (.isn (.v 1) true) (.cons (.raise .NoRows (.cons (.v 1) .nil)) .nil) .nil) (.cons (.ite (.cmp .isin (.tup (.cons (.k (.str (S "q"))) .nil)) (.v 0)) (.cons (.raise .NoLetter (.cons (.k (.str (S "rows with the letter q"))) .nil)) .nil) .nil) (.cons (.ret (.call "meanings.last_line" (.cons (.v 0) .nil))) .nil))))⟩
def f_hulls_told_by : Fn := ⟨2, 8, (.cons (.setT [2, 3, 4] (.v 0)) (.cons (.setT [5, 6, 7] (.v 1)) (.cons (.ret (.bin .add (.bin .add (.bin .mul (.v 2) (.v 6)) (.bin .mul (.v 3) (.v 7))) (.bin .mul (.v 4) (.v 5)))) .nil)))⟩
def f_rules_sum_of : Fn := ⟨2, 3, (.cons (.ret (.b .tuple (.cons (.comp (.bin .add (.sub (.v 0) (.v 2)) (.sub (.v 1) (.v 2))) (.one 2) (.r1 (.k (.int 3))) .none [2]) .nil))) .nil)⟩
def f_rules_rest_of : Fn := ⟨2, 3, (.cons (.ret (.b .tuple (.cons (.comp (.bin .sub (.sub (.v 0) (.v 2)) (.sub (.v 1) (.v 2))) (.one 2) (.r1 (.k (.int 3))) .none [2]) .nil))) .nil)⟩
def f_rules_test_of : Fn := ⟨3, 3, (.cons (.ite (.or (.cons (.cmp .eq (.v 0) (.k (.str (S "more")))) (.cons (.cmp .eq (.v 0) (.k (.str (S "less")))) .nil))) (.cons (.ret (.call "rules.rest_of" (.cons (.call "rules.sum_of" (.cons (.v 1) (.cons (.v 2) .nil))) (.cons (.g "rules.ONE") .nil)))) .nil) .nil) (.cons (.ite (.cmp .eq (.v 0) (.k (.str (S "leads")))) (.cons (.ret (.call "rules.rest_of" (.cons (.v 2) (.cons (.v 1) .nil)))) .nil) .nil) (.cons (.ret (.call "rules.rest_of" (.cons (.v 1) (.cons (.v 2) .nil)))) .nil)))⟩
def f_rules_lower_rule : Fn := ⟨3, 3, (.cons (.ite (.cmp .eq (.v 0) (.k (.str (S "more")))) (.cons (.ret (.call "rules.sum_of" (.cons (.v 1) (.cons (.v 2) .nil)))) .nil) .nil) (.cons (.ite (.cmp .eq (.v 0) (.k (.str (S "less")))) (.cons (.ret (.tup (.cons (.k (.int 0)) (.cons (.k (.int 0)) (.cons (.k (.int 0)) .nil))))) .nil) .nil) (.cons (.ite (.cmp .eq (.v 0) (.k (.str (S "greater")))) (.cons (.ret (.v 2)) .nil) .nil) (.cons (.ite (.cmp .eq (.v 0) (.k (.str (S "lesser")))) (.cons (.ret (.v 1)) .nil) .nil) (.cons (.ret (.call "rules.rest_of" (.cons (.call "rules.sum_of" (.cons (.g "rules.ONE") (.cons (.v 2) .nil))) (.cons (.v 1) .nil)))) .nil)))))⟩
def f_rules_upper_rule : Fn := ⟨3, 3, (.cons (.ite (.cmp .eq (.v 0) (.k (.str (S "less")))) (.cons (.ret (.call "rules.rest_of" (.cons (.call "rules.sum_of" (.cons (.v 1) (.cons (.v 2) .nil))) (.cons (.g "rules.ONE") .nil)))) .nil) .nil) (.cons (.ite (.cmp .eq (.v 0) (.k (.str (S "greater")))) (.cons (.ret (.v 1)) .nil) .nil) (.cons (.ite (.cmp .eq (.v 0) (.k (.str (S "lesser")))) (.cons (.ret (.v 2)) .nil) .nil) (.cons (.ret (.g "rules.ONE")) .nil))))⟩
def f_rules_fold_rule : Fn := ⟨4, 7, (.cons (.set 4 (.call "rules.test_of" (.cons (.v 0) (.cons (.v 1) (.cons (.v 2) .nil))))) (.cons (.set 5 (.comp (.call "hulls.told_by" (.cons (.v 4) (.cons (.v 6) .nil))) (.one 6) (.sq (.v 3)) .none [6])) (.cons (.ite (.cmp .le (.b .max (.cons (.v 5) .nil)) (.k (.int 0))) (.cons (.ret (.tup (.cons (.call "rules.lower_rule" (.cons (.v 0) (.cons (.v 1) (.cons (.v 2) .nil)))) (.cons (.v 4) .nil)))) .nil) .nil) (.cons (.ite (.cmp .ge (.b .min (.cons (.v 5) .nil)) (.k (.int 0))) (.cons (.ret (.tup (.cons (.call "rules.upper_rule" (.cons (.v 0) (.cons (.v 1) (.cons (.v 2) .nil)))) (.cons (.v 4) .nil)))) .nil) .nil) (.cons (.ret (.tup (.cons (.k .non) (.cons (.v 4) .nil)))) .nil)))))⟩
def f_rules_rules_on : Fn := ⟨2, 8, (.cons (.set 2 (.call "rows.rows_fault" (.cons (.v 0) .nil))) (.cons (.ite (.isn (.v 2) true) (.cons (.raise .NoRows (.cons (.v 2) .nil)) .nil) .nil) (.cons (.set 3 (.lst .nil)) (.cons (.for (.many [4, 5]) (.enum (.v 0)) (.cons (.ite (.cmp .eq (.b .len (.cons (.v 5) .nil)) (.k (.int 1))) (.cons (.ex (.bm .append (.v 3) (.cons (.gget "rules.PLAIN" (.sub (.v 5) (.k (.int 0)))) .nil))) .nil) (.cons (.ite (.cmp .eq (.sub (.v 5) (.k (.int 0))) (.k (.str (S "not")))) (.cons (.ex (.bm .append (.v 3) (.cons (.call "rules.rest_of" (.cons (.g "rules.ONE") (.cons (.sub (.v 3) (.sub (.v 5) (.k (.int 1)))) .nil))) .nil))) .nil) (.cons (.setT [6, 7] (.call "rules.fold_rule" (.cons (.sub (.v 5) (.k (.int 0))) (.cons (.sub (.v 3) (.sub (.v 5) (.k (.int 1)))) (.cons (.sub (.v 3) (.sub (.v 5) (.k (.int 2)))) (.cons (.v 1) .nil)))))) (.cons (.ite (.isn (.v 6) false) (.cons (.ret (.tup (.cons (.k (.str (S "mixed"))) (.cons (.v 4) (.cons (.v 7) .nil))))) .nil) .nil) (.cons (.ex (.bm .append (.v 3) (.cons (.v 6) .nil))) .nil)))) .nil)) .nil)) (.cons (.ret (.tup (.cons (.k (.str (S "rules"))) (.cons (.v 3) .nil)))) .nil)))))⟩
def f__law_cell : Fn := ⟨2, 5, (.cons (.ite (.and (.cons (.cmp .gt (.b .len (.cons (.v 0) .nil)) (.k (.int 0))) (.cons (.cmp .eq (.bin .mod (.sub (.v 0) (.k (.int 0))) (.k (.int 2))) (.k (.int 1))) .nil))) (.cons (.ite (.cmp .eq (.v 1) (.k (.int 0))) (.cons (.ret (.bin .fdiv (.sub (.v 0) (.k (.int 0))) (.k (.int 2)))) .nil) .nil) (.cons (.ite (.cmp .lt (.v 1) (.b .len (.cons (.v 0) .nil))) (.cons (.ret (.sub (.v 0) (.v 1))) .nil) .nil) (.cons (.ret (.k (.int 0))) .nil))) .nil) (.cons (.set 2 (.k (.int 0))) (.cons (.ite (.cmp .gt (.b .len (.cons (.v 0) .nil)) (.k (.int 0))) (.cons (.set 2 (.bin .mod (.sub (.v 0) (.bin .mod (.v 1) (.b .len (.cons (.v 0) .nil)))) (.bin .pow (.k (.int 10)) (.k (.int 18))))) .nil) .nil) (.cons (.set 3 (.bin .mod (.bin .mul (.bin .add (.bin .add (.bin .add (.v 2) (.bin .mul (.bin .mul (.k (.int 7)) (.v 1)) (.v 1))) (.bin .mul (.k (.int 13)) (.v 1))) (.k (.int 5))) (.k (.int 48271))) (.k (.int 2147483647)))) (.cons (.set 4 (.bin .mod (.bin .add (.bin .mul (.v 3) (.v 3)) (.v 1)) (.k (.int 1000000007)))) (.cons (.ret (.bin .mod (.bin .add (.bin .mul (.v 4) (.k (.int 69621))) (.v 3)) (.k (.int 2147483629)))) .nil))))))⟩
def f__law_whole : Fn := ⟨1, 1, (.cons (.ret (.and (.cons (.isi (.v 0) [.tint]) (.cons (.not (.isi (.v 0) [.tbool])) .nil)))) .nil)⟩
def f__law_rows : Fn := ⟨4, 9, (.cons (.set 4 (.lst .nil)) (.cons (.for (.one 5) (.r1 (.v 2)) (.cons (.set 6 (.call "_law_cell" (.cons (.v 0) (.cons (.bin .add (.v 1) (.v 5)) .nil)))) (.cons (.set 7 (.bin .sub (.bin .sub (.v 5) (.k (.int 1))) (.bin .mod (.bin .fdiv (.v 6) (.k (.int 16))) (.b .max (.cons (.k (.int 1)) (.cons (.b .min (.cons (.v 5) (.cons (.k (.int 3)) .nil))) .nil)))))) (.cons (.ite (.cmp .eq (.bin .mod (.bin .fdiv (.v 6) (.k (.int 8192))) (.k (.int 4))) (.k (.int 1))) (.cons (.set 7 (.bin .mod (.bin .fdiv (.v 6) (.k (.int 32768))) (.b .max (.cons (.k (.int 1)) (.cons (.v 5) .nil))))) .nil) .nil) (.cons (.set 8 (.bin .mod (.bin .fdiv (.v 6) (.k (.int 64))) (.b .max (.cons (.k (.int 1)) (.cons (.v 5) .nil))))) (.cons (.ite (.or (.cons (.cmp .lt (.bin .mod (.v 6) (.k (.int 16))) (.k (.int 3))) (.cons (.cmp .eq (.v 5) (.k (.int 0))) .nil))) (.cons (.ex (.bm .append (.v 4) (.cons (.tup (.cons (.sub (.v 3) (.bin .mod (.bin .fdiv (.v 6) (.k (.int 16))) (.b .len (.cons (.v 3) .nil)))) .nil)) .nil))) .nil) (.cons (.ite (.cmp .lt (.bin .mod (.v 6) (.k (.int 16))) (.k (.int 5))) (.cons (.ex (.bm .append (.v 4) (.cons (.tup (.cons (.k (.str (S "not"))) (.cons (.v 7) .nil))) .nil))) .nil) (.cons (.ex (.bm .append (.v 4) (.cons (.tup (.cons (.sub (.lst (.cons (.k (.str (S "more"))) (.cons (.k (.str (S "less"))) (.cons (.k (.str (S "greater"))) (.cons (.k (.str (S "lesser"))) (.cons (.k (.str (S "leads"))) .nil)))))) (.bin .mod (.bin .fdiv (.v 6) (.k (.int 1024))) (.k (.int 5)))) (.cons (.v 7) (.cons (.v 8) .nil)))) .nil))) .nil)) .nil)) .nil)))))) (.cons (.ret (.v 4)) .nil)))⟩
def f__law_row : Fn := ⟨2, 4, (.cons (.ite (.or (.cons (.not (.isi (.v 0) [.ttuple])) (.cons (.cmp .notin (.b .len (.cons (.v 0) .nil)) (.tup (.cons (.k (.int 1)) (.cons (.k (.int 2)) (.cons (.k (.int 3)) .nil))))) (.cons (.not (.isi (.sub (.v 0) (.k (.int 0))) [.tstr])) .nil)))) (.cons (.ret (.k (.bl false))) .nil) .nil) (.cons (.set 2 (.lst (.cons (.lst (.cons (.k (.str (S "never"))) (.cons (.k (.str (S "always"))) (.cons (.k (.str (S "p"))) (.cons (.k (.str (S "q"))) .nil))))) (.cons (.lst (.cons (.k (.str (S "not"))) .nil)) (.cons (.lst (.cons (.k (.str (S "more"))) (.cons (.k (.str (S "less"))) (.cons (.k (.str (S "greater"))) (.cons (.k (.str (S "lesser"))) (.cons (.k (.str (S "leads"))) .nil)))))) .nil))))) (.cons (.ite (.cmp .notin (.sub (.v 0) (.k (.int 0))) (.sub (.v 2) (.bin .sub (.b .len (.cons (.v 0) .nil)) (.k (.int 1))))) (.cons (.ret (.k (.bl false))) .nil) .nil) (.cons (.ret (.b .all (.cons (.comp (.and (.cons (.call "_law_whole" (.cons (.v 3) .nil)) (.cons (.chn .le .lt (.k (.int 0)) (.v 3) (.v 1)) .nil))) (.one 3) (.sq (.slc (.v 0) (.some (.k (.int 1))) .none)) .none [3]) .nil))) .nil))))⟩
def f__law_fault_v2 : Fn := ⟨1, 2, (.cons (.ite (.cmp .eqx (.v 0) (.lst .nil)) (.cons (.ret (.k (.int 0))) .nil) .nil) (.cons (.for (.one 1) (.r1 (.b .len (.cons (.v 0) .nil))) (.cons (.ite (.or (.cons (.cmp .gt (.v 1) (.k (.int 399))) (.cons (.not (.call "_law_row" (.cons (.sub (.v 0) (.v 1)) (.cons (.v 1) .nil)))) .nil))) (.cons (.ret (.v 1)) .nil) .nil) .nil)) (.cons (.ret (.k .non)) .nil)))⟩
def f__law_spoilt : Fn := ⟨3, 8, (.cons (.set 3 (.bin .mod (.v 1) (.b .len (.cons (.v 0) .nil)))) (.cons (.set 4 (.sub (.v 0) (.v 3))) (.cons (.ite (.not (.isi (.v 4) [.ttuple])) (.cons (.set 4 (.tup (.cons (.k (.str (S "p"))) .nil))) .nil) .nil) (.cons (.set 5 (.bin .mod (.bin .fdiv (.v 1) (.k (.int 512))) (.k (.int 8)))) (.cons (.ite (.cmp .eq (.v 5) (.k (.int 0))) (.cons (.set 4 (.sub (.lst (.cons (.k .non) (.cons (.k (.int 7)) (.cons (.k (.str (S "p"))) (.cons (.lst .nil) (.cons (.lst (.cons (.k (.str (S "never"))) .nil)) (.cons (.dic false .nil) (.cons (.k (.bl true)) .nil)))))))) (.bin .mod (.bin .fdiv (.v 1) (.k (.int 4096))) (.k (.int 7))))) .nil) (.cons (.ite (.cmp .eq (.v 5) (.k (.int 1))) (.cons (.set 6 (.lst (.cons (.tup .nil) (.cons (.tup (.cons (.k (.int 3)) .nil)) (.cons (.tup (.cons (.k .non) .nil)) (.cons (.tup (.cons (.tup (.cons (.k (.str (S "p"))) .nil)) .nil)) (.cons (.tup (.cons (.k (.str (S "xor"))) (.cons (.k (.int 0)) (.cons (.k (.int 0)) .nil)))) (.cons (.tup (.cons (.k (.str (S "Not"))) (.cons (.k (.int 0)) .nil))) (.cons (.tup (.cons (.k (.str (S "r"))) .nil)) (.cons (.tup (.cons (.k (.str (S ""))) (.cons (.k (.int 0)) .nil))) (.cons (.tup (.cons (.k (.str (S "fold"))) (.cons (.k (.int 0)) (.cons (.k (.int 0)) .nil)))) .nil))))))))))) (.cons (.set 4 (.sub (.v 6) (.bin .mod (.bin .fdiv (.v 1) (.k (.int 4096))) (.k (.int 9))))) .nil)) (.cons (.ite (.cmp .eq (.v 5) (.k (.int 2))) (.cons (.set 4 (.bin .add (.b .tuple (.cons (.v 4) .nil)) (.tup (.cons (.sub (.lst (.cons (.k (.int 0)) (.cons (.k (.int 1)) (.cons (.k (.str (S "p"))) .nil)))) (.bin .mod (.bin .fdiv (.v 1) (.k (.int 4096))) (.k (.int 3)))) .nil)))) .nil) (.cons (.ite (.cmp .eq (.v 5) (.k (.int 3))) (.cons (.set 4 (.slc (.b .tuple (.cons (.v 4) .nil)) .none (.some (.neg (.k (.int 1)))))) .nil) (.cons (.ite (.cmp .lt (.v 5) (.k (.int 6))) (.cons (.set 7 (.sub (.lst (.cons (.v 3) (.cons (.bin .add (.v 3) (.k (.int 1))) (.cons (.neg (.k (.int 1))) (.cons (.k (.int 400)) (.cons (.neg (.v 2)) (.cons (.bin .pow (.k (.int 10)) (.k (.int 19))) .nil))))))) (.bin .mod (.bin .fdiv (.v 1) (.k (.int 4096))) (.k (.int 6))))) (.cons (.set 4 (.sub (.lst (.cons (.tup (.cons (.k (.str (S "not"))) (.cons (.v 7) .nil))) (.cons (.tup (.cons (.k (.str (S "more"))) (.cons (.v 7) (.cons (.k (.int 0)) .nil)))) (.cons (.tup (.cons (.k (.str (S "lesser"))) (.cons (.k (.int 0)) (.cons (.v 7) .nil)))) .nil)))) (.bin .mod (.bin .fdiv (.v 1) (.k (.int 65536))) (.k (.int 3))))) .nil)) (.cons (.ite (.cmp .eq (.v 5) (.k (.int 6))) (.cons (.set 7 (.sub (.lst (.cons (.k (.bl true)) (.cons (.k (.bl false)) (.cons (.k (.str (S "0"))) (.cons (.k .non) (.cons (.tup (.cons (.k (.int 0)) .nil)) (.cons (.tup (.cons (.k (.str (S "p"))) .nil)) .nil))))))) (.bin .mod (.bin .fdiv (.v 1) (.k (.int 4096))) (.k (.int 6))))) (.cons (.set 4 (.sub (.lst (.cons (.tup (.cons (.k (.str (S "not"))) (.cons (.v 7) .nil))) (.cons (.tup (.cons (.k (.str (S "leads"))) (.cons (.k (.int 0)) (.cons (.v 7) .nil)))) (.cons (.tup (.cons (.k (.str (S "greater"))) (.cons (.v 7) (.cons (.k (.int 0)) .nil)))) .nil)))) (.bin .mod (.bin .fdiv (.v 1) (.k (.int 65536))) (.k (.int 3))))) .nil)) (.cons (.set 4 (.sub (.lst (.cons (.tup (.cons (.k (.str (S "more"))) (.cons (.k (.int 0)) .nil))) (.cons (.tup (.cons (.k (.str (S "not"))) (.cons (.k (.int 0)) (.cons (.k (.int 0)) .nil)))) (.cons (.tup (.cons (.k (.str (S "never"))) (.cons (.k (.int 0)) .nil))) (.cons (.tup (.cons (.k (.str (S "p"))) (.cons (.k (.int 0)) .nil))) (.cons (.tup (.cons (.k (.str (S "less"))) (.cons (.k (.int 0)) (.cons (.k (.int 0)) (.cons (.k (.int 0)) .nil))))) (.cons (.tup (.cons (.k (.str (S "not"))) .nil)) .nil))))))) (.bin .mod (.bin .fdiv (.v 1) (.k (.int 4096))) (.k (.int 6))))) .nil)) .nil)) .nil)) .nil)) .nil)) .nil)) (.cons (.ret (.bin .add (.bin .add (.slc (.v 0) .none (.some (.v 3))) (.lst (.cons (.v 4) .nil))) (.slc (.v 0) (.some (.bin .add (.v 3) (.k (.int 1)))) .none))) .nil))))))⟩
def f__law_refused_v3 : Fn := ⟨2, 4, (.cons (.set 2 (.k .non)) (.cons (.try (.cons (.ite (.cmp .eq (.v 1) (.k (.int 0))) (.cons (.ex (.call "rows.worth_of_rows" (.cons (.v 0) (.cons (.tup (.cons (.k (.int 3)) (.cons (.k (.int 1)) (.cons (.k (.int 2)) .nil)))) .nil)))) .nil) (.cons (.ite (.cmp .eq (.v 1) (.k (.int 1))) (.cons (.ex (.call "rows.worth_of_rows" (.cons (.v 0) (.cons (.tup (.cons (.k (.int 0)) (.cons (.k (.int 0)) (.cons (.k (.int 0)) .nil)))) .nil)))) .nil) (.cons (.ite (.cmp .eq (.v 1) (.k (.int 2))) (.cons (.ex (.call "rules.rules_on" (.cons (.v 0) (.cons (.lst (.cons (.tup (.cons (.k (.int 1)) (.cons (.k (.int 0)) (.cons (.k (.int 0)) .nil)))) (.cons (.tup (.cons (.k (.int 1)) (.cons (.k (.int 1)) (.cons (.k (.int 0)) .nil)))) (.cons (.tup (.cons (.k (.int 1)) (.cons (.k (.int 1)) (.cons (.k (.int 1)) .nil)))) (.cons (.tup (.cons (.k (.int 1)) (.cons (.k (.int 0)) (.cons (.k (.int 1)) .nil)))) .nil))))) .nil)))) .nil) (.cons (.ex (.call "meanings.line_of_rows" (.cons (.v 0) .nil))) .nil)) .nil)) .nil)) .nil) (.cons .SayError (some 3) (.cons (.set 2 (.v 3)) .nil) .nil)) (.cons (.ite (.or (.cons (.not (.isi (.v 2) [.own .NoRows])) (.cons (.not (.isi (.v 2) [.tval])) (.cons (.not (.call "_law_whole" (.cons (.fld (.v 2) "at") .nil))) .nil)))) (.cons (.ret (.k .non)) .nil) .nil) (.cons (.ite (.or (.cons (.isi (.v 2) [.own .NoPoint]) (.cons (.isi (.v 2) [.own .NoLetter]) (.cons (.isi (.v 2) [.own .NoLine]) .nil)))) (.cons (.ret (.k .non)) .nil) .nil) (.cons (.ret (.fld (.v 2) "at")) .nil)))))⟩
def f_law_v12 : Fn := ⟨1, 8, (.cons (.set 1 (.call "_law_cell" (.cons (.v 0) (.cons (.k (.int 0)) .nil)))) (.cons (.set 2 (.call "_law_rows" (.cons (.v 0) (.cons (.k (.int 4)) (.cons (.bin .add (.k (.int 1)) (.bin .mod (.v 1) (.k (.int 40)))) (.cons (.lst (.cons (.k (.str (S "p"))) (.cons (.k (.str (S "q"))) (.cons (.k (.str (S "never"))) (.cons (.k (.str (S "always"))) .nil))))) .nil)))))) (.cons (.ite (.cmp .eq (.bin .mod (.bin .fdiv (.v 1) (.k (.int 64))) (.k (.int 8))) (.k (.int 1))) (.cons (.set 2 (.bin .add (.v 2) (.comp (.tup (.cons (.k (.str (S "not"))) (.cons (.bin .sub (.b .len (.cons (.v 2) .nil)) (.k (.int 1))) .nil))) (.one 3) (.r1 (.bin .sub (.bin .add (.k (.int 399)) (.bin .mod (.bin .fdiv (.v 1) (.k (.int 512))) (.k (.int 3)))) (.b .len (.cons (.v 2) .nil)))) .none [3]))) .nil) .nil) (.cons (.for (.one 3) (.r1 (.bin .mod (.call "_law_cell" (.cons (.v 0) (.cons (.k (.int 1)) .nil))) (.k (.int 3)))) (.cons (.set 2 (.call "_law_spoilt" (.cons (.v 2) (.cons (.call "_law_cell" (.cons (.v 0) (.cons (.bin .add (.k (.int 2)) (.v 3)) .nil))) (.cons (.bin .add (.k (.int 1)) (.bin .mod (.v 1) (.k (.int 7)))) .nil))))) .nil)) (.cons (.ite (.cmp .eq (.bin .mod (.bin .fdiv (.v 1) (.k (.int 64))) (.k (.int 32))) (.k (.int 4))) (.cons (.set 2 (.lst .nil)) .nil) .nil) (.cons (.set 4 (.b .list (.cons (.v 2) .nil))) (.cons (.set 5 (.call "_law_fault" (.cons (.v 2) .nil))) (.cons (.set 6 (.call "rows.rows_fault" (.cons (.v 4) .nil))) (.cons (.ite (.or (.cons (.cmp .nex (.v 4) (.v 2)) (.cons (.and (.cons (.isn (.v 5) false) (.cons (.isn (.v 6) true) .nil))) .nil))) (.cons (.ret (.k (.bl false))) .nil) .nil) (.cons (.ite (.isn (.v 5) false) (.cons (.ret (.k (.bl true))) .nil) .nil) (.cons (.ite (.or (.cons (.not (.call "_law_whole" (.cons (.v 6) .nil))) (.cons (.cmp .ne (.v 6) (.v 5)) .nil))) (.cons (.ret (.k (.bl false))) .nil) .nil) (.cons (.ret (.and (.cons (.b .all (.cons (.comp (.cmp .eq (.call "_law_refused" (.cons (.v 4) (.cons (.v 7) .nil))) (.v 5)) (.one 7) (.r1 (.k (.int 4))) .none [7]) .nil)) (.cons (.cmp .eqx (.v 4) (.v 2)) .nil)))) .nil))))))))))))⟩
def f__law_text : Fn := ⟨1, 1, (.cons (.ite (.cmp .eq (.b .len (.cons (.v 0) .nil)) (.k (.int 1))) (.cons (.ret (.sub (.v 0) (.k (.int 0)))) .nil) .nil) (.cons (.ite (.cmp .eq (.sub (.v 0) (.k (.int 0))) (.k (.str (S "not")))) (.cons (.ret (.bin .add (.k (.str (S "not "))) (.call "_law_text" (.cons (.sub (.v 0) (.k (.int 1))) .nil)))) .nil) .nil) (.cons (.ret (.bin .add (.bin .add (.bin .add (.bin .add (.bin .add (.bin .add (.k (.str (S "( "))) (.call "_law_text" (.cons (.sub (.v 0) (.k (.int 1))) .nil))) (.k (.str (S " ")))) (.sub (.v 0) (.k (.int 0)))) (.k (.str (S " ")))) (.call "_law_text" (.cons (.sub (.v 0) (.k (.int 2))) .nil))) (.k (.str (S " )"))))) .nil)))⟩
def f_Never_out_of : Fn := ⟨4, 4, (.cons (.ret (.k (.int 0))) .nil)⟩
def f_Always_out_of : Fn := ⟨4, 4, (.cons (.ret (.v 1)) .nil)⟩
def f_Letter_out_of : Fn := ⟨4, 4, (.cons (.ite (.cmp .eq (.fld (.v 0) "name") (.k (.str (S "p")))) (.cons (.ret (.v 2)) .nil) .nil) (.cons (.ret (.v 3)) .nil))⟩
def f_Not_out_of : Fn := ⟨4, 4, (.cons (.ret (.bin .sub (.v 1) (.mth (.fld (.v 0) "part") "out_of" (.cons (.v 1) (.cons (.v 2) (.cons (.v 3) .nil)))))) .nil)⟩
def f_Fold_out_of : Fn := ⟨4, 4, (.cons (.ret (.mth (.v 0) "made_of" (.cons (.v 1) (.cons (.mth (.fld (.v 0) "one") "out_of" (.cons (.v 1) (.cons (.v 2) (.cons (.v 3) .nil)))) (.cons (.mth (.fld (.v 0) "other") "out_of" (.cons (.v 1) (.cons (.v 2) (.cons (.v 3) .nil)))) .nil))))) .nil)⟩
def f_More_made_of : Fn := ⟨4, 4, (.cons (.ret (.b .min (.cons (.v 1) (.cons (.bin .add (.v 2) (.v 3)) .nil)))) .nil)⟩
def f_Less_made_of : Fn := ⟨4, 4, (.cons (.ret (.b .max (.cons (.k (.int 0)) (.cons (.bin .sub (.bin .add (.v 2) (.v 3)) (.v 1)) .nil)))) .nil)⟩
def f_Greater_made_of : Fn := ⟨4, 4, (.cons (.ret (.b .max (.cons (.v 2) (.cons (.v 3) .nil)))) .nil)⟩
def f_Lesser_made_of : Fn := ⟨4, 4, (.cons (.ret (.b .min (.cons (.v 2) (.cons (.v 3) .nil)))) .nil)⟩
def f_Leads_made_of : Fn := ⟨4, 4, (.cons (.ret (.b .min (.cons (.v 1) (.cons (.bin .add (.bin .sub (.v 1) (.v 2)) (.v 3)) .nil)))) .nil)⟩
def f_rows_word_of : Fn := ⟨1, 1, (.cons (.ite (.isi (.v 0) [.own .More]) (.cons (.ret (.k (.str (S "more")))) .nil) .nil) (.cons (.ite (.isi (.v 0) [.own .Less]) (.cons (.ret (.k (.str (S "less")))) .nil) .nil) (.cons (.ite (.isi (.v 0) [.own .Greater]) (.cons (.ret (.k (.str (S "greater")))) .nil) .nil) (.cons (.ite (.isi (.v 0) [.own .Lesser]) (.cons (.ret (.k (.str (S "lesser")))) .nil) .nil) (.cons (.ite (.isi (.v 0) [.own .Leads]) (.cons (.ret (.k (.str (S "leads")))) .nil) .nil) (.cons (.ret (.k (.str (S "fold")))) .nil))))))⟩
def f_rows_place_of : Fn := ⟨3, 3, (.cons (.ite (.cmp .notin (.v 0) (.v 2)) (.cons (.setI (.v 2) (.v 0) (.b .len (.cons (.v 1) .nil))) (.cons (.ex (.bm .append (.v 1) (.cons (.v 0) .nil))) .nil)) .nil) (.cons (.ret (.sub (.v 2) (.v 0))) .nil))⟩
def f_rows_put_rows : Fn := ⟨3, 5, (.cons (.ite (.isi (.v 0) [.own .Never]) (.cons (.set 3 (.tup (.cons (.k (.str (S "never"))) .nil))) .nil) (.cons (.ite (.isi (.v 0) [.own .Always]) (.cons (.set 3 (.tup (.cons (.k (.str (S "always"))) .nil))) .nil) (.cons (.ite (.isi (.v 0) [.own .Letter]) (.cons (.set 3 (.tup (.cons (.fld (.v 0) "name") .nil))) .nil) (.cons (.ite (.isi (.v 0) [.own .Not]) (.cons (.set 3 (.tup (.cons (.k (.str (S "not"))) (.cons (.call "rows.put_rows" (.cons (.fld (.v 0) "part") (.cons (.v 1) (.cons (.v 2) .nil)))) .nil)))) .nil) (.cons (.set 4 (.call "rows.put_rows" (.cons (.fld (.v 0) "one") (.cons (.v 1) (.cons (.v 2) .nil))))) (.cons (.set 3 (.tup (.cons (.call "rows.word_of" (.cons (.v 0) .nil)) (.cons (.v 4) (.cons (.call "rows.put_rows" (.cons (.fld (.v 0) "other") (.cons (.v 1) (.cons (.v 2) .nil)))) .nil))))) .nil))) .nil)) .nil)) .nil)) (.cons (.ret (.call "rows.place_of" (.cons (.v 3) (.cons (.v 1) (.cons (.v 2) .nil))))) .nil))⟩
def f_rows_rows_of : Fn := ⟨1, 2, (.cons (.set 1 (.lst .nil)) (.cons (.ex (.call "rows.put_rows" (.cons (.v 0) (.cons (.v 1) (.cons (.dic true .nil) .nil))))) (.cons (.ret (.v 1)) .nil)))⟩
def f__law_size : Fn := ⟨1, 2, (.cons (.ret (.bin .add (.k (.int 1)) (.b .sum (.cons (.comp (.call "_law_size" (.cons (.v 1) .nil)) (.one 1) (.sq (.slc (.v 0) (.some (.k (.int 1))) .none)) .none [1]) .nil)))) .nil)⟩
def f__law_divisor : Fn := ⟨2, 3, (.cons (.set 0 (.b .abs (.cons (.v 0) .nil))) (.cons (.set 1 (.b .abs (.cons (.v 1) .nil))) (.cons (.whl (.cmp .gt (.v 1) (.k (.int 0))) (.cons (.set 2 (.bin .mod (.v 0) (.v 1))) (.cons (.set 0 (.v 1)) (.cons (.set 1 (.v 2)) .nil)))) (.cons (.ret (.v 0)) .nil))))⟩
def f__law_lowest_v2 : Fn := ⟨2, 3, (.cons (.ite (.cmp .lt (.v 1) (.k (.int 0))) (.cons (.set 0 (.neg (.v 0))) (.cons (.set 1 (.neg (.v 1))) .nil)) .nil) (.cons (.set 2 (.call "_law_divisor" (.cons (.v 0) (.cons (.v 1) .nil)))) (.cons (.ret (.tup (.cons (.bin .fdiv (.v 0) (.v 2)) (.cons (.bin .fdiv (.v 1) (.v 2)) .nil)))) .nil)))⟩
def f__law_height : Fn := ⟨2, 3, (.cons (.set 2 (.k (.int 0))) (.cons (.whl (.cmp .lt (.bin .mul (.sub (.sub (.sub (.v 0) (.v 2)) (.k (.int 0))) (.k (.int 0))) (.sub (.v 1) (.k (.int 1)))) (.bin .mul (.sub (.v 1) (.k (.int 0))) (.sub (.sub (.sub (.v 0) (.v 2)) (.k (.int 0))) (.k (.int 1))))) (.cons (.set 2 (.bin .add (.v 2) (.k (.int 1)))) .nil)) (.cons (.ret (.tup (.cons (.bin .add (.bin .mul (.sub (.sub (.v 0) (.v 2)) (.k (.int 1))) (.sub (.v 1) (.k (.int 0)))) (.bin .mul (.sub (.sub (.v 0) (.v 2)) (.k (.int 2))) (.sub (.v 1) (.k (.int 1))))) (.cons (.sub (.v 1) (.k (.int 1))) .nil)))) .nil)))⟩
def f_lines_bends : Fn := ⟨1, 3, (.cons (.set 1 (.lst (.cons (.tup (.cons (.g "lines.NOUGHT") (.cons (.call "lines.rule_at" (.cons (.sub (.v 0) (.k (.int 0))) (.cons (.g "lines.NOUGHT") .nil))) .nil))) .nil))) (.cons (.for (.one 2) (.sq (.v 0)) (.cons (.ex (.bm .append (.v 1) (.cons (.tup (.cons (.sub (.v 2) (.k (.int 0))) (.cons (.call "lines.rule_at" (.cons (.v 2) (.cons (.sub (.v 2) (.k (.int 0))) .nil))) .nil))) .nil))) .nil)) (.cons (.ret (.v 1)) .nil)))⟩
def f_lines_look_at_ends : Fn := ⟨1, 4, (.cons (.set 1 (.g "lines.NOUGHT")) (.cons (.for (.many [2, 3]) (.enum (.v 0)) (.cons (.ite (.or (.cons (.not (.call "fractions.less" (.cons (.v 1) (.cons (.sub (.v 3) (.k (.int 0))) .nil)))) (.cons (.call "fractions.less" (.cons (.g "lines.ONE") (.cons (.sub (.v 3) (.k (.int 0))) .nil))) .nil))) (.cons (.raise .NoLine (.cons (.k (.str (S "end"))) (.cons (.v 2) .nil))) .nil) .nil) (.cons (.set 1 (.sub (.v 3) (.k (.int 0)))) .nil))) (.cons (.ite (.cmp .ne (.v 1) (.g "lines.ONE")) (.cons (.raise .NoLine (.cons (.k (.str (S "short"))) (.cons (.bin .sub (.b .len (.cons (.v 0) .nil)) (.k (.int 1))) .nil))) .nil) .nil) .nil)))⟩
def f_lines_line_made : Fn := ⟨1, 3, (.cons (.ite (.or (.cons (.cmp .lt (.b .len (.cons (.v 0) .nil)) (.k (.int 1))) (.cons (.cmp .gt (.b .len (.cons (.v 0) .nil)) (.g "lines.MOST")) .nil))) (.cons (.raise .NoLine (.cons (.k (.str (S "count"))) (.cons (.b .len (.cons (.v 0) .nil)) .nil))) .nil) .nil) (.cons (.ex (.call "lines.look_at_ends" (.cons (.v 0) .nil))) (.cons (.for (.one 1) (.r2 (.k (.int 1)) (.b .len (.cons (.v 0) .nil))) (.cons (.set 2 (.sub (.sub (.v 0) (.bin .sub (.v 1) (.k (.int 1)))) (.k (.int 0)))) (.cons (.ite (.cmp .ne (.call "lines.rule_at" (.cons (.sub (.v 0) (.bin .sub (.v 1) (.k (.int 1)))) (.cons (.v 2) .nil))) (.call "lines.rule_at" (.cons (.sub (.v 0) (.v 1)) (.cons (.v 2) .nil)))) (.cons (.raise .NoLine (.cons (.k (.str (S "jump"))) (.cons (.v 1) .nil))) .nil) .nil) .nil))) (.cons (.ret (.call "lines.joined" (.cons (.v 0) .nil))) .nil))))⟩
def f__law_is_stretch : Fn := ⟨1, 2, (.cons (.ite (.or (.cons (.not (.isi (.v 0) [.ttuple])) (.cons (.cmp .ne (.b .len (.cons (.v 0) .nil)) (.k (.int 3))) (.cons (.not (.call "_law_whole" (.cons (.sub (.v 0) (.k (.int 1))) .nil))) (.cons (.not (.call "_law_whole" (.cons (.sub (.v 0) (.k (.int 2))) .nil))) .nil))))) (.cons (.ret (.k (.bl false))) .nil) .nil) (.cons (.set 1 (.sub (.v 0) (.k (.int 0)))) (.cons (.ite (.or (.cons (.not (.isi (.v 1) [.ttuple])) (.cons (.cmp .ne (.b .len (.cons (.v 1) .nil)) (.k (.int 2))) (.cons (.not (.call "_law_whole" (.cons (.sub (.v 1) (.k (.int 0))) .nil))) (.cons (.not (.call "_law_whole" (.cons (.sub (.v 1) (.k (.int 1))) .nil))) .nil))))) (.cons (.ret (.k (.bl false))) .nil) .nil) (.cons (.ret (.and (.cons (.cmp .gt (.sub (.v 1) (.k (.int 1))) (.k (.int 0))) (.cons (.cmp .eq (.call "_law_divisor" (.cons (.sub (.v 1) (.k (.int 0))) (.cons (.sub (.v 1) (.k (.int 1))) .nil))) (.k (.int 1))) .nil)))) .nil))))⟩
def f__law_is_line : Fn := ⟨1, 7, (.cons (.ite (.or (.cons (.not (.isi (.v 0) [.ttuple])) (.cons (.cmp .eq (.b .len (.cons (.v 0) .nil)) (.k (.int 0))) (.cons (.not (.b .all (.cons (.comp (.call "_law_is_stretch" (.cons (.v 3) .nil)) (.one 3) (.sq (.v 0)) .none [3]) .nil))) .nil)))) (.cons (.ret (.k (.bl false))) .nil) .nil) (.cons (.set 1 (.tup (.cons (.k (.int 0)) (.cons (.k (.int 1)) .nil)))) (.cons (.for (.many [2, 3]) (.enum (.v 0)) (.cons (.set 4 (.sub (.v 3) (.k (.int 0)))) (.cons (.ite (.cmp .ge (.bin .mul (.sub (.v 1) (.k (.int 0))) (.sub (.v 4) (.k (.int 1)))) (.bin .mul (.sub (.v 4) (.k (.int 0))) (.sub (.v 1) (.k (.int 1))))) (.cons (.ret (.k (.bl false))) .nil) .nil) (.cons (.ite (.cmp .gt (.v 2) (.k (.int 0))) (.cons (.set 5 (.sub (.v 0) (.bin .sub (.v 2) (.k (.int 1))))) (.cons (.set 6 (.bin .add (.bin .mul (.bin .sub (.sub (.v 3) (.k (.int 1))) (.sub (.v 5) (.k (.int 1)))) (.sub (.v 1) (.k (.int 0)))) (.bin .mul (.bin .sub (.sub (.v 3) (.k (.int 2))) (.sub (.v 5) (.k (.int 2)))) (.sub (.v 1) (.k (.int 1)))))) (.cons (.ite (.or (.cons (.cmp .ne (.v 6) (.k (.int 0))) (.cons (.cmp .eq (.slc (.v 3) (.some (.k (.int 1))) .none) (.slc (.v 5) (.some (.k (.int 1))) .none)) .nil))) (.cons (.ret (.k (.bl false))) .nil) .nil) .nil))) .nil) (.cons (.set 1 (.v 4)) .nil))))) (.cons (.ret (.cmp .eq (.v 1) (.tup (.cons (.k (.int 1)) (.cons (.k (.int 1)) .nil))))) .nil))))⟩
def f__law_rising : Fn := ⟨1, 4, (.cons (.set 1 (.lst .nil)) (.cons (.for (.one 2) (.sq (.v 0)) (.cons (.set 3 (.k (.int 0))) (.cons (.whl (.and (.cons (.cmp .lt (.v 3) (.b .len (.cons (.v 1) .nil))) (.cons (.cmp .lt (.bin .mul (.sub (.sub (.v 1) (.v 3)) (.k (.int 0))) (.sub (.v 2) (.k (.int 1)))) (.bin .mul (.sub (.v 2) (.k (.int 0))) (.sub (.sub (.v 1) (.v 3)) (.k (.int 1))))) .nil))) (.cons (.set 3 (.bin .add (.v 3) (.k (.int 1)))) .nil)) (.cons (.ex (.bm .insert (.v 1) (.cons (.v 3) (.cons (.v 2) .nil)))) .nil)))) (.cons (.ret (.v 1)) .nil)))⟩
def f__law_spots : Fn := ⟨1, 8, (.cons (.set 1 (.lst (.cons (.tup (.cons (.k (.int 0)) (.cons (.k (.int 1)) .nil))) .nil))) (.cons (.for (.one 2) (.sq (.v 0)) (.cons (.ex (.bm .extend (.v 1) (.cons (.comp (.sub (.v 4) (.k (.int 0))) (.one 4) (.sq (.v 2)) (.some (.cmp .notin (.sub (.v 4) (.k (.int 0))) (.v 1))) [4]) .nil))) .nil)) (.cons (.set 1 (.call "_law_rising" (.cons (.v 1) .nil))) (.cons (.set 3 (.b .list (.cons (.v 1) .nil))) (.cons (.for (.many [4, 5]) (.zip (.v 1) (.slc (.v 1) (.some (.k (.int 1))) .none)) (.cons (.for (.one 6) (.sq (.tup (.cons (.k (.int 1)) (.cons (.k (.int 2)) (.cons (.k (.int 3)) .nil))))) (.cons (.set 7 (.bin .add (.bin .mul (.bin .mul (.sub (.v 4) (.k (.int 0))) (.sub (.v 5) (.k (.int 1)))) (.bin .sub (.k (.int 4)) (.v 6))) (.bin .mul (.bin .mul (.sub (.v 5) (.k (.int 0))) (.sub (.v 4) (.k (.int 1)))) (.v 6)))) (.cons (.ex (.bm .append (.v 3) (.cons (.call "_law_lowest" (.cons (.v 7) (.cons (.bin .mul (.bin .mul (.k (.int 4)) (.sub (.v 4) (.k (.int 1)))) (.sub (.v 5) (.k (.int 1)))) .nil))) .nil))) .nil))) .nil)) (.cons (.ret (.v 3)) .nil))))))⟩
def f_lines_stays : Fn := ⟨1, 3, (.cons (.for (.many [1, 2]) (.sq (.call "lines.bends" (.cons (.v 0) .nil))) (.cons (.ite (.or (.cons (.call "fractions.less" (.cons (.v 2) (.cons (.g "lines.NOUGHT") .nil))) (.cons (.call "fractions.less" (.cons (.g "lines.ONE") (.cons (.v 2) .nil))) .nil))) (.cons (.ret (.k (.bl false))) .nil) .nil) .nil)) (.cons (.ret (.k (.bl true))) .nil))⟩
def f__law_object_v2 : Fn := ⟨2, 3, (.cons (.ite (.isn (.v 1) false) (.cons (.ret (.call "_law_of_tree" (.cons (.v 0) (.cons (.k .non) .nil)))) .nil) .nil) (.cons (.set 2 (.call "_law_text" (.cons (.v 0) .nil))) (.cons (.ite (.cmp .notin (.v 2) (.v 1)) (.cons (.setI (.v 1) (.v 2) (.call "_law_of_tree" (.cons (.v 0) (.cons (.v 1) .nil)))) .nil) .nil) (.cons (.ret (.sub (.v 1) (.v 2))) .nil))))⟩
def f__law_of_tree : Fn := ⟨2, 4, (.cons (.ite (.cmp .eq (.sub (.v 0) (.k (.int 0))) (.k (.str (S "never")))) (.cons (.ret (.mk .Never .nil)) .nil) .nil) (.cons (.ite (.cmp .eq (.sub (.v 0) (.k (.int 0))) (.k (.str (S "always")))) (.cons (.ret (.mk .Always .nil)) .nil) .nil) (.cons (.ite (.cmp .isin (.sub (.v 0) (.k (.int 0))) (.tup (.cons (.k (.str (S "p"))) (.cons (.k (.str (S "q"))) .nil)))) (.cons (.ret (.mk .Letter (.cons (.sub (.v 0) (.k (.int 0))) .nil))) .nil) .nil) (.cons (.ite (.cmp .eq (.sub (.v 0) (.k (.int 0))) (.k (.str (S "not")))) (.cons (.ret (.mk .Not (.cons (.call "_law_object" (.cons (.sub (.v 0) (.k (.int 1))) (.cons (.v 1) .nil))) .nil))) .nil) .nil) (.cons (.set 2 (.call "_law_object" (.cons (.sub (.v 0) (.k (.int 1))) (.cons (.v 1) .nil)))) (.cons (.set 3 (.call "_law_object" (.cons (.sub (.v 0) (.k (.int 2))) (.cons (.v 1) .nil)))) (.cons (.ite (.cmp .eq (.sub (.v 0) (.k (.int 0))) (.k (.str (S "more")))) (.cons (.ret (.mk .More (.cons (.v 2) (.cons (.v 3) .nil)))) .nil) .nil) (.cons (.ite (.cmp .eq (.sub (.v 0) (.k (.int 0))) (.k (.str (S "less")))) (.cons (.ret (.mk .Less (.cons (.v 2) (.cons (.v 3) .nil)))) .nil) .nil) (.cons (.ite (.cmp .eq (.sub (.v 0) (.k (.int 0))) (.k (.str (S "greater")))) (.cons (.ret (.mk .Greater (.cons (.v 2) (.cons (.v 3) .nil)))) .nil) .nil) (.cons (.ite (.cmp .eq (.sub (.v 0) (.k (.int 0))) (.k (.str (S "lesser")))) (.cons (.ret (.mk .Lesser (.cons (.v 2) (.cons (.v 3) .nil)))) .nil) .nil) (.cons (.ret (.mk .Leads (.cons (.v 2) (.cons (.v 3) .nil)))) .nil)))))))))))⟩
def f__law_tree : Fn := ⟨5, 12, (.cons (.set 5 (.lst .nil)) (.cons (.for (.one 6) (.r1 (.v 2)) (.cons (.set 7 (.call "_law_cell" (.cons (.v 0) (.cons (.bin .add (.v 1) (.v 6)) .nil)))) (.cons (.set 8 (.tup (.cons (.sub (.v 3) (.bin .mod (.bin .fdiv (.v 7) (.k (.int 8))) (.b .len (.cons (.v 3) .nil)))) .nil))) (.cons (.set 9 (.lst (.cons (.k (.str (S "more"))) (.cons (.k (.str (S "less"))) (.cons (.k (.str (S "greater"))) (.cons (.k (.str (S "lesser"))) (.cons (.k (.str (S "leads"))) .nil))))))) (.cons (.ite (.or (.cons (.cmp .lt (.bin .mod (.v 7) (.k (.int 8))) (.k (.int 3))) (.cons (.cmp .eq (.b .len (.cons (.v 5) .nil)) (.k (.int 0))) .nil))) (.cons (.ex (.bm .append (.v 5) (.cons (.v 8) .nil))) .nil) (.cons (.ite (.cmp .eq (.bin .mod (.v 7) (.k (.int 8))) (.k (.int 3))) (.cons (.setI (.v 5) (.neg (.k (.int 1))) (.tup (.cons (.k (.str (S "not"))) (.cons (.sub (.v 5) (.neg (.k (.int 1)))) .nil)))) .nil) (.cons (.ite (.and (.cons (.cmp .eq (.bin .mod (.v 7) (.k (.int 8))) (.k (.int 4))) (.cons (.cmp .le (.bin .mul (.k (.int 2)) (.b .sum (.cons (.comp (.call "_law_size" (.cons (.v 11) .nil)) (.one 11) (.sq (.v 5)) .none [11]) .nil))) (.v 4)) .nil))) (.cons (.ex (.bm .append (.v 5) (.cons (.sub (.v 5) (.neg (.k (.int 1)))) .nil))) .nil) (.cons (.ite (.cmp .gt (.b .len (.cons (.v 5) .nil)) (.k (.int 1))) (.cons (.set 10 (.bm .pop (.v 5) .nil)) (.cons (.setI (.v 5) (.neg (.k (.int 1))) (.tup (.cons (.sub (.v 9) (.bin .mod (.bin .fdiv (.v 7) (.k (.int 8))) (.k (.int 5)))) (.cons (.sub (.v 5) (.neg (.k (.int 1)))) (.cons (.v 10) .nil))))) .nil)) (.cons (.setI (.v 5) (.neg (.k (.int 1))) (.tup (.cons (.sub (.v 9) (.bin .mod (.bin .fdiv (.v 7) (.k (.int 8))) (.k (.int 5)))) (.cons (.sub (.v 5) (.neg (.k (.int 1)))) (.cons (.v 8) .nil))))) .nil)) .nil)) .nil)) .nil)) .nil))))) (.cons (.whl (.cmp .gt (.b .len (.cons (.v 5) .nil)) (.k (.int 1))) (.cons (.set 10 (.bm .pop (.v 5) .nil)) (.cons (.setI (.v 5) (.neg (.k (.int 1))) (.tup (.cons (.sub (.lst (.cons (.k (.str (S "leads"))) (.cons (.k (.str (S "more"))) (.cons (.k (.str (S "less"))) .nil)))) (.bin .mod (.b .len (.cons (.v 5) .nil)) (.k (.int 3)))) (.cons (.sub (.v 5) (.neg (.k (.int 1)))) (.cons (.v 10) .nil))))) .nil))) (.cons (.ret (.sub (.v 5) (.k (.int 0)))) .nil))))⟩
def f__law_fold_v2 : Fn := ⟨4, 4, (.cons (.ite (.cmp .eq (.v 0) (.k (.str (S "more")))) (.cons (.ret (.b .min (.cons (.v 3) (.cons (.bin .add (.v 1) (.v 2)) .nil)))) .nil) .nil) (.cons (.ite (.cmp .eq (.v 0) (.k (.str (S "less")))) (.cons (.ret (.b .max (.cons (.k (.int 0)) (.cons (.bin .sub (.bin .add (.v 1) (.v 2)) (.v 3)) .nil)))) .nil) .nil) (.cons (.ite (.cmp .eq (.v 0) (.k (.str (S "greater")))) (.cons (.ret (.b .max (.cons (.v 1) (.cons (.v 2) .nil)))) .nil) .nil) (.cons (.ite (.cmp .eq (.v 0) (.k (.str (S "lesser")))) (.cons (.ret (.b .min (.cons (.v 1) (.cons (.v 2) .nil)))) .nil) .nil) (.cons (.ret (.b .min (.cons (.v 3) (.cons (.bin .add (.bin .sub (.v 3) (.v 1)) (.v 2)) .nil)))) .nil)))))⟩
def f_straights_letter_at : Fn := ⟨3, 4, (.cons (.set 3 (.call "rows.place_of" (.cons (.tup (.cons (.k (.str (S "p"))) .nil)) (.cons (.v 1) (.cons (.v 2) .nil))))) (.cons (.ite (.v 0) (.cons (.ret (.v 3)) .nil) .nil) (.cons (.ret (.call "rows.place_of" (.cons (.tup (.cons (.k (.str (S "not"))) (.cons (.v 3) .nil))) (.cons (.v 1) (.cons (.v 2) .nil))))) .nil)))⟩
def f_straights_put_rising : Fn := ⟨5, 9, (.cons (.ite (.cmp .ge (.v 1) (.k (.int 1))) (.cons (.ret (.call "rows.place_of" (.cons (.tup (.cons (.k (.str (S "always"))) .nil)) (.cons (.v 3) (.cons (.v 4) .nil))))) .nil) .nil) (.cons (.ite (.cmp .le (.bin .add (.v 0) (.v 1)) (.k (.int 0))) (.cons (.ret (.call "rows.place_of" (.cons (.tup (.cons (.k (.str (S "never"))) .nil)) (.cons (.v 3) (.cons (.v 4) .nil))))) .nil) .nil) (.cons (.set 5 (.tup (.cons (.v 0) (.cons (.v 1) (.cons (.v 2) .nil))))) (.cons (.ite (.cmp .notin (.v 5) (.v 4)) (.cons (.set 6 (.call "straights.put_rising" (.cons (.bin .sub (.v 0) (.k (.int 1))) (.cons (.v 1) (.cons (.v 2) (.cons (.v 3) (.cons (.v 4) .nil))))))) (.cons (.set 7 (.call "rows.place_of" (.cons (.tup (.cons (.k (.str (S "more"))) (.cons (.v 6) (.cons (.call "straights.letter_at" (.cons (.v 2) (.cons (.v 3) (.cons (.v 4) .nil)))) .nil)))) (.cons (.v 3) (.cons (.v 4) .nil))))) (.cons (.set 8 (.call "straights.put_rising" (.cons (.bin .sub (.v 0) (.k (.int 1))) (.cons (.bin .add (.v 1) (.k (.int 1))) (.cons (.v 2) (.cons (.v 3) (.cons (.v 4) .nil))))))) (.cons (.setI (.v 4) (.v 5) (.call "rows.place_of" (.cons (.tup (.cons (.k (.str (S "less"))) (.cons (.v 7) (.cons (.v 8) .nil)))) (.cons (.v 3) (.cons (.v 4) .nil))))) .nil)))) .nil) (.cons (.ret (.sub (.v 4) (.v 5))) .nil)))))⟩
def f_straights_put_straight : Fn := ⟨4, 4, (.cons (.ite (.cmp .lt (.v 0) (.k (.int 0))) (.cons (.ret (.call "straights.put_rising" (.cons (.neg (.v 0)) (.cons (.bin .add (.v 1) (.v 0)) (.cons (.k (.bl false)) (.cons (.v 2) (.cons (.v 3) .nil))))))) .nil) .nil) (.cons (.ret (.call "straights.put_rising" (.cons (.v 0) (.cons (.v 1) (.cons (.k (.bl true)) (.cons (.v 2) (.cons (.v 3) .nil))))))) .nil))⟩
def f_straights_with_last : Fn := ⟨2, 2, (.cons (.ite (.cmp .ne (.v 0) (.bin .sub (.b .len (.cons (.v 1) .nil)) (.k (.int 1)))) (.cons (.ex (.bm .append (.v 1) (.cons (.sub (.v 1) (.v 0)) .nil))) .nil) .nil) (.cons (.ret (.v 1)) .nil))⟩
def f_straights_straight_rows : Fn := ⟨2, 3, (.cons (.ite (.or (.cons (.cmp .lt (.v 0) (.neg (.g "straights.STEEPEST"))) (.cons (.cmp .gt (.v 0) (.g "straights.STEEPEST")) .nil))) (.cons (.raise .NoLine (.cons (.k (.str (S "steep"))) (.cons (.k (.int 0)) .nil))) .nil) .nil) (.cons (.set 2 (.lst .nil)) (.cons (.ret (.call "straights.with_last" (.cons (.call "straights.put_straight" (.cons (.v 0) (.cons (.v 1) (.cons (.v 2) (.cons (.dic true .nil) .nil))))) (.cons (.v 2) .nil)))) .nil)))⟩
def f__law_folded : Fn := ⟨4, 4, (.cons (.ite (.cmp .eq (.v 0) (.k (.str (S "more")))) (.cons (.ret (.b .min (.cons (.v 1) (.cons (.bin .add (.v 2) (.v 3)) .nil)))) .nil) .nil) (.cons (.ite (.cmp .eq (.v 0) (.k (.str (S "less")))) (.cons (.ret (.b .max (.cons (.k (.int 0)) (.cons (.bin .sub (.bin .add (.v 2) (.v 3)) (.v 1)) .nil)))) .nil) .nil) (.cons (.ite (.cmp .eq (.v 0) (.k (.str (S "greater")))) (.cons (.ret (.b .max (.cons (.v 2) (.cons (.v 3) .nil)))) .nil) .nil) (.cons (.ite (.cmp .eq (.v 0) (.k (.str (S "lesser")))) (.cons (.ret (.b .min (.cons (.v 2) (.cons (.v 3) .nil)))) .nil) .nil) (.cons (.ret (.b .min (.cons (.v 1) (.cons (.bin .add (.bin .sub (.v 1) (.v 2)) (.v 3)) .nil)))) .nil)))))⟩
def f__law_worths : Fn := ⟨3, 5, (.cons (.set 3 (.lst .nil)) (.cons (.for (.one 4) (.sq (.v 0)) (.cons (.ite (.cmp .eq (.sub (.v 4) (.k (.int 0))) (.k (.str (S "never")))) (.cons (.ex (.bm .append (.v 3) (.cons (.k (.int 0)) .nil))) .nil) (.cons (.ite (.cmp .eq (.sub (.v 4) (.k (.int 0))) (.k (.str (S "always")))) (.cons (.ex (.bm .append (.v 3) (.cons (.v 1) .nil))) .nil) (.cons (.ite (.cmp .eq (.sub (.v 4) (.k (.int 0))) (.k (.str (S "p")))) (.cons (.ex (.bm .append (.v 3) (.cons (.v 2) .nil))) .nil) (.cons (.ite (.cmp .eq (.sub (.v 4) (.k (.int 0))) (.k (.str (S "not")))) (.cons (.ex (.bm .append (.v 3) (.cons (.bin .sub (.v 1) (.sub (.v 3) (.sub (.v 4) (.k (.int 1))))) .nil))) .nil) (.cons (.ex (.bm .append (.v 3) (.cons (.call "_law_folded" (.cons (.sub (.v 4) (.k (.int 0))) (.cons (.v 1) (.cons (.sub (.v 3) (.sub (.v 4) (.k (.int 1)))) (.cons (.sub (.v 3) (.sub (.v 4) (.k (.int 2)))) .nil))))) .nil))) .nil)) .nil)) .nil)) .nil)) .nil)) (.cons (.ret (.sub (.v 3) (.neg (.k (.int 1))))) .nil)))⟩
def f__law_as_v5 : Fn := ⟨4, 6, (.cons (.setT [4, 5] (.call "_law_height" (.cons (.v 0) (.cons (.tup (.cons (.v 3) (.cons (.v 2) .nil))) .nil)))) (.cons (.ret (.cmp .eq (.v 4) (.call "_law_worths" (.cons (.v 1) (.cons (.v 2) (.cons (.v 3) .nil)))))) .nil))⟩
def f__law_right : Fn := ⟨2, 7, (.cons (.ite (.or (.cons (.not (.call "_law_is_line" (.cons (.v 0) .nil))) (.cons (.not (.call "_law_as" (.cons (.v 0) (.cons (.v 1) (.cons (.k (.int 1)) (.cons (.k (.int 0)) .nil)))))) .nil))) (.cons (.ret (.k (.bl false))) .nil) .nil) (.cons (.for (.many [2, 3, 4]) (.sq (.v 0)) (.cons (.ite (.not (.call "_law_as" (.cons (.v 0) (.cons (.v 1) (.cons (.sub (.v 2) (.k (.int 1))) (.cons (.sub (.v 2) (.k (.int 0))) .nil)))))) (.cons (.ret (.k (.bl false))) .nil) .nil) .nil)) (.cons (.for (.one 5) (.r2 (.k (.int 1)) (.k (.int 17))) (.cons (.ite (.not (.b .all (.cons (.comp (.call "_law_as" (.cons (.v 0) (.cons (.v 1) (.cons (.v 5) (.cons (.v 6) .nil))))) (.one 6) (.r1 (.bin .add (.v 5) (.k (.int 1)))) .none [6]) .nil))) (.cons (.ret (.k (.bl false))) .nil) .nil) .nil)) (.cons (.ret (.k (.bl true))) .nil))))⟩
def f__law_worth_v2 : Fn := ⟨4, 6, (.cons (.set 4 (.lst .nil)) (.cons (.for (.one 5) (.sq (.v 0)) (.cons (.ite (.cmp .eq (.b .len (.cons (.v 5) .nil)) (.k (.int 1))) (.cons (.ex (.bm .append (.v 4) (.cons (.sub (.dic false (.cons (.k (.str (S "never"))) (.cons (.k (.int 0)) (.cons (.k (.str (S "always"))) (.cons (.v 1) (.cons (.k (.str (S "p"))) (.cons (.v 2) (.cons (.k (.str (S "q"))) (.cons (.v 3) .nil))))))))) (.sub (.v 5) (.k (.int 0)))) .nil))) .nil) (.cons (.ite (.cmp .eq (.b .len (.cons (.v 5) .nil)) (.k (.int 2))) (.cons (.ex (.bm .append (.v 4) (.cons (.bin .sub (.v 1) (.sub (.v 4) (.sub (.v 5) (.k (.int 1))))) .nil))) .nil) (.cons (.ex (.bm .append (.v 4) (.cons (.call "_law_fold" (.cons (.sub (.v 5) (.k (.int 0))) (.cons (.sub (.v 4) (.sub (.v 5) (.k (.int 1)))) (.cons (.sub (.v 4) (.sub (.v 5) (.k (.int 2)))) (.cons (.v 1) .nil))))) .nil))) .nil)) .nil)) .nil)) (.cons (.ret (.sub (.v 4) (.neg (.k (.int 1))))) .nil)))⟩
def f__law_rows_right : Fn := ⟨3, 5, (.cons (.ite (.or (.cons (.not (.isi (.v 0) [.tlist])) (.cons (.isn (.call "_law_fault" (.cons (.v 0) .nil)) true) (.cons (.cmp .isin (.tup (.cons (.k (.str (S "q"))) .nil)) (.v 0)) .nil)))) (.cons (.ret (.k (.bl false))) .nil) .nil) (.cons (.for (.one 3) (.sq (.lst (.cons (.k (.int 1)) (.cons (.k (.int 2)) (.cons (.k (.int 3)) (.cons (.k (.int 4)) (.cons (.k (.int 5)) (.cons (.k (.int 6)) (.cons (.k (.int 7)) (.cons (.k (.int 8)) (.cons (.k (.int 9)) (.cons (.k (.int 10)) (.cons (.k (.int 11)) (.cons (.k (.int 12)) (.cons (.k (.int 13)) (.cons (.k (.int 24)) .nil)))))))))))))))) (.cons (.for (.one 4) (.r1 (.bin .add (.v 3) (.k (.int 1)))) (.cons (.ite (.cmp .ne (.call "_law_worth" (.cons (.v 0) (.cons (.v 3) (.cons (.v 4) (.cons (.k (.int 0)) .nil))))) (.b .min (.cons (.v 3) (.cons (.b .max (.cons (.k (.int 0)) (.cons (.bin .add (.bin .mul (.v 1) (.v 4)) (.bin .mul (.v 2) (.v 3))) .nil))) .nil)))) (.cons (.ret (.k (.bl false))) .nil) .nil) .nil)) .nil)) (.cons (.ret (.k (.bl true))) .nil)))⟩
end Q

/-! the law and its world, printed by gen.py -/
namespace Q.k13
open PySem PySem.Spec PyProof.Rows L2
def top (i : Nat) : Stmt := PySem.Challenge.pw_leansay_k13_rows_amiss.main.body.getD i (.Pass ⟨0, 0, 0, 0⟩)
def ds0 : List DD := [⟨"is_point", none, "is_point", "is_point", top 8, "points.is_point", f_points_is_point, [Str.ofString "thing", Str.ofString "number", Str.ofString "n", Str.ofString "x", Str.ofString "y"]⟩,
  ⟨"is_place", none, "is_place", "is_place", top 13, "rows.is_place", f_rows_is_place, [Str.ofString "thing", Str.ofString "at"]⟩,
  ⟨"is_row", none, "is_row", "is_row", top 14, "rows.is_row", f_rows_is_row, [Str.ofString "thing", Str.ofString "at", Str.ofString "size", Str.ofString "number"]⟩,
  ⟨"rows_fault", none, "rows_fault", "rows_fault", top 15, "rows.rows_fault", f_rows_rows_fault, [Str.ofString "things", Str.ofString "at", Str.ofString "thing"]⟩,
  ⟨"asked_rows", none, "asked_rows", "asked_rows", top 16, "rows.asked_rows", f_rows_asked_rows, [Str.ofString "rows", Str.ofString "at"]⟩,
  ⟨"fold_out_of", none, "fold_out_of", "fold_out_of", top 17, "rows.fold_out_of", f_rows_fold_out_of, [Str.ofString "word", Str.ofString "one", Str.ofString "other", Str.ofString "n"]⟩,
  ⟨"worth_of_rows", none, "worth_of_rows", "worth_of_rows", top 18, "rows.worth_of_rows", f_rows_worth_of_rows, [Str.ofString "rows", Str.ofString "point", Str.ofString "n", Str.ofString "x", Str.ofString "y", Str.ofString "plain", Str.ofString "worths", Str.ofString "row"]⟩,
  ⟨"shared", none, "shared", "shared", top 20, "fractions.shared", f_fractions_shared, [Str.ofString "one", Str.ofString "other", Str.ofString "big", Str.ofString "small", Str.ofString "rest"]⟩,
  ⟨"fraction", none, "fraction", "fraction", top 21, "fractions.fraction", f_fractions_fraction, [Str.ofString "top", Str.ofString "bottom", Str.ofString "by"]⟩,
  ⟨"less", none, "less", "less", top 22, "fractions.less", f_fractions_less, [Str.ofString "one", Str.ofString "other"]⟩,
  ⟨"rule_at", none, "rule_at", "rule_at", top 26, "lines.rule_at", f_lines_rule_at, [Str.ofString "stretch", Str.ofString "x"]⟩,
  ⟨"joined", none, "joined", "joined", top 27, "lines.joined", f_lines_joined, [Str.ofString "stretches", Str.ofString "line", Str.ofString "stretch"]⟩]
def ds1 : List DD := [⟨"level", none, "level", "level", top 29, "lineworks.level", f_lineworks_level, [Str.ofString "height"]⟩,
  ⟨"pieces", none, "pieces", "pieces", top 30, "lineworks.pieces", f_lineworks_pieces, [Str.ofString "one", Str.ofString "other", Str.ofString "found", Str.ofString "i", Str.ofString "j", Str.ofString "first", Str.ofString "second", Str.ofString "end"]⟩,
  ⟨"added", none, "added", "added", top 31, "lineworks.added", f_lineworks_added, [Str.ofString "one", Str.ofString "other", Str.ofString "end", Str.ofString "first", Str.ofString "second"]⟩,
  ⟨"turned", none, "turned", "turned", top 32, "lineworks.turned", f_lineworks_turned, [Str.ofString "line", Str.ofString "stretch"]⟩,
  ⟨"raised", none, "raised", "raised", top 33, "lineworks.raised", f_lineworks_raised, [Str.ofString "line", Str.ofString "by", Str.ofString "stretch"]⟩,
  ⟨"higher", none, "higher", "higher", top 34, "lineworks.higher", f_lineworks_higher, [Str.ofString "start", Str.ofString "end", Str.ofString "first", Str.ofString "second", Str.ofString "ahead", Str.ofString "behind"]⟩,
  ⟨"crossing", none, "crossing", "crossing", top 35, "lineworks.crossing", f_lineworks_crossing, [Str.ofString "first", Str.ofString "second"]⟩,
  ⟨"greater_line", none, "greater_line", "greater_line", top 36, "lineworks.greater_line", f_lineworks_greater_line, [Str.ofString "one", Str.ofString "other", Str.ofString "found", Str.ofString "start", Str.ofString "end", Str.ofString "first", Str.ofString "second"]⟩,
  ⟨"lesser_line", none, "lesser_line", "lesser_line", top 37, "lineworks.lesser_line", f_lineworks_lesser_line, [Str.ofString "one", Str.ofString "other"]⟩,
  ⟨"cut_off", none, "cut_off", "cut_off", top 38, "lineworks.cut_off", f_lineworks_cut_off, [Str.ofString "line"]⟩,
  ⟨"fold_line", none, "fold_line", "fold_line", top 41, "meanings.fold_line", f_meanings_fold_line, [Str.ofString "word", Str.ofString "one", Str.ofString "other"]⟩,
  ⟨"row_line", none, "row_line", "row_line", top 42, "meanings.row_line", f_meanings_row_line, [Str.ofString "row", Str.ofString "lines"]⟩]
def ds2 : List DD := [⟨"last_line", none, "last_line", "last_line", top 43, "meanings.last_line", f_meanings_last_line, [Str.ofString "rows", Str.ofString "lines", Str.ofString "row"]⟩,
  ⟨"line_of_rows", none, "line_of_rows", "line_of_rows", top 44, "meanings.line_of_rows", f_meanings_line_of_rows, [Str.ofString "rows", Str.ofString "fault"]⟩,
  ⟨"told_by", none, "told_by", "told_by", top 46, "hulls.told_by", f_hulls_told_by, [Str.ofString "rule", Str.ofString "point", Str.ofString "a", Str.ofString "b", Str.ofString "c", Str.ofString "n", Str.ofString "x", Str.ofString "y"]⟩,
  ⟨"sum_of", none, "sum_of", "sum_of", top 50, "rules.sum_of", f_rules_sum_of, [Str.ofString "one", Str.ofString "other", Str.ofString "k"]⟩,
  ⟨"rest_of", none, "rest_of", "rest_of", top 51, "rules.rest_of", f_rules_rest_of, [Str.ofString "one", Str.ofString "other", Str.ofString "k"]⟩,
  ⟨"test_of", none, "test_of", "test_of", top 52, "rules.test_of", f_rules_test_of, [Str.ofString "word", Str.ofString "one", Str.ofString "other"]⟩,
  ⟨"lower_rule", none, "lower_rule", "lower_rule", top 53, "rules.lower_rule", f_rules_lower_rule, [Str.ofString "word", Str.ofString "one", Str.ofString "other"]⟩,
  ⟨"upper_rule", none, "upper_rule", "upper_rule", top 54, "rules.upper_rule", f_rules_upper_rule, [Str.ofString "word", Str.ofString "one", Str.ofString "other"]⟩,
  ⟨"fold_rule", none, "fold_rule", "fold_rule", top 55, "rules.fold_rule", f_rules_fold_rule, [Str.ofString "word", Str.ofString "one", Str.ofString "other", Str.ofString "hull", Str.ofString "test", Str.ofString "tells", Str.ofString "corner"]⟩,
  ⟨"rules_on", none, "rules_on", "rules_on", top 56, "rules.rules_on", f_rules_rules_on, [Str.ofString "rows", Str.ofString "hull", Str.ofString "fault", Str.ofString "rules", Str.ofString "k", Str.ofString "row", Str.ofString "rule", Str.ofString "test"]⟩,
  ⟨"_law_cell", none, "_law_cell", "_law_cell", top 58, "_law_cell", f__law_cell, [Str.ofString "_law_script", Str.ofString "_law_k", Str.ofString "_law_cell_here", Str.ofString "_law_first", Str.ofString "_law_second"]⟩,
  ⟨"_law_whole", none, "_law_whole", "_law_whole", top 59, "_law_whole", f__law_whole, [Str.ofString "_law_found"]⟩]
def ds3 : List DD := [⟨"_law_rows", none, "_law_rows", "_law_rows", top 60, "_law_rows", f__law_rows, [Str.ofString "_law_script", Str.ofString "_law_at", Str.ofString "_law_many", Str.ofString "_law_leaves", Str.ofString "_law_rows_here", Str.ofString "_law_k", Str.ofString "_law_cell_here", Str.ofString "_law_one", Str.ofString "_law_other"]⟩,
  ⟨"_law_row", none, "_law_row", "_law_row", top 61, "_law_row", f__law_row, [Str.ofString "_law_thing", Str.ofString "_law_at", Str.ofString "_law_words", Str.ofString "_law_number"]⟩,
  ⟨"_law_fault", none, "_law_fault", "_law_fault", top 62, "_law_fault", f__law_fault_v2, [Str.ofString "_law_things", Str.ofString "_law_at"]⟩,
  ⟨"_law_spoilt", none, "_law_spoilt", "_law_spoilt", top 63, "_law_spoilt", f__law_spoilt, [Str.ofString "_law_rows_here", Str.ofString "_law_cell_here", Str.ofString "_law_more", Str.ofString "_law_at", Str.ofString "_law_row_here", Str.ofString "_law_way", Str.ofString "_law_some", Str.ofString "_law_number"]⟩,
  ⟨"_law_refused", none, "_law_refused", "_law_refused", top 64, "_law_refused", f__law_refused_v3, [Str.ofString "_law_things", Str.ofString "_law_way", Str.ofString "_law_heard", Str.ofString "e"]⟩,
  ⟨"law", none, "law", "law", top 65, "law", f_law_v12, [Str.ofString "_law_script", Str.ofString "_law_cell_here", Str.ofString "_law_things", Str.ofString "_law_k", Str.ofString "_law_handed", Str.ofString "_law_due", Str.ofString "_law_found", Str.ofString "_law_way"]⟩]
def lw : Lw := ⟨ds0 ++ ds1 ++ ds2 ++ ds3, [.SayError, .NoRows, .NoLine, .NoNumber, .NoPoint, .NoLetter], [("MOST", "rows.MOST", (.int 400)), ("PLAIN_rows", "rows.PLAIN", (.tup [(.str (S "never")), (.str (S "always")), (.str (S "p")), (.str (S "q"))])), ("FOLDS", "rows.FOLDS", (.tup [(.str (S "more")), (.str (S "less")), (.str (S "greater")), (.str (S "lesser")), (.str (S "leads"))])), ("NOUGHT", "lines.NOUGHT", (.tup [(.int 0), (.int 1)])), ("ONE_lines", "lines.ONE", (.tup [(.int 1), (.int 1)])), ("LETTER_LINE", "meanings.LETTER_LINE", (.tup [(.tup [(.tup [(.int 1), (.int 1)]), (.int 1), (.int 0)])])), ("ONE_rules", "rules.ONE", (.tup [(.int 0), (.int 0), (.int 1)]))], [⟨"NoRows", "NoRows.__init__", inCls (top 2) 0, [Str.ofString "self", Str.ofString "at"]⟩], [(.NoRows, some "NoRows")], [], [("PLAIN_rules", "rules.PLAIN", [(Str.ofString "never", (.tup [(.int 0), (.int 0), (.int 0)])), (Str.ofString "always", (.tup [(.int 0), (.int 0), (.int 1)])), (Str.ofString "p", (.tup [(.int 1), (.int 0), (.int 0)])), (Str.ofString "q", (.tup [(.int 0), (.int 1), (.int 0)]))])]⟩
def loose0 : List Str := ["SayError", "NoRows", "NoLine", "NoNumber", "NoPoint", "NoLetter", "is_point", "MOST", "PLAIN_rows", "FOLDS", "is_place", "is_row", "rows_fault", "asked_rows", "fold_out_of", "worth_of_rows", "shared", "fraction", "less", "NOUGHT"]
def loose1 : List Str := ["ONE_lines", "rule_at", "joined", "level", "pieces", "added", "turned", "raised", "higher", "crossing", "greater_line", "lesser_line", "cut_off", "LETTER_LINE", "fold_line", "row_line", "last_line", "line_of_rows", "told_by", "ONE_rules"]
def loose2 : List Str := ["PLAIN_rules", "sum_of", "rest_of", "test_of", "lower_rule", "upper_rule", "fold_rule", "rules_on", "_law_cell", "_law_whole", "_law_rows", "_law_row", "_law_fault", "_law_spoilt", "_law_refused"]
def loose : List Str := loose0 ++ loose1 ++ loose2
abbrev R : PySem.W.OpenRow := PySem.W.OpenLaw.row PySem.Challenge.rw_leansay_k13_rows_amiss
abbrev hk : PySem.W.Hook := hookQ 5 lw.ck lw.fn lw.ts
def ob (s : PySem.W.SharedT) : AlQ := obsQG 5 lw.ck lw.fn lw.ts (HandSHeadRun.getT s)
theorem ob_eq (s : PySem.W.SharedT) : ob s = hk.obs s.abs := obsQG_eq (HandSHeadRun.getT_eq s)
theorem run_false (w : World) : HandSHeadRun.RunEq R (PySem.W.view R.prog [65]) hk ob 30000 loose (w.withFollow "special-get-raises" false) := by
  intro os
  kernel_rfl
theorem run_true (w : World) : HandSHeadRun.RunEq R (PySem.W.view R.prog [65]) hk ob 30000 loose (w.withFollow "special-get-raises" true) := by
  intro os
  kernel_rfl
theorem run (w : World) : HandSHeadRun.RunEq R (PySem.W.view R.prog [65]) hk ob 30000 loose w := PySem.W.byRow2 "special-get-raises" (P := fun w => HandSHeadRun.RunEq R (PySem.W.view R.prog [65]) hk ob 30000 loose w) run_false run_true w
theorem fns : lw.fns = true := by decide +kernel
end Q.k13

/-! my interpreter, step by step: frames without binders, for the simplifier -/
namespace Q
def getL : Ev → Nat → Option D
  | [], _ => none
  | x :: _, 0 => x
  | _ :: s, n + 1 => getL s n
theorem getL_eq : ∀ (s : Ev) (i : Nat), getL s i = (s[i]?).join
  | [], i => by simp [getL]
  | x :: s, 0 => by simp [getL]
  | x :: s, i + 1 => by simp only [getL, getL_eq s i, List.getElem?_cons_succ]
@[simp] theorem getL_zero (x : Option D) (s : Ev) : getL (x :: s) 0 = x := rfl
@[simp] theorem getL_succ (x : Option D) (s : Ev) (n : Nat) : getL (x :: s) (n + 1) = getL s n := rfl
def kVar (h : Hs) : Option D → R D
  | some d => .ok d h
  | none => .bad
@[simp] theorem kVar_some (h : Hs) (d : D) : kVar h (some d) = .ok d h := rfl
def kOpt (h : Hs) : Option D → R D
  | some d => .ok d h
  | none => .bad
@[simp] theorem kOpt_some (h : Hs) (d : D) : kOpt h (some d) = .ok d h := rfl
noncomputable section
variable (C : Cl) (s : Ev) (h : Hs)
def kTup : R (List D) → R D := fun r => r.bind fun ds h => .ok (.tup ds) h
def kLst : R (List D) → R D := fun r => r.bind fun ds h => .ok (.ref h.length) (h ++ [.lst ds])
def kDic (t : Bool) : R (List D) → R D := fun r => r.bind fun ds h => mkDic t ds h
def kBin1 (o : Bop) (b : Ex) : R D → R D := fun r => r.bind fun x h => (evE C b s h).bind fun y h => o.run x y h
def kBin2 (o : Bop) (x : D) : R D → R D := fun r => r.bind fun y h => o.run x y h
def kCmp1 (o : Cop) (b : Ex) : R D → R D := fun r => r.bind fun x h => (evE C b s h).bind fun y h => o.run x y h
def kCmp2 (o : Cop) (x : D) : R D → R D := fun r => r.bind fun y h => o.run x y h
def kChn1 (o p : Cop) (b c : Ex) : R D → R D := fun r => r.bind fun x h => (evE C b s h).bind fun y h => (o.run x y h).bind fun t h => chnD t (fun h => (evE C c s h).bind fun z h => p.run y z h) h
def kChn2 (o p : Cop) (x : D) (c : Ex) : R D → R D := fun r => r.bind fun y h => (o.run x y h).bind fun t h => chnD t (fun h => (evE C c s h).bind fun z h => p.run y z h) h
def kChn3 (p : Cop) (y : D) (c : Ex) : R D → R D := fun r => r.bind fun t h => chnD t (fun h => (evE C c s h).bind fun z h => p.run y z h) h
def kNeg : R D → R D := fun r => r.bind fun x h => negD x h
def kIsn (n : Bool) : R D → R D := fun r => r.bind fun x h => .ok (.bl (isN x != n)) h
def kIst (b n : Bool) : R D → R D := fun r => r.bind fun x h => .ok (.bl (isBl b x != n)) h
def kNot : R D → R D := fun r => r.bind fun x h => opt (tru h x) (fun c => .bl (!c)) h
def kNot2 (h : Hs) : Option Bool → R D := fun r => opt r (fun c => .bl (!c)) h
def kAnd (es : Exs) : R D → R D := fun r => r.bind fun x h => andD x (fun h => evAnd C es s h) h
def kOr (es : Exs) : R D → R D := fun r => r.bind fun x h => orD x (fun h => evOr C es s h) h
def kOrv (b : Ex) : R D → R D := fun r => r.bind fun x h => orvD x (fun h => evE C b s h) h
def kIte (a b : Ex) : R D → R D := fun r => r.bind fun x h => iteD x (fun h => evE C a s h) (fun h => evE C b s h) h
def kIte2 (a b : Ex) (h : Hs) : Option Bool → R D
  | some true => evE C a s h
  | some false => evE C b s h
  | none => .bad
def kSub1 (i : Ex) : R D → R D := fun r => r.bind fun x h => (evE C i s h).bind fun y h => getI x y h
def kSub2 (x : D) : R D → R D := fun r => r.bind fun y h => getI x y h
def kSlc1 (lo hi : Eo) : R D → R D := fun r => r.bind fun x h => (evO C lo s h).bind fun l h => (evO C hi s h).bind fun u h => slice x l u h
def kSlc2 (x : D) (hi : Eo) : R (Option Int) → R D := fun r => r.bind fun l h => (evO C hi s h).bind fun u h => slice x l u h
def kSlc3 (x : D) (l : Option Int) : R (Option Int) → R D := fun r => r.bind fun u h => slice x l u h
def kFld (f : String) : R D → R D := fun r => r.bind fun x h => fldD f x h
def kCall (f : String) : R (List D) → R D := fun r => r.bind fun ds h => C.call f ds h
def kMk (c : Cn) : R (List D) → R D := fun r => r.bind fun ds h => mkO c ds h
def kMth1 (m : String) (es : Exs) : R D → R D := fun r => r.bind fun x h => mthD C m x (fun f h => (evs C es s h).bind fun ds h => C.call f (x :: ds) h) h
def kMth2 (f : String) (x : D) : R (List D) → R D := fun r => r.bind fun ds h => C.call f (x :: ds) h
def kMthO (es : Exs) (x : D) (h : Hs) : Option String → R D
  | some f => kMth2 C f x (evs C es s h)
  | none => .bad
def kB (f : Bi) : R (List D) → R D := fun r => r.bind fun ds h => f.run ds h
def kBm1 (m : Bm) (es : Exs) : R D → R D := fun r => r.bind fun x h => bmD m x (fun h => (evs C es s h).bind fun ds h => m.run x ds h) h
def kBm2 (m : Bm) (x : D) (es : Exs) (h : Hs) (b : Bool) : R D := if b then (evs C es s h).bind fun ds h => m.run x ds h else .bad
def kBm3 (m : Bm) (x : D) : R (List D) → R D := fun r => r.bind fun ds h => m.run x ds h
def kIsi (ts : List Ty) : R D → R D := fun r => r.bind fun x h => opt (isTys h x ts) D.bl h
def kOptB (h : Hs) : Option Bool → R D := fun r => opt r D.bl h
def kJst : R (List D) → R D := fun r => r.bind fun ds h => jstD ds h
def kGget (x : String) : R D → R D := fun r => r.bind fun d h => gget C x d h
def kGin (x : String) (n : Bool) : R D → R D := fun r => r.bind fun d h => gin C x n d h
/-- a comprehension over what is walked -/
def kComp (e : Ex) (tg : Tg) (c : Eo) (own : List Nat) : R Walk → R D := fun r => r.bind fun w h => compE w (compG tg own (fun s h => evC C c s h) (fun s h => evE C e s h) s) h
def kCons1 (es : Exs) : R D → R (List D) := fun r => r.bind fun d h => (evs C es s h).bind fun ds h => .ok (d :: ds) h
def kCons2 (d : D) : R (List D) → R (List D) := fun r => r.bind fun ds h => .ok (d :: ds) h
def kTru : R D → R Bool := fun r => r.bind fun x h => truR x h
def kTru2 (h : Hs) : Option Bool → R Bool
  | some c => .ok c h
  | none => .bad
def kOptI : R D → R (Option Int) := fun r => r.bind fun d h => optI d h
variable {C s h}
@[simp] theorem evE_v (i : Nat) : evE C (.v i) s h = kVar h (getL s i) := by
  simp only [evE, getV, getL_eq]
  cases s[i]? with
  | none => rfl
  | some o => cases o <;> rfl
@[simp] theorem evE_k (d : D) : evE C (.k d) s h = .ok d h := by simp only [evE]
@[simp] theorem evE_g (x : String) : evE C (.g x) s h = kOpt h (C.T.con x) := by
  simp only [evE]
  cases C.T.con x <;> rfl
@[simp] theorem evE_tup (es : Exs) : evE C (.tup es) s h = kTup (evs C es s h) := by simp only [evE, kTup]
@[simp] theorem evE_lst (es : Exs) : evE C (.lst es) s h = kLst (evs C es s h) := by simp only [evE, kLst]
@[simp] theorem evE_dic (t : Bool) (es : Exs) : evE C (.dic t es) s h = kDic t (evs C es s h) := by simp only [evE, kDic]
@[simp] theorem evE_bin (o : Bop) (a b : Ex) : evE C (.bin o a b) s h = kBin1 C s o b (evE C a s h) := by simp only [evE, kBin1]
@[simp] theorem evE_neg (a : Ex) : evE C (.neg a) s h = kNeg (evE C a s h) := by simp only [evE, kNeg]
@[simp] theorem evE_cmp (o : Cop) (a b : Ex) : evE C (.cmp o a b) s h = kCmp1 C s o b (evE C a s h) := by simp only [evE, kCmp1]
@[simp] theorem evE_chn (o p : Cop) (a b c : Ex) : evE C (.chn o p a b c) s h = kChn1 C s o p b c (evE C a s h) := by simp only [evE, kChn1]
@[simp] theorem evE_isn (a : Ex) (n : Bool) : evE C (.isn a n) s h = kIsn n (evE C a s h) := by simp only [evE, kIsn]
@[simp] theorem evE_ist (a : Ex) (b n : Bool) : evE C (.ist a b n) s h = kIst b n (evE C a s h) := by simp only [evE, kIst]
@[simp] theorem evE_not (a : Ex) : evE C (.not a) s h = kNot (evE C a s h) := by simp only [evE, kNot]
@[simp] theorem evE_and (es : Exs) : evE C (.and es) s h = evAnd C es s h := by simp only [evE]
@[simp] theorem evE_or (es : Exs) : evE C (.or es) s h = evOr C es s h := by simp only [evE]
@[simp] theorem evAnd_one (e : Ex) : evAnd C (.cons e .nil) s h = evE C e s h := by simp only [evAnd]
@[simp] theorem evAnd_cons (e f : Ex) (es : Exs) : evAnd C (.cons e (.cons f es)) s h = kAnd C s (.cons f es) (evE C e s h) := by simp only [evAnd, kAnd]
@[simp] theorem evOr_one (e : Ex) : evOr C (.cons e .nil) s h = evE C e s h := by simp only [evOr]
@[simp] theorem evOr_cons (e f : Ex) (es : Exs) : evOr C (.cons e (.cons f es)) s h = kOr C s (.cons f es) (evE C e s h) := by simp only [evOr, kOr]
@[simp] theorem evE_orv (a b : Ex) : evE C (.orv a b) s h = kOrv C s b (evE C a s h) := by simp only [evE, kOrv]
@[simp] theorem evE_ite (c a b : Ex) : evE C (.ite c a b) s h = kIte C s a b (evE C c s h) := by simp only [evE, kIte]
@[simp] theorem evE_sub (a i : Ex) : evE C (.sub a i) s h = kSub1 C s i (evE C a s h) := by simp only [evE, kSub1]
@[simp] theorem evE_slc (a : Ex) (lo hi : Eo) : evE C (.slc a lo hi) s h = kSlc1 C s lo hi (evE C a s h) := by simp only [evE, kSlc1]
@[simp] theorem evE_fld (a : Ex) (f : String) : evE C (.fld a f) s h = kFld f (evE C a s h) := by simp only [evE, kFld]
@[simp] theorem evE_call (f : String) (es : Exs) : evE C (.call f es) s h = kCall C f (evs C es s h) := by simp only [evE, kCall]
@[simp] theorem evE_mk (c : Cn) (es : Exs) : evE C (.mk c es) s h = kMk c (evs C es s h) := by simp only [evE, kMk]
@[simp] theorem evE_mth (a : Ex) (m : String) (es : Exs) : evE C (.mth a m es) s h = kMth1 C s m es (evE C a s h) := by simp only [evE, kMth1]
@[simp] theorem evE_b (f : Bi) (es : Exs) : evE C (.b f es) s h = kB f (evs C es s h) := by simp only [evE, kB]
@[simp] theorem evE_bm (m : Bm) (a : Ex) (es : Exs) : evE C (.bm m a es) s h = kBm1 C s m es (evE C a s h) := by simp only [evE, kBm1]
@[simp] theorem evE_isi (a : Ex) (ts : List Ty) : evE C (.isi a ts) s h = kIsi ts (evE C a s h) := by simp only [evE, kIsi]
@[simp] theorem evE_gget (x : String) (a : Ex) : evE C (.gget x a) s h = kGget C x (evE C a s h) := by simp only [evE, kGget]
@[simp] theorem evE_gin (x : String) (a : Ex) (n : Bool) : evE C (.gin a x n) s h = kGin C x n (evE C a s h) := by simp only [evE, kGin]
@[simp] theorem evE_comp (e : Ex) (tg : Tg) (it : It) (c : Eo) (own : List Nat) : evE C (.comp e tg it c own) s h = kComp C s e tg c own (walk C it s h) := by simp only [evE, kComp]
@[simp] theorem evE_jst (es : Exs) : evE C (.jst es) s h = kJst (evs C es s h) := by simp only [evE, kJst]
@[simp] theorem evs_nil : evs C .nil s h = .ok [] h := by simp only [evs]
@[simp] theorem evs_cons (e : Ex) (es : Exs) : evs C (.cons e es) s h = kCons1 C s es (evE C e s h) := by simp only [evs, kCons1]
@[simp] theorem evO_none : evO C .none s h = .ok none h := by simp only [evO]
@[simp] theorem evO_some (e : Ex) : evO C (.some e) s h = kOptI (evE C e s h) := by simp only [evO, kOptI]
@[simp] theorem evC_none : evC C .none s h = .ok true h := by simp only [evC]
@[simp] theorem evC_some (e : Ex) : evC C (.some e) s h = kTru (evE C e s h) := by simp only [evC, kTru]
@[simp] theorem evT_eq (e : Ex) : evT C e s h = kTru (evE C e s h) := rfl
variable (x y : D) (ds : List D) (c : Cn) (fs : List D)
@[simp] theorem kTup_ok : kTup (.ok ds h) = .ok (.tup ds) h := rfl
@[simp] theorem kTup_exc : kTup (.exc c fs h) = .exc c fs h := rfl
@[simp] theorem kLst_ok : kLst (.ok ds h) = .ok (.ref h.length) (h ++ [.lst ds]) := rfl
@[simp] theorem kLst_exc : kLst (.exc c fs h) = .exc c fs h := rfl
@[simp] theorem kDic_ok (t : Bool) : kDic t (.ok ds h) = mkDic t ds h := rfl
@[simp] theorem kBin1_ok (o : Bop) (b : Ex) : kBin1 C s o b (.ok x h) = kBin2 o x (evE C b s h) := rfl
@[simp] theorem kBin1_exc (o : Bop) (b : Ex) : kBin1 C s o b (.exc c fs h) = .exc c fs h := rfl
@[simp] theorem kBin2_ok (o : Bop) : kBin2 o x (.ok y h) = o.run x y h := rfl
@[simp] theorem kBin2_exc (o : Bop) : kBin2 o x (.exc c fs h) = .exc c fs h := rfl
@[simp] theorem kCmp1_ok (o : Cop) (b : Ex) : kCmp1 C s o b (.ok x h) = kCmp2 o x (evE C b s h) := rfl
@[simp] theorem kCmp1_exc (o : Cop) (b : Ex) : kCmp1 C s o b (.exc c fs h) = .exc c fs h := rfl
@[simp] theorem kCmp2_ok (o : Cop) : kCmp2 o x (.ok y h) = o.run x y h := rfl
@[simp] theorem kCmp2_exc (o : Cop) : kCmp2 o x (.exc c fs h) = .exc c fs h := rfl
@[simp] theorem kChn1_ok (o p : Cop) (b e : Ex) : kChn1 C s o p b e (.ok x h) = kChn2 C s o p x e (evE C b s h) := rfl
@[simp] theorem kChn2_ok (o p : Cop) (e : Ex) : kChn2 C s o p x e (.ok y h) = kChn3 C s p y e (o.run x y h) := rfl
@[simp] theorem kChn3_t (p : Cop) (e : Ex) : kChn3 C s p y e (.ok (.bl true) h) = kCmp2 p y (evE C e s h) := rfl
@[simp] theorem kChn3_f (p : Cop) (e : Ex) : kChn3 C s p y e (.ok (.bl false) h) = .ok (.bl false) h := rfl
@[simp] theorem kNeg_ok (i : Int) : kNeg (.ok (.int i) h) = .ok (.int (-i)) h := rfl
@[simp] theorem kNeg_exc : kNeg (.exc c fs h) = .exc c fs h := rfl
@[simp] theorem kIsn_ok (n : Bool) : kIsn n (.ok x h) = .ok (.bl (isN x != n)) h := rfl
@[simp] theorem kIsn_exc (n : Bool) : kIsn n (.exc c fs h) = .exc c fs h := rfl
@[simp] theorem kIst_ok (b n : Bool) : kIst b n (.ok x h) = .ok (.bl (isBl b x != n)) h := rfl
@[simp] theorem kNot_ok : kNot (.ok x h) = kNot2 h (tru h x) := rfl
@[simp] theorem kNot_exc : kNot (.exc c fs h) = .exc c fs h := rfl
@[simp] theorem kNot2_some (b : Bool) : kNot2 h (some b) = .ok (.bl (!b)) h := rfl
@[simp] theorem kAnd_t (es : Exs) : kAnd C s es (.ok (.bl true) h) = evAnd C es s h := rfl
@[simp] theorem kAnd_f (es : Exs) : kAnd C s es (.ok (.bl false) h) = .ok (.bl false) h := rfl
theorem kAnd_b (es : Exs) (b : Bool) : kAnd C s es (.ok (.bl b) h) = if b = true then evAnd C es s h else .ok (.bl false) h := by cases b <;> rfl
@[simp] theorem kAnd_exc (es : Exs) : kAnd C s es (.exc c fs h) = .exc c fs h := rfl
@[simp] theorem kOr_t (es : Exs) : kOr C s es (.ok (.bl true) h) = .ok (.bl true) h := rfl
@[simp] theorem kOr_f (es : Exs) : kOr C s es (.ok (.bl false) h) = evOr C es s h := rfl
theorem kOr_b (es : Exs) (b : Bool) : kOr C s es (.ok (.bl b) h) = if b = true then .ok (.bl true) h else evOr C es s h := by cases b <;> rfl
@[simp] theorem kOr_exc (es : Exs) : kOr C s es (.exc c fs h) = .exc c fs h := rfl
@[simp] theorem kIte_ok (a b : Ex) : kIte C s a b (.ok x h) = kIte2 C s a b h (tru h x) := by
  show iteD x (fun h => evE C a s h) (fun h => evE C b s h) h = _
  unfold iteD
  cases tru h x with
  | none => rfl
  | some t => cases t <;> rfl
@[simp] theorem kIte2_t (a b : Ex) : kIte2 C s a b h (some true) = evE C a s h := rfl
@[simp] theorem kIte2_f (a b : Ex) : kIte2 C s a b h (some false) = evE C b s h := rfl
theorem kIte2_b (a b : Ex) (t : Bool) : kIte2 C s a b h (some t) = if t = true then evE C a s h else evE C b s h := by cases t <;> rfl
@[simp] theorem kSub1_ok (i : Ex) : kSub1 C s i (.ok x h) = kSub2 x (evE C i s h) := rfl
@[simp] theorem kSub1_exc (i : Ex) : kSub1 C s i (.exc c fs h) = .exc c fs h := rfl
@[simp] theorem kSub2_ok : kSub2 x (.ok y h) = getI x y h := rfl
@[simp] theorem kSub2_exc : kSub2 x (.exc c fs h) = .exc c fs h := rfl
@[simp] theorem kSlc1_ok (lo hi : Eo) : kSlc1 C s lo hi (.ok x h) = kSlc2 C s x hi (evO C lo s h) := rfl
@[simp] theorem kSlc2_ok (hi : Eo) (l : Option Int) : kSlc2 C s x hi (.ok l h) = kSlc3 x l (evO C hi s h) := rfl
@[simp] theorem kSlc3_ok (l u : Option Int) : kSlc3 x l (.ok u h) = slice x l u h := rfl
@[simp] theorem kFld_ok (f : String) : kFld f (.ok x h) = fldD f x h := rfl
@[simp] theorem kCall_ok (f : String) : kCall C f (.ok ds h) = C.call f ds h := rfl
@[simp] theorem kCall_exc (f : String) : kCall C f (.exc c fs h) = .exc c fs h := rfl
@[simp] theorem kMk_ok (d : Cn) : kMk d (.ok ds h) = mkO d ds h := rfl
@[simp] theorem kMth1_ok (m : String) (es : Exs) (d : Cn) : kMth1 C s m es (.ok (.obj d fs) h) = kMthO C s es (.obj d fs) h (C.T.meth d m) := by
  have q : kMth1 C s m es (.ok (.obj d fs) h) = (match C.T.meth d m with
      | some f => (evs C es s h).bind fun ds h => C.call f (D.obj d fs :: ds) h
      | none => .bad) := rfl
  rw [q]
  cases C.T.meth d m <;> rfl
@[simp] theorem kMthO_some (es : Exs) (f : String) : kMthO C s es x h (some f) = kMth2 C f x (evs C es s h) := rfl
@[simp] theorem kMth2_ok (f : String) : kMth2 C f x (.ok ds h) = C.call f (x :: ds) h := rfl
@[simp] theorem kMth2_exc (f : String) : kMth2 C f x (.exc c fs h) = .exc c fs h := rfl
@[simp] theorem kB_ok (f : Bi) : kB f (.ok ds h) = f.run ds h := rfl
@[simp] theorem kB_exc (f : Bi) : kB f (.exc c fs h) = .exc c fs h := rfl
@[simp] theorem kBm1_ok (m : Bm) (es : Exs) : kBm1 C s m es (.ok x h) = kBm2 C s m x es h (bmK m x h) := rfl
@[simp] theorem kBm2_t (m : Bm) (es : Exs) : kBm2 C s m x es h true = kBm3 m x (evs C es s h) := rfl
@[simp] theorem kBm3_ok (m : Bm) : kBm3 m x (.ok ds h) = m.run x ds h := rfl
@[simp] theorem kBm3_exc (m : Bm) : kBm3 m x (.exc c fs h) = .exc c fs h := rfl
@[simp] theorem kIsi_ok (ts : List Ty) : kIsi ts (.ok x h) = kOptB h (isTys h x ts) := rfl
@[simp] theorem kOptB_some (b : Bool) : kOptB h (some b) = .ok (.bl b) h := rfl
@[simp] theorem kJst_ok : kJst (.ok ds h) = jstD ds h := rfl
@[simp] theorem kGget_ok (z : String) : kGget C z (.ok x h) = gget C z x h := rfl
@[simp] theorem kGin_ok (z : String) (n : Bool) : kGin C z n (.ok x h) = gin C z n x h := rfl
@[simp] theorem kCons1_ok (es : Exs) : kCons1 C s es (.ok x h) = kCons2 x (evs C es s h) := rfl
@[simp] theorem kCons1_exc (es : Exs) : kCons1 C s es (.exc c fs h) = .exc c fs h := rfl
@[simp] theorem kCons2_ok : kCons2 x (.ok ds h) = .ok (x :: ds) h := rfl
@[simp] theorem kCons2_exc : kCons2 x (.exc c fs h) = .exc c fs h := rfl
@[simp] theorem kTru_ok : kTru (.ok x h) = kTru2 h (tru h x) := by
  show truR x h = _
  unfold truR
  cases tru h x <;> rfl
@[simp] theorem kTru_exc : kTru (.exc c fs h) = .exc c fs h := rfl
@[simp] theorem kTru2_some (b : Bool) : kTru2 h (some b) = .ok b h := rfl
@[simp] theorem kOptI_ok (i : Int) : kOptI (.ok (.int i) h) = .ok (some i) h := rfl
/-! operations -/
@[simp] theorem opt_some {α : Type} (a : α) (f : α → D) : opt (some a) f h = .ok (f a) h := rfl
@[simp] theorem run_add (i j : Int) : Bop.run .add (.int i) (.int j) h = .ok (.int (i + j)) h := rfl
@[simp] theorem run_sub (i j : Int) : Bop.run .sub (.int i) (.int j) h = .ok (.int (i - j)) h := rfl
@[simp] theorem run_lt (i j : Int) : Cop.run .lt (.int i) (.int j) h = .ok (.bl (decide (i < j))) h := rfl
@[simp] theorem run_le (i j : Int) : Cop.run .le (.int i) (.int j) h = .ok (.bl (decide (i ≤ j))) h := rfl
@[simp] theorem run_gt (i j : Int) : Cop.run .gt (.int i) (.int j) h = .ok (.bl (decide (j < i))) h := rfl
@[simp] theorem run_ge (i j : Int) : Cop.run .ge (.int i) (.int j) h = .ok (.bl (decide (j ≤ i))) h := rfl
@[simp] theorem run_eqI (i j : Int) : Cop.run .eq (.int i) (.int j) h = .ok (.bl (decide (i = j))) h := by
  have e : (i == j) = decide (i = j) := rfl
  simp [Cop.run, eqv, rsv, rsF, ddep, opt, deq, e]
@[simp] theorem run_neI (i j : Int) : Cop.run .ne (.int i) (.int j) h = .ok (.bl (!decide (i = j))) h := by
  have e : (i == j) = decide (i = j) := rfl
  simp [Cop.run, eqv, rsv, rsF, ddep, opt, deq, e]
@[simp] theorem run_eqS (i j : PySem.Str) : Cop.run .eq (.str i) (.str j) h = .ok (.bl (i == j)) h := by
  simp [Cop.run, eqv, rsv, rsF, ddep, opt, deq]
@[simp] theorem tru_bl (b : Bool) : tru h (.bl b) = some b := rfl
@[simp] theorem tru_int (i : Int) : tru h (.int i) = some (i != 0) := rfl
@[simp] theorem tru_non : tru h .non = some false := rfl
@[simp] theorem tru_tup (ds : List D) : tru h (.tup ds) = some (!ds.isEmpty) := rfl
theorem run_mul {i j : Int} (h1 : mulB i) (h2 : mulB j) : Bop.run .mul (.int i) (.int j) h = .ok (.int (i * j)) h := if_pos ⟨h1, h2⟩
theorem run_fdiv {i j : Int} (h1 : j ≠ 0) (h2 : divB j) : Bop.run .fdiv (.int i) (.int j) h = .ok (.int (i.fdiv j)) h := if_pos ⟨h1, h2⟩
theorem run_mod {i j : Int} (h1 : j ≠ 0) : Bop.run .mod (.int i) (.int j) h = .ok (.int (i.fmod j)) h := if_pos h1
theorem run_pow {i j : Int} (h1 : 0 ≤ j ∧ j ≤ 1000 ∧ i.natAbs < 1000) : Bop.run .pow (.int i) (.int j) h = .ok (.int (i ^ j.toNat)) h := if_pos h1
@[simp] theorem abs_int (i : Int) : Bi.run .abs [.int i] h = .ok (.int (if i < 0 then -i else i)) h := rfl
@[simp] theorem len_tup (ds : List D) : Bi.run .len [.tup ds] h = .ok (.int ds.length) h := rfl
@[simp] theorem isTys_nil : isTys h x [] = some false := rfl
end

/-! ### statements -/
noncomputable section
variable (C : Cl) (s : Ev) (h : Hs)
def kSet (i : Nat) : R D → SR := fun r => r.st s fun d h => .nx (s.set i (some d)) h
def kSetT (is : List Nat) : R D → SR := fun r => r.st s fun d h => setTR is d s h
def kPar1 (i j : Nat) (b : Ex) : R D → SR := fun r => r.st s fun x h => (evE C b s h).st s fun y h => .nx ((s.set i (some x)).set j (some y)) h
def kPar2 (i j : Nat) (x : D) : R D → SR := fun r => r.st s fun y h => .nx ((s.set i (some x)).set j (some y)) h
def kSetI1 (o i : Ex) : R D → SR := fun r => r.st s fun d h => (evE C o s h).st s fun x h => (evE C i s h).st s fun y h => setIR x y d s h
def kSetI2 (d : D) (i : Ex) : R D → SR := fun r => r.st s fun x h => (evE C i s h).st s fun y h => setIR x y d s h
def kSetI3 (d x : D) : R D → SR := fun r => r.st s fun y h => setIR x y d s h
def kEx : R D → SR := fun r => r.st s fun _ h => .nx s h
def kRet : R D → SR := fun r => r.st s fun d h => .rt d h
def kIf (a b : Bl) : R Bool → SR := fun r => r.st s fun t h => if t then exB C a s h else exB C b s h
/-- a while -/
def whE (c : Ex) (a : Bl) (s : Ev) (h : Hs) : SR := whU (fun s h => evT C c s h) (fun s h => exB C a s h) s h
/-- a for over things -/
def forE (tg : Tg) (a : Bl) (ok : Hs → Prop) (ds : List D) (s : Ev) (h : Hs) : SR := forL ok (forG tg (fun s h => exB C a s h)) ds s h
def kFor (tg : Tg) (a : Bl) : R Walk → SR := fun r => r.st s fun w h => forE C tg a w.ok w.items s h
def kRaise (c : Cn) : R (List D) → SR := fun r => r.st s fun ds h => raiseR c ds s h
def kTry (hs : Hds) : SR → SR := fun r => r.caught fun c fs s h => exH C hs c fs s h
def kThen (r : Bl) : SR → SR := fun x => x.then fun s h => exB C r s h
variable {C s h}
@[simp] theorem exS_pass : exS C .pass s h = .nx s h := by simp only [exS]
@[simp] theorem exS_brk : exS C .brk s h = .bk s h := by simp only [exS]
@[simp] theorem exS_cnt : exS C .cnt s h = .ct s h := by simp only [exS]
@[simp] theorem exS_retN : exS C .retN s h = .rt .non h := by simp only [exS]
@[simp] theorem exS_set (i : Nat) (e : Ex) : exS C (.set i e) s h = kSet s i (evE C e s h) := by simp only [exS, kSet]
@[simp] theorem exS_setT (is : List Nat) (e : Ex) : exS C (.setT is e) s h = kSetT s is (evE C e s h) := by simp only [exS, kSetT]
@[simp] theorem exS_par (i j : Nat) (a b : Ex) : exS C (.par i j a b) s h = kPar1 C s i j b (evE C a s h) := by simp only [exS, kPar1]
@[simp] theorem exS_setI (o i e : Ex) : exS C (.setI o i e) s h = kSetI1 C s o i (evE C e s h) := by simp only [exS, kSetI1]
@[simp] theorem exS_ex (e : Ex) : exS C (.ex e) s h = kEx s (evE C e s h) := by simp only [exS, kEx]
@[simp] theorem exS_ret (e : Ex) : exS C (.ret e) s h = kRet s (evE C e s h) := by simp only [exS, kRet]
@[simp] theorem exS_ite (c : Ex) (a b : Bl) : exS C (.ite c a b) s h = kIf C s a b (evT C c s h) := by simp only [exS, kIf]
@[simp] theorem exS_whl (c : Ex) (a : Bl) : exS C (.whl c a) s h = whE C c a s h := by simp only [exS, whE]
@[simp] theorem exS_for (tg : Tg) (it : It) (a : Bl) : exS C (.for tg it a) s h = kFor C s tg a (walk C it s h) := by simp only [exS, kFor, forE]
@[simp] theorem exS_raise (c : Cn) (es : Exs) : exS C (.raise c es) s h = kRaise s c (evs C es s h) := by simp only [exS, kRaise]
@[simp] theorem exS_try (a : Bl) (hs : Hds) : exS C (.try a hs) s h = kTry C hs (exB C a s h) := by simp only [exS, kTry]
@[simp] theorem exB_nil : exB C .nil s h = .nx s h := by simp only [exB]
@[simp] theorem exB_cons (x : Sm) (r : Bl) : exB C (.cons x r) s h = kThen C r (exS C x s h) := by simp only [exB, kThen]
variable (d x y : D) (ds : List D) (c : Cn) (fs : List D)
@[simp] theorem kSet_ok (i : Nat) : kSet s i (.ok d h) = .nx (s.set i (some d)) h := rfl
@[simp] theorem kSet_exc (i : Nat) : kSet s i (.exc c fs h) = .exc c fs s h := rfl
@[simp] theorem kSetT_ok (is : List Nat) : kSetT s is (.ok d h) = setTR is d s h := rfl
@[simp] theorem kPar1_ok (i j : Nat) (b : Ex) : kPar1 C s i j b (.ok x h) = kPar2 s i j x (evE C b s h) := rfl
@[simp] theorem kPar2_ok (i j : Nat) : kPar2 s i j x (.ok y h) = .nx ((s.set i (some x)).set j (some y)) h := rfl
@[simp] theorem kSetI1_ok (o i : Ex) : kSetI1 C s o i (.ok d h) = kSetI2 C s d i (evE C o s h) := rfl
@[simp] theorem kSetI2_ok (i : Ex) : kSetI2 C s d i (.ok x h) = kSetI3 s d x (evE C i s h) := rfl
@[simp] theorem kSetI3_ok : kSetI3 s d x (.ok y h) = setIR x y d s h := rfl
@[simp] theorem kEx_ok : kEx s (.ok d h) = .nx s h := rfl
@[simp] theorem kEx_exc : kEx s (.exc c fs h) = .exc c fs s h := rfl
@[simp] theorem kRet_ok : kRet s (.ok d h) = .rt d h := rfl
@[simp] theorem kRet_exc : kRet s (.exc c fs h) = .exc c fs s h := rfl
@[simp] theorem kIf_t (a b : Bl) : kIf C s a b (.ok true h) = exB C a s h := rfl
@[simp] theorem kIf_f (a b : Bl) : kIf C s a b (.ok false h) = exB C b s h := rfl
theorem kIf_b (a b : Bl) (t : Bool) : kIf C s a b (.ok t h) = if t = true then exB C a s h else exB C b s h := rfl
@[simp] theorem kIf_exc (a b : Bl) : kIf C s a b (.exc c fs h) = .exc c fs s h := rfl
@[simp] theorem kFor_ok (tg : Tg) (a : Bl) (w : Walk) : kFor C s tg a (.ok w h) = forE C tg a w.ok w.items s h := rfl
@[simp] theorem kRaise_ok : kRaise s c (.ok ds h) = raiseR c ds s h := rfl
@[simp] theorem kTry_nx (hs : Hds) : kTry C hs (.nx s h) = .nx s h := rfl
@[simp] theorem kTry_rt (hs : Hds) : kTry C hs (.rt d h) = .rt d h := rfl
@[simp] theorem kTry_bk (hs : Hds) : kTry C hs (.bk s h) = .bk s h := rfl
@[simp] theorem kTry_ct (hs : Hds) : kTry C hs (.ct s h) = .ct s h := rfl
@[simp] theorem kTry_exc (hs : Hds) : kTry C hs (.exc c fs s h) = exH C hs c fs s h := rfl
@[simp] theorem kThen_nx (r : Bl) : kThen C r (.nx s h) = exB C r s h := rfl
@[simp] theorem kThen_rt (r : Bl) : kThen C r (.rt d h) = .rt d h := rfl
@[simp] theorem kThen_bk (r : Bl) : kThen C r (.bk s h) = .bk s h := rfl
@[simp] theorem kThen_ct (r : Bl) : kThen C r (.ct s h) = .ct s h := rfl
@[simp] theorem kThen_exc (r : Bl) : kThen C r (.exc c fs s h) = .exc c fs s h := rfl
@[simp] theorem fin_nx : SR.fin (.nx s h) = .ok .non h := rfl
@[simp] theorem fin_rt : SR.fin (.rt d h) = .ok d h := rfl
@[simp] theorem fin_exc : SR.fin (.exc c fs s h) = .exc c fs h := rfl
theorem forE_nil {tg : Tg} {a : Bl} {ok : Hs → Prop} (q : ok h) : forE C tg a ok [] s h = .nx s h := by
  unfold forE forL; rw [if_pos q]
theorem forE_nx {tg : Tg} {a : Bl} {ok : Hs → Prop} {d : D} {ds : List D} {s2 s3 : Ev} {h3 : Hs} (q : ok h) (q2 : asg tg d s = some s2) (q3 : exB C a s2 h = .nx s3 h3) : forE C tg a ok (d :: ds) s h = forE C tg a ok ds s3 h3 := by
  unfold forE; rw [forL, if_pos q]; simp only [forG, q2, q3]
theorem forE_rt {tg : Tg} {a : Bl} {ok : Hs → Prop} {d : D} {ds : List D} {s2 : Ev} {h3 : Hs} {v : D} (q : ok h) (q2 : asg tg d s = some s2) (q3 : exB C a s2 h = .rt v h3) : forE C tg a ok (d :: ds) s h = .rt v h3 := by
  unfold forE; rw [forL, if_pos q]; simp only [forG, q2, q3]
end
theorem call_eq {T : Tab} {k : Nat} {f : String} {g : Fn} {ds : List D} {h : Hs} (hg : T.fn f = some g) (hn : ds.length = g.np) : call T (k + 1) f ds h = (exB ⟨T, call T k⟩ g.body (start g.ns ds) h).fin := by
  simp only [call, hg, hn, if_true]
end Q
namespace Q
noncomputable section
variable {h : Hs} {n : Nat} {xs : List D}
theorem len_frz (q : h[n]? = some (.frz xs)) : Bi.run .len [.ref n] h = .ok (.int xs.length) h := by simp only [Bi.run, q]
theorem len_lst (q : h[n]? = some (.lst xs)) : Bi.run .len [.ref n] h = .ok (.int xs.length) h := by simp only [Bi.run, q]
theorem getI_frz (q : h[n]? = some (.frz xs)) (i : Int) : getI (.ref n) (.int i) h = opt (atI xs i) id h := by simp only [getI, q]
theorem getI_lst (q : h[n]? = some (.lst xs)) (i : Int) : getI (.ref n) (.int i) h = opt (atI xs i) id h := by simp only [getI, q]
@[simp] theorem getI_tup (xs : List D) (i : Int) : getI (.tup xs) (.int i) h = opt (atI xs i) id h := rfl
theorem atI_nat {α : Type} {xs : List α} {i : Int} (h0 : 0 ≤ i) (h1 : i < xs.length) : atI xs i = some (xs[i.toNat]'(by omega)) := by
  unfold atI ixN
  rw [if_pos h0, if_pos h1]
  simp
@[simp] theorem atI_zero {α : Type} (x : α) (xs : List α) : atI (x :: xs) 0 = some x := by
  rw [atI_nat (by omega) (by simp <;> omega)]; rfl
@[simp] theorem atI_one {α : Type} (x y : α) (xs : List α) : atI (x :: y :: xs) 1 = some y := by
  rw [atI_nat (by omega) (by simp <;> omega)]; rfl
@[simp] theorem id_D (x : D) : (id x : D) = x := rfl
end
end Q
namespace Q
noncomputable section
/-! ### walks, comprehensions, clauses, lists -/
section
variable (C : Cl) (s : Ev) (h : Hs)
def kSq : R D → R Walk := fun r => r.bind fun d h => walkOf (walkSq h d) h
def kWalk (h : Hs) : Option Walk → R Walk
  | some w => .ok w h
  | none => .bad
def kR1 : R D → R Walk := fun r => r.bind fun x h => rng1 x h
def kR2 (b : Ex) : R D → R Walk := fun r => r.bind fun x h => (evE C b s h).bind fun y h => rng2 x y h
def kR2' (x : D) : R D → R Walk := fun r => r.bind fun y h => rng2 x y h
def kEnum : R D → R Walk := fun r => r.bind fun d h => walkOf (enumOf h d) h
def kZip1 (b : Ex) : R D → R Walk := fun r => r.bind fun x h => (evE C b s h).bind fun y h => walkOf (zipOf h x y) h
def kZip2 (x : D) : R D → R Walk := fun r => r.bind fun y h => walkOf (zipOf h x y) h
def kSui (i : Option Nat) : SR → SR
  | .nx s h => .nx (match i with
    | some i => s.set i none
    | none => s) h
  | .rt d h => .rt d h
  | _ => .bad
def putX (i : Option Nat) (d : D) (s : Ev) : Ev := match i with
  | some i => s.set i (some d)
  | none => s
def kH (i : Option Nat) (b : Bl) (r : Hds) (c : Cn) (fs : List D) (t : Bool) : SR := if t then kSui i (exB C b (putX i (.obj c fs) s) h) else exH C r c fs s h
variable {C s h}
@[simp] theorem walk_sq (e : Ex) : walk C (.sq e) s h = kSq (evE C e s h) := by simp only [walk, kSq]
@[simp] theorem walk_r1 (e : Ex) : walk C (.r1 e) s h = kR1 (evE C e s h) := by simp only [walk, kR1]
@[simp] theorem walk_r2 (a b : Ex) : walk C (.r2 a b) s h = kR2 C s b (evE C a s h) := by simp only [walk, kR2]
@[simp] theorem walk_enum (e : Ex) : walk C (.enum e) s h = kEnum (evE C e s h) := by simp only [walk, kEnum]
@[simp] theorem walk_zip (a b : Ex) : walk C (.zip a b) s h = kZip1 C s b (evE C a s h) := by simp only [walk, kZip1]
variable (x y : D) (c : Cn) (fs : List D)
@[simp] theorem kSq_ok : kSq (.ok x h) = kWalk h (walkSq h x) := by
  show walkOf (walkSq h x) h = _
  cases walkSq h x <;> rfl
@[simp] theorem kSq_exc : kSq (.exc c fs h) = .exc c fs h := rfl
@[simp] theorem kWalk_some (w : Walk) : kWalk h (some w) = .ok w h := rfl
@[simp] theorem kR1_ok : kR1 (.ok x h) = rng1 x h := by cases x <;> rfl
@[simp] theorem kR2_ok (b : Ex) : kR2 C s b (.ok x h) = kR2' x (evE C b s h) := rfl
@[simp] theorem kR2'_ok : kR2' x (.ok y h) = rng2 x y h := by cases y <;> rfl
@[simp] theorem kEnum_ok : kEnum (.ok x h) = kWalk h (enumOf h x) := by
  show walkOf (enumOf h x) h = _
  cases enumOf h x <;> rfl
@[simp] theorem kZip1_ok (b : Ex) : kZip1 C s b (.ok x h) = kZip2 x (evE C b s h) := rfl
@[simp] theorem kZip2_ok : kZip2 x (.ok y h) = kWalk h (zipOf h x y) := by
  show walkOf (zipOf h x y) h = _
  cases zipOf h x y <;> rfl
theorem walkSq_lst {n : Nat} {xs : List D} (q : h[n]? = some (.lst xs)) : walkSq h (.ref n) = some ⟨xs, fun h => h[n]? = some (.lst xs)⟩ := by simp only [walkSq, q]
@[simp] theorem walkSq_tup (xs : List D) : walkSq h (.tup xs) = some ⟨xs, fun _ => True⟩ := rfl
theorem rng1_ok {j : Int} (q : small j) : rng1 (.int j) h = .ok ⟨rangeL 0 j.toNat, fun _ => True⟩ h := by simp only [rng1, q, if_true]
@[simp] theorem exH_nil : exH C .nil c fs s h = .exc c fs s h := by simp only [exH]
@[simp] theorem exH_cons (d : Cn) (i : Option Nat) (b : Bl) (r : Hds) : exH C (.cons d i b r) c fs s h = kH C s h i b r c fs (c.under d) := by
  simp only [exH, kH, suite]
  split
  · cases i with
    | none =>
      simp only [putX]
      cases exB C b s h <;> rfl
    | some i =>
      simp only [putX]
      cases exB C b (s.set i (some (.obj c fs))) h <;> rfl
  · rfl
@[simp] theorem kH_t (i : Option Nat) (b : Bl) (r : Hds) : kH C s h i b r c fs true = kSui i (exB C b (putX i (.obj c fs) s) h) := rfl
@[simp] theorem kH_f (i : Option Nat) (b : Bl) (r : Hds) : kH C s h i b r c fs false = exH C r c fs s h := rfl
@[simp] theorem putX_some (i : Nat) (d : D) : putX (some i) d s = s.set i (some d) := rfl
@[simp] theorem putX_none (d : D) : putX none d s = s := rfl
@[simp] theorem kSui_some (i : Nat) : kSui (some i) (.nx s h) = .nx (s.set i none) h := rfl
@[simp] theorem kSui_none : kSui none (.nx s h) = .nx s h := rfl
@[simp] theorem kSui_rt (i : Option Nat) (d : D) : kSui i (.rt d h) = .rt d h := rfl
theorem bmK_lst {n : Nat} {xs : List D} (f : Bm) (q : h[n]? = some (.lst xs)) : bmK f (.ref n) h = (f.rk == .l) := by simp only [bmK, q]
theorem append_lst {n : Nat} {xs : List D} {d : D} (q : h[n]? = some (.lst xs)) (l : xs.length < SZ) : Bm.run .append (.ref n) [d] h = .ok .non (h.set n (.lst (xs ++ [d]))) := by simp only [Bm.run, q, l, if_true]
@[simp] theorem rk_append : Bm.rk .append = .l := rfl
@[simp] theorem setAll_nil (ds : List D) : setAll s [] ds = s := by simp [setAll]
@[simp] theorem setAll_cons (i : Nat) (is : List Nat) (d : D) (ds : List D) : setAll s (i :: is) (d :: ds) = setAll (s.set i (some d)) is ds := rfl
theorem raise_plain {d : Cn} {m : PySem.Str} (q : d.plainExc = true) : raiseR d [.str m] s h = .exc d [] s h := by
  simp only [raiseR, excO, q, if_true]
end
end
end Q
namespace Q
@[simp] theorem cn_beq (a b : Cn) : (a == b) = decide (a = b) := rfl
@[simp] theorem ty_beq (a b : Ty) : (a == b) = decide (a = b) := rfl
@[simp] theorem rk_beq (a b : Rk) : (a == b) = decide (a = b) := rfl
end Q

/-! sizes of numbers, small laws of whole numbers -/
namespace Q
/-- a number of at most n bits -/
@[irreducible] def Bd (n : Nat) (i : Int) : Prop := i.natAbs < 2 ^ n
theorem Bd.def {n : Nat} {i : Int} : Bd n i ↔ i.natAbs < 2 ^ n := by unfold Bd; exact Iff.rfl
theorem Bd.mono {n m : Nat} {i : Int} (h : Bd n i) (l : n ≤ m) : Bd m i := by
  rw [Bd.def] at h ⊢
  exact Nat.lt_of_lt_of_le h (Nat.pow_le_pow_right (by decide) l)
theorem Bd.log {n : Nat} {i : Int} (h : Bd n i) (hn : 0 < n) : i.natAbs.log2 < n := by
  rw [Bd.def] at h
  by_cases e : i.natAbs = 0
  · rw [e]; simpa using hn
  · exact (Nat.log2_lt e).mpr h
theorem Bd.mulB {n : Nat} {i : Int} (h : Bd n i) (l : n ≤ 60000000) : mulB i := by
  unfold Q.mulB
  have := (h.mono (Nat.le_succ n)).log (Nat.succ_pos n)
  by_cases e : n = 0
  · subst e
    rw [Bd.def] at h
    have e0 : i.natAbs = 0 := by omega
    rw [e0]; decide
  · have := h.log (Nat.pos_of_ne_zero e); omega
theorem Bd.divB {n : Nat} {i : Int} (h : Bd n i) (l : n ≤ 9000) (h0 : 0 < n) : divB i := by
  unfold Q.divB
  have := h.log h0
  omega
theorem Bd.strB {n : Nat} {i : Int} (h : Bd n i) (l : n ≤ 1900) (h0 : 0 < n) : strB i := by
  unfold Q.strB
  have := h.log h0
  omega
theorem Bd.of {n : Nat} {i : Int} (h : i.natAbs < 2 ^ n) : Bd n i := Bd.def.mpr h
theorem Bd.mul {n m : Nat} {i j : Int} (a : Bd n i) (b : Bd m j) : Bd (n + m) (i * j) := by
  rw [Bd.def] at *
  rw [Int.natAbs_mul, Nat.pow_add]
  by_cases e : j.natAbs = 0
  · rw [e, Nat.mul_zero]; exact Nat.mul_pos (Nat.pow_pos (by decide)) (Nat.pow_pos (by decide))
  · calc i.natAbs * j.natAbs < 2 ^ n * j.natAbs := Nat.mul_lt_mul_of_pos_right a (Nat.pos_of_ne_zero e)
      _ ≤ 2 ^ n * 2 ^ m := Nat.mul_le_mul_left _ (Nat.le_of_lt b)
theorem Bd.add {n m : Nat} {i j : Int} (a : Bd n i) (b : Bd m j) : Bd (max n m + 1) (i + j) := by
  have a' := a.mono (Nat.le_max_left n m)
  have b' := b.mono (Nat.le_max_right n m)
  rw [Bd.def] at *
  rw [Nat.pow_succ]
  have := Int.natAbs_add_le i j
  omega
theorem Bd.neg {n : Nat} {i : Int} (a : Bd n i) : Bd n (-i) := by
  rw [Bd.def] at *
  rw [Int.natAbs_neg]; exact a
theorem Bd.sub {n m : Nat} {i j : Int} (a : Bd n i) (b : Bd m j) : Bd (max n m + 1) (i - j) := by
  rw [Int.sub_eq_add_neg]
  exact a.add b.neg
theorem Bd.le {n : Nat} {i j : Int} (a : Bd n i) (l : j.natAbs ≤ i.natAbs) : Bd n j := by
  rw [Bd.def] at *
  omega
theorem Bd.fmod {n : Nat} {j : Int} (i : Int) (a : Bd n j) (h : 0 < j) : Bd n (i.fmod j) := by
  have h1 := Int.fmod_nonneg_of_pos i h
  have h2 := Int.fmod_lt_of_pos i h
  exact a.le (by omega)
theorem natAbs_fdiv_le (i j : Int) (hj : 0 < j) : (i.fdiv j).natAbs ≤ i.natAbs := by
  rw [Int.fdiv_eq_ediv_of_nonneg _ (by omega)]
  exact Int.natAbs_ediv_le_natAbs i j
theorem Bd.fdiv {n : Nat} {i : Int} (a : Bd n i) {j : Int} (hj : 0 < j) : Bd n (i.fdiv j) := a.le (natAbs_fdiv_le i j hj)
theorem Bd.bits {i : Int} {n : Nat} (h : PySem.Builtin.Int.intBits i ≤ n) : Bd (n + 1) i := by
  unfold PySem.Builtin.Int.intBits at h
  apply Bd.of
  split at h
  · rename_i e
    have : i.natAbs = 0 := by first | omega | simpa using e
    rw [this]; exact Nat.pow_pos (by decide)
  · have : i.natAbs < 2 ^ (i.natAbs.log2 + 1) := Nat.lt_log2_self
    exact Nat.lt_of_lt_of_le this (Nat.pow_le_pow_right (by decide) (by omega))
end Q

/-! the numbers of a script, as a law takes them -/
namespace Q
/-- the script's numbers are of bounded size -/
structure Scr (ns : List Int) : Prop where
  len : ns.length ≤ 63
  bits : ∀ z ∈ ns, PySem.Builtin.Int.intBits z ≤ 1048576
def mixV (ns : List Int) (j : Int) : Int := if h : 0 < ns.length then (ns[(j.fmod ns.length).toNat]'(by
  have h1 := Int.fmod_nonneg_of_pos j (show (0 : Int) < ns.length by omega)
  have h2 := Int.fmod_lt_of_pos j (show (0 : Int) < ns.length by omega)
  omega)).fmod (10 ^ 18) else 0
def mix1 (c j : Int) : Int := ((c + 7 * j * j + 13 * j + 5) * 48271).fmod 2147483647
def mix2 (a j : Int) : Int := (((a * a + j).fmod 1000000007) * 69621 + a).fmod 2147483629
def odd0 (ns : List Int) : Bool := match ns with
  | [] => false
  | z :: _ => decide (z.fmod 2 = 1)
def cellV (ns : List Int) (j : Int) : Int := if odd0 ns = true then (if j = 0 then (ns.headD 0).fdiv 2 else if j < ns.length then ns.getD j.toNat 0 else 0) else mix2 (mix1 (mixV ns j) j) j
theorem mixV_bd (ns : List Int) (j : Int) : Bd 60 (mixV ns j) := by
  unfold mixV
  split
  · exact Bd.fmod _ (Bd.of (by decide)) (by decide)
  · exact Bd.of (by decide)
theorem cell_ok {T : Tab} (hT : T.fn "_law_cell" = some f__law_cell) {h : Hs} {ns : List Int} (h0 : h[0]? = some (.frz (ns.map .int))) (S : Scr ns) (k : Nat) (j : Int) (j0 : 0 ≤ j) (j1 : Bd 40 j) :
    call T (k + 1) "_law_cell" [.ref 0, .int j] h = .ok (.int (cellV ns j)) h := by
  rw [call_eq hT rfl]
  have b7 : Bd 3 7 := Bd.of (by decide)
  have b13 : Bd 4 13 := Bd.of (by decide)
  have b5 : Bd 3 5 := Bd.of (by decide)
  have f1 : mulB 7 := b7.mulB (by decide)
  have f2 : mulB j := j1.mulB (by decide)
  have f3 : mulB (7 * j) := (b7.mul j1).mulB (by decide)
  have f4 : mulB 13 := b13.mulB (by decide)
  have p1 : Bd 90 (mixV ns j + 7 * j * j + 13 * j + 5) := ((((mixV_bd ns j).add ((b7.mul j1).mul j1)).add (b13.mul j1)).add b5).mono (by decide)
  have f5 := p1.mulB (by decide)
  have f6 : mulB 48271 := by decide
  have f7 : mulB 69621 := by decide
  have m1 : Bd 31 (mix1 (mixV ns j) j) := (Bd.fmod _ (Bd.of (by decide)) (by decide))
  have f8 := m1.mulB (by decide)
  have f9 : mulB ((mix1 (mixV ns j) j * mix1 (mixV ns j) j + j).fmod 1000000007) := (show Bd 31 _ from (Bd.fmod _ (Bd.of (by decide)) (by decide))).mulB (by decide)
  have d2 : divB 2 := by decide
  cases ns with
  | nil =>
    have e : mixV [] j = 0 := rfl
    rw [e] at f5 f8 f9
    simp only [mix1] at f8 f9
    simp at f5 f8 f9
    simp [f__law_cell, start, List.replicate_succ, len_frz h0, run_mul, run_mod, f1, f2, f3, f4, f5, f6, f7, f8, f9]
    simp [cellV, odd0, mix2, mix1, e]
  | cons z zs =>
    have hl : (0 : Int) < (zs.length : Int) + 1 := by omega
    have hl2 : ((zs.length : Int) + 1) ≠ 0 := by omega
    have hg : ∀ i : Int, 0 ≤ i → i < (zs.length : Int) + 1 → getI (.ref 0) (.int i) h = .ok (.int ((z :: zs).getD i.toNat 0)) h := by
      intro i i0 i1
      have hi : i.toNat < (z :: zs).length := by simp; omega
      rw [getI_frz h0, atI_nat i0 (by simpa using i1)]
      simp only [List.getElem_map, opt_some, id_D, List.getD_eq_getElem?_getD, List.getElem?_eq_getElem hi, Option.getD_some]
    have h00 : getI (.ref 0) (.int 0) h = .ok (.int z) h := by rw [hg 0 (by omega) hl]; rfl
    by_cases ho : z.fmod 2 = 1
    · by_cases hj : j = 0
      · subst hj
        simp [f__law_cell, start, List.replicate_succ, len_frz h0, run_mod, run_fdiv, d2, ho, hl, h00]
        simp [cellV, odd0, ho]
      · by_cases hj2 : j < (zs.length : Int) + 1
        · simp [f__law_cell, start, List.replicate_succ, len_frz h0, run_mod, run_fdiv, d2, ho, hl, h00, hj, hj2, hg j j0 hj2]
          simp [cellV, odd0, ho, hj, hj2]
        · simp [f__law_cell, start, List.replicate_succ, len_frz h0, run_mod, run_fdiv, d2, ho, hl, h00, hj, hj2]
          simp [cellV, odd0, ho, hj, hj2]
    · have r1 := Int.fmod_nonneg_of_pos j hl
      have r2 := Int.fmod_lt_of_pos j hl
      have e : ((z :: zs).getD (j.fmod ((zs.length : Int) + 1)).toNat 0).fmod 1000000000000000000 = mixV (z :: zs) j := by
        unfold mixV
        rw [dif_pos (by simp)]
        simp [List.getD_eq_getElem?_getD]
        rw [List.getElem?_eq_getElem (by simp; omega)]
        rfl
      have hg2 := hg _ r1 r2
      have ec : cellV (z :: zs) j = mix2 (mix1 (mixV (z :: zs) j) j) j := by simp [cellV, odd0, ho]
      rw [ec]
      generalize (z :: zs).getD (j.fmod ((zs.length : Int) + 1)).toNat 0 = w at hg2 e
      generalize mixV (z :: zs) j = v at e f5 f8 f9 m1 p1
      simp only [mix1] at f8 f9
      simp [f__law_cell, start, List.replicate_succ, len_frz h0, run_mod, run_pow, ho, hl, hl2, h00, hg2, run_mul, f1, f2, f3, f4, f5, f6, f7, f8, f9, e]
      simp [mix2, mix1]
end Q

/-! more of my interpreter's steps: loops over given things, texts -/
namespace Q
noncomputable section
variable (C : Cl) (s : Ev) (h : Hs)
def kForR (tg : Tg) (a : Bl) (ok : Hs → Prop) (ds : List D) : SR → SR
  | .nx s h => forE C tg a ok ds s h
  | .ct s h => forE C tg a ok ds s h
  | .bk s h => .nx s h
  | r => r
def kForA (tg : Tg) (a : Bl) (ok : Hs → Prop) (ds : List D) (h : Hs) : Option Ev → SR
  | some s => kForR C tg a ok ds (exB C a s h)
  | none => .bad
variable {C s h}
variable (tg : Tg) (a : Bl) (ok : Hs → Prop) (d : D) (ds : List D) (c : Cn) (fs : List D)
@[simp] theorem kForA_some : kForA C tg a ok ds h (some s) = kForR C tg a ok ds (exB C a s h) := rfl
@[simp] theorem kForR_nx : kForR C tg a ok ds (.nx s h) = forE C tg a ok ds s h := rfl
@[simp] theorem kForR_ct : kForR C tg a ok ds (.ct s h) = forE C tg a ok ds s h := rfl
@[simp] theorem kForR_bk : kForR C tg a ok ds (.bk s h) = .nx s h := rfl
@[simp] theorem kForR_rt : kForR C tg a ok ds (.rt d h) = .rt d h := rfl
@[simp] theorem kForR_exc : kForR C tg a ok ds (.exc c fs s h) = .exc c fs s h := rfl
@[simp] theorem asg_one (i : Nat) : asg (.one i) d s = some (s.set i (some d)) := rfl
@[simp] theorem asg_two (i j : Nat) (x y : D) : asg (.many [i, j]) (.tup [x, y]) s = some ((s.set i (some x)).set j (some y)) := rfl
@[simp] theorem asg_three (i j k : Nat) (x y z : D) : asg (.many [i, j, k]) (.tup [x, y, z]) s = some (((s.set i (some x)).set j (some y)).set k (some z)) := rfl
@[simp] theorem run_neB (x y : Bool) : Cop.run .ne (.bl x) (.bl y) h = .ok (.bl (!(x == y))) h := by
  simp [Cop.run, eqv, rsv, rsF, ddep, opt, deq]
@[simp] theorem run_eqB (x y : Bool) : Cop.run .eq (.bl x) (.bl y) h = .ok (.bl (x == y)) h := by
  simp [Cop.run, eqv, rsv, rsF, ddep, opt, deq]
@[simp] theorem run_neS (x y : PySem.Str) : Cop.run .ne (.str x) (.str y) h = .ok (.bl (!(x == y))) h := by
  simp [Cop.run, eqv, rsv, rsF, ddep, opt, deq]
@[simp] theorem atI_two {α : Type} (x y z : α) (xs : List α) : atI (x :: y :: z :: xs) 2 = some z := by
  rw [atI_nat (by omega) (by simp <;> omega)]; rfl
@[simp] theorem atI_three {α : Type} (x y z u : α) (xs : List α) : atI (x :: y :: z :: u :: xs) 3 = some u := by
  rw [atI_nat (by omega) (by simp <;> omega)]; rfl
@[simp] theorem atI_four {α : Type} (x y z u v : α) (xs : List α) : atI (x :: y :: z :: u :: v :: xs) 4 = some v := by
  rw [atI_nat (by omega) (by simp <;> omega)]; rfl
end
/-! ### texts of numbers -/
theorem strOk_S (s : String) : PySem.PyData.strOk (S s) = true := by
  unfold S PySem.PyData.strOk
  rw [PySem.Str.ofString_eq_toList]
  rw [Array.all_eq_true]
  intro i hi
  simp only [List.size_toArray, List.length_map] at hi
  simp only [List.getElem_toArray, List.getElem_map, decide_eq_true_eq]
  have v := (s.toList[i]).valid
  rcases v with v | ⟨_, v⟩
  · exact Nat.lt_trans v (by decide)
  · exact v
theorem str_int {i : Int} {h : Hs} (q : strB i) : Bi.run .str [.int i] h = .ok (.str (toStr i)) h := by
  simp only [Bi.run]
  rw [if_pos ⟨q, strOk_S _⟩]
end Q

/-! loops with an invariant, heaps that grow -/
namespace Q
/-- the heap h, with more behind it -/
def Gr (h h' : Hs) : Prop := ∃ G, h' = h ++ G
theorem Gr.refl (h : Hs) : Gr h h := ⟨[], by simp⟩
theorem Gr.trans {a b c : Hs} (x : Gr a b) (y : Gr b c) : Gr a c := by
  obtain ⟨g, rfl⟩ := x
  obtain ⟨k, rfl⟩ := y
  exact ⟨g ++ k, by simp⟩
theorem Gr.push {a b : Hs} (x : Gr a b) (o : O) : Gr a (b ++ [o]) := x.trans ⟨[o], rfl⟩
theorem Gr.app (h G : Hs) : Gr h (h ++ G) := ⟨G, rfl⟩
theorem Gr.at {a b : Hs} (x : Gr a b) {n : Nat} {o : O} (h : a[n]? = some o) : b[n]? = some o := by
  obtain ⟨g, rfl⟩ := x
  have := List.getElem?_eq_some_iff.mp h
  obtain ⟨l, e⟩ := this
  rw [List.getElem?_append_left l]; exact h
theorem Gr.len {a b : Hs} (x : Gr a b) : a.length ≤ b.length := by
  obtain ⟨g, rfl⟩ := x
  simp
noncomputable section
variable {C : Cl} {s : Ev} {h : Hs}
variable (C s h)
def kR31 (b c : Ex) : R D → R Walk := fun r => r.bind fun x h => (evE C b s h).bind fun y h => (evE C c s h).bind fun z h => rng3 x y z h
def kR32 (x : D) (c : Ex) : R D → R Walk := fun r => r.bind fun y h => (evE C c s h).bind fun z h => rng3 x y z h
def kR33 (x y : D) : R D → R Walk := fun r => r.bind fun z h => rng3 x y z h
variable {C s h} (x y z : D)
@[simp] theorem walk_r3 (a b c : Ex) : walk C (.r3 a b c) s h = kR31 C s b c (evE C a s h) := by simp only [walk, kR31]
@[simp] theorem kR31_ok (b c : Ex) : kR31 C s b c (.ok x h) = kR32 C s x c (evE C b s h) := rfl
@[simp] theorem kR32_ok (c : Ex) : kR32 C s x c (.ok y h) = kR33 x y (evE C c s h) := rfl
@[simp] theorem kR33_ok : kR33 x y (.ok z h) = rng3 x y z h := by cases z <;> rfl
@[simp] theorem max_int (i j : Int) : Bi.run .max [.int i, .int j] h = .ok (.int (if j > i then j else i)) h := rfl
@[simp] theorem min_int (i j : Int) : Bi.run .min [.int i, .int j] h = .ok (.int (if j < i then j else i)) h := rfl
@[simp] theorem int_int (i : Int) : Bi.run .int [.int i] h = .ok (.int i) h := rfl
@[simp] theorem int_bl (b : Bool) : Bi.run .int [.bl b] h = .ok (.int (b2i b)) h := rfl
theorem all_lst {n : Nat} {xs : List D} {bs : List Bool} (q : h[n]? = some (.lst xs)) (e : boolsL xs = some bs) : Bi.run .all [.ref n] h = .ok (.bl (bs.all id)) h := by
  simp only [Bi.run, listOf, q, Option.bind_some, e, opt_some]
theorem boolsL_map {α : Type} (f : α → Bool) : ∀ l : List α, boolsL (l.map fun a => .bl (f a)) = some (l.map f)
  | [] => rfl
  | a :: l => by simp [boolsL, boolsL_map f l]
end
end Q

/-! sayings drawn by the numbers of a script -/
namespace Q
/-! ### texts by their signs -/
theorem chars_inj' : ∀ {a b : List Char}, a.map Char.toNat = b.map Char.toNat → a = b
  | [], [], _ => rfl
  | [], _ :: _, h => by simp at h
  | _ :: _, [], h => by simp at h
  | a :: as, b :: bs, h => by
    simp only [List.map_cons, List.cons.injEq] at h
    have e : a = b := Char.ext (UInt32.toNat_inj.mp h.1)
    rw [e, chars_inj' h.2]
theorem S_inj {a b : String} (h : S a = S b) : a = b := by
  unfold S at h
  rw [PySem.Str.ofString_eq_toList, PySem.Str.ofString_eq_toList] at h
  injection h with h
  have e : a.toList.map Char.toNat = b.toList.map Char.toNat := by
    have := congrArg Array.toList h
    simpa using this
  exact String.ext (by have := chars_inj' e; simpa using this)
@[simp] theorem S_eq (a b : String) : (S a == S b) = decide (a = b) := by
  by_cases h : a = b
  · subst h; simp
  · rw [decide_eq_false h, beq_eq_false_iff_ne]
    exact fun e => h (S_inj e)
noncomputable section
variable {h : Hs}
@[simp] theorem and_tt (C : Cl) (s : Ev) (es : Exs) : evAnd C (.cons (.k (.bl true)) es) s h = (match es with
    | .nil => .ok (.bl true) h
    | es => evAnd C es s h) := by
  cases es <;> simp
theorem slice_lst {n : Nat} {xs : List D} (q : h[n]? = some (.lst xs)) (lo hi : Option Int) : slice (.ref n) lo hi h = .ok (.ref h.length) (h ++ [.lst (cut xs lo hi)]) := by
  simp only [slice, q]
end
theorem cut_mem {α : Type} {xs : List α} {lo hi : Option Int} {x : α} (h : x ∈ cut xs lo hi) : x ∈ xs := List.mem_of_mem_drop (List.mem_of_mem_take h)
theorem cut_len {α : Type} (xs : List α) (lo hi : Option Int) : (cut xs lo hi).length ≤ xs.length := by
  simp only [cut, List.length_take, List.length_drop]
  omega
theorem rangeL_len' : ∀ (lo : Int) (n : Nat), (rangeL lo n).length = n
  | _, 0 => rfl
  | lo, n + 1 => by rw [rangeL, List.length_cons, rangeL_len' (lo + 1) n]
/-! ### trees of sayings -/
inductive Wo where | more | less | greater | lesser | leads
  deriving DecidableEq
inductive Tr where
  | nev | alw | lt (q : Bool) | nt (t : Tr) | fd (w : Wo) (a b : Tr)
  deriving DecidableEq
def Wo.s : Wo → String
  | .more => "more" | .less => "less" | .greater => "greater" | .lesser => "lesser" | .leads => "leads"
def Wo.of (i : Int) : Wo := if i = 0 then .more else if i = 1 then .less else if i = 2 then .greater else if i = 3 then .lesser else .leads
def Tr.size : Tr → Nat
  | .nev | .alw | .lt _ => 1
  | .nt t => 1 + t.size
  | .fd _ a b => 1 + a.size + b.size
def Tr.ls (q : Bool) : String := if q = true then "q" else "p"
/-- the law's tuples -/
def Tr.d : Tr → D
  | .nev => .tup [.str (S "never")]
  | .alw => .tup [.str (S "always")]
  | .lt q => .tup [.str (S (Tr.ls q))]
  | .nt t => .tup [.str (S "not"), t.d]
  | .fd w a b => .tup [.str (S w.s), a.d, b.d]
theorem words_at (i : Int) (h0 : 0 ≤ i) (h1 : i < 5) : atI [D.str (S "more"), D.str (S "less"), D.str (S "greater"), D.str (S "lesser"), D.str (S "leads")] i = some (.str (S (Wo.of i).s)) := by
  have : i = 0 ∨ i = 1 ∨ i = 2 ∨ i = 3 ∨ i = 4 := by omega
  rcases this with rfl | rfl | rfl | rfl | rfl <;> simp [Wo.of, Wo.s]
end Q

/-! trees of sayings: texts, worths, objects -/
namespace Q
/-! ### texts -/
def Tr.tx : Tr → PySem.Str
  | .nev => S "never"
  | .alw => S "always"
  | .lt q => S (Tr.ls q)
  | .nt t => S "not " ++ t.tx
  | .fd w a b => S "( " ++ a.tx ++ S " " ++ S w.s ++ S " " ++ b.tx ++ S " )"
theorem tl_app (x y : PySem.Str) : (x ++ y).cps.toList = x.cps.toList ++ y.cps.toList := by
  show (x.cps ++ y.cps).toList = _
  simp
theorem c_never : (S "never").cps.toList = [110, 101, 118, 101, 114] := by decide +kernel
theorem c_always : (S "always").cps.toList = [97, 108, 119, 97, 121, 115] := by decide +kernel
theorem c_p : (S "p").cps.toList = [112] := by decide +kernel
theorem c_q : (S "q").cps.toList = [113] := by decide +kernel
theorem c_not : (S "not ").cps.toList = [110, 111, 116, 32] := by decide +kernel
theorem c_op : (S "( ").cps.toList = [40, 32] := by decide +kernel
theorem c_cl : (S " )").cps.toList = [32, 41] := by decide +kernel
theorem c_sp : (S " ").cps.toList = [32] := by decide +kernel
theorem c_more : (S "more").cps.toList = [109, 111, 114, 101] := by decide +kernel
theorem c_less : (S "less").cps.toList = [108, 101, 115, 115] := by decide +kernel
theorem c_greater : (S "greater").cps.toList = [103, 114, 101, 97, 116, 101, 114] := by decide +kernel
theorem c_lesser : (S "lesser").cps.toList = [108, 101, 115, 115, 101, 114] := by decide +kernel
theorem c_leads : (S "leads").cps.toList = [108, 101, 97, 100, 115] := by decide +kernel
theorem word_inj (w v : Wo) (r s : List Nat) (h : (S w.s).cps.toList ++ 32 :: r = (S v.s).cps.toList ++ 32 :: s) : w = v ∧ r = s := by
  cases w <;> cases v <;> simp [Wo.s, c_more, c_less, c_greater, c_lesser, c_leads] at h ⊢ <;> exact h
theorem tx_inj' : ∀ (t u : Tr) (r s : List Nat), t.tx.cps.toList ++ r = u.tx.cps.toList ++ s → t = u ∧ r = s
  | .nev, u, r, s, h => by
    cases u with
    | lt q => cases q <;> simp [Tr.tx, Tr.ls, tl_app, c_never, c_p, c_q] at h
    | nev => simpa [Tr.tx] using h
    | _ => simp [Tr.tx, tl_app, c_never, c_always, c_not, c_op] at h
  | .alw, u, r, s, h => by
    cases u with
    | lt q => cases q <;> simp [Tr.tx, Tr.ls, tl_app, c_always, c_p, c_q] at h
    | alw => simpa [Tr.tx] using h
    | _ => simp [Tr.tx, tl_app, c_never, c_always, c_not, c_op] at h
  | .lt q, u, r, s, h => by
    cases u with
    | lt q' => cases q <;> cases q' <;> simp [Tr.tx, Tr.ls, tl_app, c_p, c_q] at h ⊢ <;> exact h
    | _ => cases q <;> simp [Tr.tx, Tr.ls, tl_app, c_never, c_always, c_not, c_op, c_p, c_q] at h
  | .nt t, u, r, s, h => by
    cases u with
    | nt u =>
      simp [Tr.tx, tl_app, c_not] at h
      obtain ⟨e1, e2⟩ := tx_inj' t u r s h
      exact ⟨by rw [e1], e2⟩
    | lt q => cases q <;> simp [Tr.tx, Tr.ls, tl_app, c_not, c_p, c_q] at h
    | _ => simp [Tr.tx, tl_app, c_never, c_always, c_not, c_op] at h
  | .fd w a b, u, r, s, h => by
    cases u with
    | fd v c d =>
      simp only [Tr.tx, tl_app, c_op, c_sp, c_cl, List.append_assoc, List.cons_append, List.nil_append, List.cons.injEq, true_and] at h
      obtain ⟨e1, e2⟩ := tx_inj' a c _ _ h
      simp only [List.cons.injEq, true_and] at e2
      obtain ⟨e3, e4⟩ := word_inj w v _ _ e2
      obtain ⟨e5, e6⟩ := tx_inj' b d _ _ e4
      simp only [List.cons.injEq, true_and] at e6
      exact ⟨by rw [e1, e3, e5], e6⟩
    | lt q => cases q <;> simp [Tr.tx, Tr.ls, tl_app, c_op, c_p, c_q] at h
    | _ => simp [Tr.tx, tl_app, c_never, c_always, c_not, c_op] at h
theorem tx_inj {t u : Tr} (h : t.tx = u.tx) : t = u := (tx_inj' t u [] [] (by rw [h])).1
/-! ### worths -/
def Wo.wo (w : Wo) (n a b : Int) : Int := match w with
  | .more => if a + b < n then a + b else n
  | .less => if a + b - n > 0 then a + b - n else 0
  | .greater => if b > a then b else a
  | .lesser => if b < a then b else a
  | .leads => if n - a + b < n then n - a + b else n
def Tr.wo (n x y : Int) : Tr → Int
  | .nev => 0
  | .alw => n
  | .lt q => if q = true then y else x
  | .nt t => n - t.wo n x y
  | .fd w a b => w.wo n (a.wo n x y) (b.wo n x y)
theorem Wo.range (w : Wo) {n a b : Int} (ha : 0 ≤ a ∧ a ≤ n) (hb : 0 ≤ b ∧ b ≤ n) : 0 ≤ w.wo n a b ∧ w.wo n a b ≤ n := by
  cases w <;> simp only [Wo.wo] <;> split <;> omega
theorem Tr.range {n x y : Int} (hx : 0 ≤ x ∧ x ≤ n) (hy : 0 ≤ y ∧ y ≤ n) : ∀ t : Tr, 0 ≤ t.wo n x y ∧ t.wo n x y ≤ n
  | .nev => by simp only [Tr.wo]; omega
  | .alw => by simp only [Tr.wo]; omega
  | .lt q => by cases q <;> simp [Tr.wo] <;> omega
  | .nt t => by have := Tr.range hx hy t; simp only [Tr.wo]; omega
  | .fd w a b => w.range (Tr.range hx hy a) (Tr.range hx hy b)
/-! ### objects -/
def Wo.c : Wo → Cn
  | .more => .More | .less => .Less | .greater => .Greater | .lesser => .Lesser | .leads => .Leads
def Tr.c : Tr → Cn
  | .nev => .Never | .alw => .Always | .lt _ => .Letter | .nt _ => .Not | .fd w _ _ => w.c
def Tr.f : Tr → List D
  | .nev | .alw => []
  | .lt q => [.str (S (Tr.ls q))]
  | .nt t => [.obj t.c t.f]
  | .fd _ a b => [.obj a.c a.f, .obj b.c b.f]
abbrev Tr.o (t : Tr) : D := .obj t.c t.f
def Tr.okey : Tr → String
  | .nev => "Never.out_of" | .alw => "Always.out_of" | .lt _ => "Letter.out_of" | .nt _ => "Not.out_of" | .fd _ _ _ => "Fold.out_of"
def Wo.mkey : Wo → String
  | .more => "More.made_of" | .less => "Less.made_of" | .greater => "Greater.made_of" | .lesser => "Lesser.made_of" | .leads => "Leads.made_of"
structure KOut (T : Tab) : Prop where
  m1 : T.meth .Never "out_of" = some "Never.out_of"
  m2 : T.meth .Always "out_of" = some "Always.out_of"
  m3 : T.meth .Letter "out_of" = some "Letter.out_of"
  m4 : T.meth .Not "out_of" = some "Not.out_of"
  m5 : T.meth .More "out_of" = some "Fold.out_of"
  m6 : T.meth .Less "out_of" = some "Fold.out_of"
  m7 : T.meth .Greater "out_of" = some "Fold.out_of"
  m8 : T.meth .Lesser "out_of" = some "Fold.out_of"
  m9 : T.meth .Leads "out_of" = some "Fold.out_of"
  n5 : T.meth .More "made_of" = some "More.made_of"
  n6 : T.meth .Less "made_of" = some "Less.made_of"
  n7 : T.meth .Greater "made_of" = some "Greater.made_of"
  n8 : T.meth .Lesser "made_of" = some "Lesser.made_of"
  n9 : T.meth .Leads "made_of" = some "Leads.made_of"
  f1 : T.fn "Never.out_of" = some f_Never_out_of
  f2 : T.fn "Always.out_of" = some f_Always_out_of
  f3 : T.fn "Letter.out_of" = some f_Letter_out_of
  f4 : T.fn "Not.out_of" = some f_Not_out_of
  f5 : T.fn "Fold.out_of" = some f_Fold_out_of
  g5 : T.fn "More.made_of" = some f_More_made_of
  g6 : T.fn "Less.made_of" = some f_Less_made_of
  g7 : T.fn "Greater.made_of" = some f_Greater_made_of
  g8 : T.fn "Lesser.made_of" = some f_Lesser_made_of
  g9 : T.fn "Leads.made_of" = some f_Leads_made_of
theorem KOut.mo {T : Tab} (K : KOut T) (t : Tr) : T.meth t.c "out_of" = some t.okey := by
  cases t with
  | nev => exact K.m1
  | alw => exact K.m2
  | lt q => exact K.m3
  | nt t => exact K.m4
  | fd w a b => cases w <;> first | exact K.m5 | exact K.m6 | exact K.m7 | exact K.m8 | exact K.m9
theorem KOut.mm {T : Tab} (K : KOut T) (w : Wo) : T.meth w.c "made_of" = some w.mkey := by
  cases w <;> first | exact K.n5 | exact K.n6 | exact K.n7 | exact K.n8 | exact K.n9
end Q

/-! plain data compared; comprehensions and loops over mapped lists -/
namespace Q
mutual
/-- numbers, texts, truths, None, tuples of such -/
def flat : D → Bool
  | .tup xs => flats xs
  | .obj _ _ | .ref _ | .lv _ => false
  | _ => true
def flats : List D → Bool
  | [] => true
  | x :: xs => flat x && flats xs
end
mutual
theorem rsF_flat (f : Nat → Option D) : ∀ d : D, flat d = true → rsF f d = some d
  | .non, _ => rfl
  | .bl _, _ => rfl
  | .int _, _ => rfl
  | .str _, _ => rfl
  | .tup xs, h => by
    simp only [flat] at h
    simp only [rsF, rsFs_flat f xs h, Option.map_some]
  | .obj _ _, h => by simp [flat] at h
  | .ref _, h => by simp [flat] at h
  | .lv _, h => by simp [flat] at h
theorem rsFs_flat (f : Nat → Option D) : ∀ xs : List D, flats xs = true → rsFs f xs = some xs
  | [], _ => rfl
  | x :: xs, h => by
    simp only [flats, Bool.and_eq_true] at h
    simp only [rsFs, rsF_flat f x h.1, rsFs_flat f xs h.2]
end
mutual
theorem deq_flat : ∀ d : D, flat d = true → deq d d = true
  | .non, _ => rfl
  | .bl b, _ => by simp [deq]
  | .int _, _ => by simp [deq]
  | .str _, _ => by simp [deq]
  | .tup xs, h => by
    simp only [flat] at h
    simp only [deq, deqs_flat xs h]
  | .obj _ _, h => by simp [flat] at h
  | .ref _, h => by simp [flat] at h
  | .lv _, h => by simp [flat] at h
theorem deqs_flat : ∀ xs : List D, flats xs = true → deqs xs xs = true
  | [], _ => rfl
  | x :: xs, h => by
    simp only [flats, Bool.and_eq_true] at h
    simp only [deqs, deq_flat x h.1, deqs_flat xs h.2, Bool.and_self]
end
theorem flats_app : ∀ (a b : List D), flats a = true → flats b = true → flats (a ++ b) = true
  | [], b, _, h => h
  | x :: a, b, h, k => by
    simp only [List.cons_append, flats, Bool.and_eq_true] at h ⊢
    exact ⟨h.1, flats_app a b h.2 k⟩
noncomputable section
variable {C : Cl} {s : Ev} {h : Hs}
theorem kComp_mapL {α : Type} {e : Ex} {tg : Tg} {own : List Nat} {w : Walk} (xs : List α) (g f : α → D) (hi : w.items = xs.map g) (hok : w.ok h) (he : ∀ a ∈ xs, ∃ s2, asg tg (g a) (wipe s own) = some s2 ∧ evE C e s2 h = .ok (f a) h) (hl : xs.length ≤ SZ) :
    kComp C s e tg .none own (.ok w h) = .ok (.ref h.length) (h ++ [.lst (xs.map f)]) := by
  have go : ∀ l : List α, (∀ a ∈ l, ∃ s2, asg tg (g a) (wipe s own) = some s2 ∧ evE C e s2 h = .ok (f a) h) → compL w.ok (compG tg own (fun s h => evC C .none s h) (fun s h => evE C e s h) s) (l.map g) h = .ok (l.map f) h := by
    intro l
    induction l with
    | nil => intro _; simp only [List.map_nil]; unfold compL; rw [if_pos hok]
    | cons d l ih =>
      intro hd
      obtain ⟨s2, h1, h2⟩ := hd d List.mem_cons_self
      simp only [List.map_cons]
      unfold compL
      rw [if_pos hok]
      have hg : compG tg own (fun s h => evC C .none s h) (fun s h => evE C e s h) s (g d) h = .ok (some (f d)) h := by
        simp only [compG, h1, evC_none, h2]
      rw [hg]
      simp only
      rw [ih fun d hd' => hd d (List.mem_cons_of_mem _ hd')]
  show compE w _ h = _
  unfold compE
  rw [hi, go xs he]
  simp only [List.length_map, hl, if_true]
/-- .. whose heap grows -/
theorem kComp_mapG {α : Type} {e : Ex} {tg : Tg} {own : List Nat} {w : Walk} (xs : List α) (g f : α → D) (P : Hs → Prop) (hi : w.items = xs.map g) (hok : ∀ h, P h → w.ok h)
    (he : ∀ a ∈ xs, ∀ h, P h → ∃ s2 h', asg tg (g a) (wipe s own) = some s2 ∧ evE C e s2 h = .ok (f a) h' ∧ P h') (hl : xs.length ≤ SZ) (hp : P h) :
    ∃ h', P h' ∧ kComp C s e tg .none own (.ok w h) = .ok (.ref h'.length) (h' ++ [.lst (xs.map f)]) := by
  have go : ∀ (l : List α) (h : Hs), P h → (∀ a ∈ l, ∀ h, P h → ∃ s2 h', asg tg (g a) (wipe s own) = some s2 ∧ evE C e s2 h = .ok (f a) h' ∧ P h') → ∃ h', P h' ∧ compL w.ok (compG tg own (fun s h => evC C .none s h) (fun s h => evE C e s h) s) (l.map g) h = .ok (l.map f) h' := by
    intro l
    induction l with
    | nil => intro h p _; refine ⟨h, p, ?_⟩; simp only [List.map_nil]; unfold compL; rw [if_pos (hok h p)]
    | cons d l ih =>
      intro h p hd
      obtain ⟨s2, h2, e1, e2, p2⟩ := hd d List.mem_cons_self h p
      obtain ⟨h3, p3, e3⟩ := ih h2 p2 fun d hd' => hd d (List.mem_cons_of_mem _ hd')
      refine ⟨h3, p3, ?_⟩
      simp only [List.map_cons]
      unfold compL
      rw [if_pos (hok h p)]
      have hg : compG tg own (fun s h => evC C .none s h) (fun s h => evE C e s h) s (g d) h = .ok (some (f d)) h2 := by
        simp only [compG, e1, evC_none, e2]
      rw [hg]
      simp only
      rw [e3]
  obtain ⟨h', p', e'⟩ := go xs h hp he
  refine ⟨h', p', ?_⟩
  show compE w _ h = _
  unfold compE
  rw [hi, e']
  simp only [List.length_map, hl, if_true]
theorem add_lsts {n m : Nat} {xs ys : List D} (q : h[n]? = some (.lst xs)) (r : h[m]? = some (.lst ys)) (l : xs.length + ys.length ≤ SZ) : Bop.run .add (.ref n) (.ref m) h = .ok (.ref h.length) (h ++ [.lst (xs ++ ys)]) := by
  simp only [Bop.run, q, r, l, if_true]
theorem list_lst {n : Nat} {xs : List D} (q : h[n]? = some (.lst xs)) : Bi.run .list [.ref n] h = .ok (.ref h.length) (h ++ [.lst xs]) := by
  simp only [Bi.run, q]
end
theorem boolsL_rep {α : Type} (l : List α) : boolsL (l.map fun _ => D.bl true) = some (l.map fun _ => true) := boolsL_map (fun _ => true) l
theorem all_rep {α : Type} {h : Hs} {n : Nat} (l : List α) (q : h[n]? = some (.lst (l.map fun _ => D.bl true))) : Bi.run .all [.ref n] h = .ok (.bl true) h := by
  rw [all_lst q (boolsL_rep l)]
  have : ((l.map fun _ => true).all id) = true := by simp
  rw [this]
end Q

/-! rows of a tree: each unlike part once -/
namespace Q
def nthB : Nat → Bl → Sm
  | 0, .cons s _ => s
  | n + 1, .cons _ r => nthB n r
  | _, .nil => .pass
def bodyB : Sm → Bl
  | .for _ _ b => b
  | .whl _ b => b
  | _ => .nil
inductive Ro where
  | nev | alw | lt (q : Bool) | nt (i : Nat) | fd (w : Wo) (i j : Nat)
  deriving DecidableEq
def Ro.d : Ro → D
  | .nev => .tup [.str (S "never")]
  | .alw => .tup [.str (S "always")]
  | .lt q => .tup [.str (S (Tr.ls q))]
  | .nt i => .tup [.str (S "not"), .int i]
  | .fd w i j => .tup [.str (S w.s), .int i, .int j]
theorem Wo.s_inj {w v : Wo} (h : w.s = v.s) : w = v := by
  cases w <;> cases v <;> first | rfl | (simp [Wo.s] at h)
theorem nbeq (i j : Nat) : ((i : Int) == (j : Int)) = decide (i = j) := by
  by_cases e : i = j
  · subst e; simp
  · rw [decide_eq_false e, beq_eq_false_iff_ne]; omega
theorem Ro.deq (a b : Ro) : deq a.d b.d = decide (a = b) := by
  cases a with
  | nev =>
    cases b with
    | lt q => cases q <;> simp [Ro.d, Q.deq, deqs, Tr.ls]
    | _ => simp [Ro.d, Q.deq, deqs]
  | alw =>
    cases b with
    | lt q => cases q <;> simp [Ro.d, Q.deq, deqs, Tr.ls]
    | _ => simp [Ro.d, Q.deq, deqs]
  | lt q =>
    cases b with
    | lt q' => cases q <;> cases q' <;> simp [Ro.d, Q.deq, deqs, Tr.ls]
    | _ => cases q <;> simp [Ro.d, Q.deq, deqs, Tr.ls]
  | nt i =>
    cases b with
    | nt j => simp only [Ro.d, Q.deq, deqs, Bool.and_true, S_eq, decide_true, Bool.true_and, Ro.nt.injEq]; exact nbeq i j
    | lt q => simp [Ro.d, Q.deq, deqs]
    | _ => simp [Ro.d, Q.deq, deqs]
  | fd w i j =>
    cases b with
    | fd v k l =>
      simp only [Ro.d, Q.deq, deqs, Bool.and_true, S_eq, Ro.fd.injEq]
      by_cases e : w = v
      · subst e
        rw [nbeq, nbeq]; simp
      · have : ¬ w.s = v.s := fun z => e (Wo.s_inj z)
        simp [e, this]
    | lt q => simp [Ro.d, Q.deq, deqs]
    | _ => simp [Ro.d, Q.deq, deqs]
theorem Ro.flat (r : Ro) : flat r.d = true := by cases r <;> simp [Ro.d, Q.flat, flats]
theorem Ro.ddep (r : Ro) : ddep r.d ≤ 1 := by cases r <;> simp [Ro.d, Q.ddep, ddeps]
theorem Ro.kOk (r : Ro) : kOk true r.d = true := by
  cases r with
  | nev => show (!(S "never" == S "leaf")) = true; rw [S_eq]; rfl
  | alw => show (!(S "always" == S "leaf")) = true; rw [S_eq]; rfl
  | lt q =>
    cases q
    · show (!(S "p" == S "leaf")) = true; rw [S_eq]; rfl
    · show (!(S "q" == S "leaf")) = true; rw [S_eq]; rfl
  | nt i => rfl
  | fd w i j => rfl
theorem Ro.rsv (h : Hs) (r : Ro) : rsv h r.d = some r.d := rsF_flat _ _ r.flat
/-- a row's place, put behind the others where it is new -/
def ent (rows : List Ro) (r : Ro) : List Ro × Nat := if r ∈ rows then (rows, rows.idxOf r) else (rows ++ [r], rows.length)
def put : Tr → List Ro → List Ro × Nat
  | .nev, rows => ent rows .nev
  | .alw, rows => ent rows .alw
  | .lt q, rows => ent rows (.lt q)
  | .nt t, rows => ent (put t rows).1 (.nt (put t rows).2)
  | .fd w a b, rows => ent (put b (put a rows).1).1 (.fd w (put a rows).2 (put b (put a rows).1).2)
section
variable {h : Hs}
end
structure KPut (T : Tab) : Prop where
  word : T.fn "rows.word_of" = some f_rows_word_of
  place : T.fn "rows.place_of" = some f_rows_place_of
  put : T.fn "rows.put_rows" = some f_rows_put_rows
  rows : T.fn "rows.rows_of" = some f_rows_rows_of
end Q

/-! objects of trees, each part anew -/
namespace Q
section
variable {h : Hs}
end
end Q

/-! the law's own rows of a tree -/
namespace Q
section
variable {C : Cl} {s : Ev} {h h2 h3 : Hs} {e : Ex} {tg : Tg} {own : List Nat}
theorem cut1 {α : Type} (x : α) (xs : List α) : cut (x :: xs) (some 1) none = xs := by
  simp [cut, sIx]
end
end Q

/-! the law's own rows of a tree: put -/
namespace Q
section
variable {h : Hs} {n : Nat} {rows : List Ro}
end
end Q

/-! fractions -/
namespace Q
/-- the common factor, with the bottom's sign -/
def sg (a b : Int) : Int := if b < 0 then -(Int.gcd a b : Int) else Int.gcd a b
def low1 (a b : Int) : Int := a.fdiv (sg a b)
def low2 (a b : Int) : Int := b.fdiv (sg a b)
def lowD (a b : Int) : D := .tup [.int (low1 a b), .int (low2 a b)]
theorem gcd_pos {a b : Int} (h : b ≠ 0) : 0 < (Int.gcd a b : Int) := by
  have := Int.gcd_pos_of_ne_zero_right a h
  omega
theorem sg_ne {a b : Int} (h : b ≠ 0) : sg a b ≠ 0 := by
  unfold sg
  have := gcd_pos (a := a) h
  split <;> omega
/-! ### numbers in lowest terms -/
theorem fdiv_mul_cancel {a b g : Int} (hg : g ≠ 0) (h : a = b * g) : a.fdiv g = b := by
  subst h
  exact Int.mul_fdiv_cancel _ hg
theorem low_parts {a b : Int} (h : b ≠ 0) : a = low1 a b * sg a b ∧ b = low2 a b * sg a b := by
  have hd : sg a b ∣ a ∧ sg a b ∣ b := by
    unfold sg
    split
    · exact ⟨Int.neg_dvd.mpr (Int.gcd_dvd_left _ _), Int.neg_dvd.mpr (Int.gcd_dvd_right _ _)⟩
    · exact ⟨Int.gcd_dvd_left _ _, (Int.gcd_dvd_right _ _)⟩
  obtain ⟨⟨x, hx⟩, y, hy⟩ := hd
  have n := sg_ne (a := a) h
  have e1 : low1 a b = x := fdiv_mul_cancel n (by rw [Int.mul_comm]; exact hx)
  have e2 : low2 a b = y := fdiv_mul_cancel n (by rw [Int.mul_comm]; exact hy)
  exact ⟨by rw [e1, Int.mul_comm]; exact hx, by rw [e2, Int.mul_comm]; exact hy⟩
theorem low2_pos {a b : Int} (h : b ≠ 0) : 0 < low2 a b := by
  obtain ⟨_, e⟩ := low_parts (a := a) h
  have g := gcd_pos (a := a) h
  by_cases hn : b < 0
  · have es : sg a b = -(Int.gcd a b : Int) := if_pos hn
    rw [es] at e
    by_cases hp : 0 < low2 a b
    · exact hp
    · have : 0 ≤ low2 a b * -(Int.gcd a b : Int) := Int.mul_nonneg_of_nonpos_of_nonpos (by omega) (by omega)
      omega
  · have es : sg a b = (Int.gcd a b : Int) := if_neg hn
    rw [es] at e
    by_cases hp : 0 < low2 a b
    · exact hp
    · have : low2 a b * (Int.gcd a b : Int) ≤ 0 := Int.mul_nonpos_of_nonpos_of_nonneg (by omega) (by omega)
      omega
theorem low1_bd {a b : Int} {n : Nat} (h : b ≠ 0) (k : Bd n a) : Bd n (low1 a b) := by
  refine k.le ?_
  obtain ⟨e, _⟩ := low_parts (a := a) h
  have s := sg_ne (a := a) h
  have : a.natAbs = (low1 a b).natAbs * (sg a b).natAbs := by rw [← Int.natAbs_mul, ← e]
  rw [this]
  exact Nat.le_mul_of_pos_right _ (Int.natAbs_pos.mpr s)
theorem low2_bd {a b : Int} {n : Nat} (h : b ≠ 0) (k : Bd n b) : Bd n (low2 a b) := by
  refine k.le ?_
  obtain ⟨_, e⟩ := low_parts (a := a) h
  have s := sg_ne (a := a) h
  have : b.natAbs = (low2 a b).natAbs * (sg a b).natAbs := by rw [← Int.natAbs_mul, ← e]
  rw [this]
  exact Nat.le_mul_of_pos_right _ (Int.natAbs_pos.mpr s)
/-- a factor changes nothing -/
theorem low_factor {a b f : Int} (hb : b ≠ 0) (hf : f ≠ 0) : lowD (f * a) (f * b) = lowD a b := by
  have hg : (Int.gcd (f * a) (f * b) : Int) = f.natAbs * (Int.gcd a b : Int) := by
    have : Int.gcd (f * a) (f * b) = f.natAbs * Int.gcd a b := Int.gcd_mul_left ..
    rw [this]; rfl
  have g := gcd_pos (a := a) hb
  have hs : sg (f * a) (f * b) = f * sg a b := by
    unfold sg
    rw [hg]
    by_cases f0 : 0 < f
    · have e : (f.natAbs : Int) = f := by omega
      rw [e]
      by_cases b0 : b < 0
      · have : f * b < 0 := Int.mul_neg_of_pos_of_neg f0 b0
        rw [if_pos this, if_pos b0, Int.mul_neg]
      · have : 0 ≤ f * b := Int.mul_nonneg (by omega) (by omega)
        rw [if_neg (by omega), if_neg b0]
    · have e : (f.natAbs : Int) = -f := by omega
      rw [e]
      by_cases b0 : b < 0
      · have : 0 ≤ f * b := Int.mul_nonneg_of_nonpos_of_nonpos (by omega) (by omega)
        rw [if_neg (by omega), if_pos b0, Int.neg_mul, Int.mul_neg]
      · have : f * b < 0 := Int.mul_neg_of_neg_of_pos (by omega) (by omega)
        rw [if_pos this, if_neg b0, Int.neg_mul, Int.neg_neg]
  have n := sg_ne (a := a) hb
  obtain ⟨e1, e2⟩ := low_parts (a := a) hb
  have n2 : f * sg a b ≠ 0 := Int.mul_ne_zero hf n
  unfold lowD
  have q1 : low1 (f * a) (f * b) = low1 a b := by
    show (f * a).fdiv (sg (f * a) (f * b)) = _
    rw [hs]
    refine fdiv_mul_cancel n2 ?_
    rw [← Int.mul_assoc, Int.mul_comm (low1 a b) f, Int.mul_assoc, ← e1]
  have q2 : low2 (f * a) (f * b) = low2 a b := by
    show (f * b).fdiv (sg (f * a) (f * b)) = _
    rw [hs]
    refine fdiv_mul_cancel n2 ?_
    rw [← Int.mul_assoc, Int.mul_comm (low2 a b) f, Int.mul_assoc, ← e2]
  rw [q1, q2]
end Q

/-! the line laws: cells, lowest terms, a line built -/
namespace Q
theorem low_gcd {a b : Int} (h : b ≠ 0) : Int.gcd (low1 a b) (low2 a b) = 1 := by
  obtain ⟨e1, e2⟩ := low_parts (a := a) h
  have g := gcd_pos (a := a) h
  have hs : (sg a b).natAbs = Int.gcd a b := by unfold sg; split <;> omega
  have e3 : Int.gcd (low1 a b * sg a b) (low2 a b * sg a b) = Int.gcd (low1 a b) (low2 a b) * (sg a b).natAbs := Int.gcd_mul_right ..
  rw [← e1, ← e2] at e3
  rw [hs] at e3
  have p : 0 < Int.gcd a b := by omega
  have : Int.gcd (low1 a b) (low2 a b) * Int.gcd a b = 1 * Int.gcd a b := by omega
  exact Nat.eq_of_mul_eq_mul_right p this
/-! ### a line built -/
/-- a stretch: its end p / q, its slope, its height -/
structure St where
  p : Int
  q : Int
  s : Int
  t : Int
def St.d (x : St) : D := .tup [.tup [.int x.p, .int x.q], .int x.s, .int x.t]
/-- stretches up to p / q, what goes on there has slope s and height t -/
inductive Acc : List St → Int → Int → Int → Int → Prop where
  | nil (s t : Int) : Acc [] 0 1 s t
  | snoc {l : List St} {p q s t p' q' s' t' : Int} (a : Acc l p q s t) (h1 : p * q' < p' * q) (h2 : 0 < q') (h3 : p' < q') (h4 : Int.gcd p' q' = 1) (h5 : (s' - s) * p' + (t' - t) * q' = 0) (h6 : s' ≠ s) (h0 : 0 ≤ p') :
      Acc (l ++ [⟨p', q', s, t⟩]) p' q' s' t'
def StB (x : St) : Prop := (0 ≤ x.p ∧ 0 < x.q ∧ x.p ≤ x.q) ∧ Bd 20 x.p ∧ Bd 20 x.q ∧ Bd 40 x.s ∧ Bd 40 x.t
/-- the loop's state -/
structure BuI (l : List St) (p q s t : Int) (i : Nat) : Prop where
  acc : Acc l p q s t
  len : l.length ≤ i
  pq : 0 ≤ p ∧ 0 < q ∧ p ≤ q ∧ q ≤ 100001
  s : s.natAbs ≤ 1000000 + 100001 * i
  t : t.natAbs ≤ 200000000 + 100001 * i
  all : ∀ x ∈ l, StB x
end Q

/-! a line as it is built; heights on it -/
namespace Q
/-- a line: ends that rise, the last one 1 -/
structure Ln (L : List St) : Prop where
  acc : ∃ l p q s t, Acc l p q s t ∧ L = l ++ [⟨1, 1, s, t⟩]
  all : ∀ x ∈ L, StB x
  len : L.length ≤ 70
theorem Acc.ps {l : List St} {p q s t : Int} (a : Acc l p q s t) : 0 ≤ p ∧ 0 < q ∧ p < q := by
  cases a with
  | nil => omega
  | snoc a h1 h2 h3 h4 h5 h6 h0 => omega
theorem lt_trans {a b c d e f : Int} (hb : 0 < b) (hd : 0 < d) (hf : 0 < f) (h1 : a * d ≤ c * b) (h2 : c * f < e * d) : a * f < e * b := by
  have k1 : a * d * f ≤ c * b * f := Int.mul_le_mul_of_nonneg_right h1 (by omega)
  have k2 : c * f * b < e * d * b := Int.mul_lt_mul_of_pos_right h2 hb
  have e1 : c * b * f = c * f * b := Int.mul_right_comm c b f
  have e2 : a * d * f = a * f * d := Int.mul_right_comm a d f
  have e3 : e * d * b = e * b * d := Int.mul_right_comm e d b
  have k3 : a * f * d < e * b * d := by omega
  exact Int.lt_of_mul_lt_mul_right k3 (by omega)
theorem Acc.lows {l : List St} {p q s t : Int} (a : Acc l p q s t) : (∀ x ∈ l, x.p * q ≤ p * x.q ∧ 0 < x.q) ∧ l.Pairwise fun x y => x.p * y.q < y.p * x.q := by
  induction a with
  | nil => simp
  | snoc a h1 h2 h3 h4 h5 h6 h0 ih =>
    obtain ⟨i1, i2⟩ := ih
    have ps := a.ps
    refine ⟨fun x hx => ?_, ?_⟩
    · rcases List.mem_append.mp hx with hx | hx
      · obtain ⟨j1, j2⟩ := i1 x hx
        exact ⟨Int.le_of_lt (lt_trans j2 ps.2.1 h2 j1 h1), j2⟩
      · rw [List.mem_singleton.mp hx]; exact ⟨Int.le_refl _, h2⟩
    · rw [List.pairwise_append]
      refine ⟨i2, by simp, fun x hx y hy => ?_⟩
      rw [List.mem_singleton.mp hy]
      obtain ⟨j1, j2⟩ := i1 x hx
      exact lt_trans j2 ps.2.1 h2 j1 h1
theorem Ln.pw {L : List St} (n : Ln L) : L.Pairwise fun x y => x.p * y.q < y.p * x.q := by
  obtain ⟨l, p, q, s, t, a, rfl⟩ := n.acc
  obtain ⟨i1, i2⟩ := a.lows
  have ps := a.ps
  rw [List.pairwise_append]
  refine ⟨i2, by simp, fun x hx y hy => ?_⟩
  rw [List.mem_singleton.mp hy]
  obtain ⟨j1, j2⟩ := i1 x hx
  exact lt_trans j2 ps.2.1 (show (0 : Int) < 1 by decide) j1 (by simp only; omega)
end Q

/-! heights on a line, its bends -/
namespace Q
structure KLn (T : Tab) : Prop where
  less : T.fn "fractions.less" = some f_fractions_less
  fraction : T.fn "fractions.fraction" = some f_fractions_fraction
  shared : T.fn "fractions.shared" = some f_fractions_shared
  rule : T.fn "lines.rule_at" = some f_lines_rule_at
  nought : T.con "lines.NOUGHT" = some (.tup [.int 0, .int 1])
  one : T.con "lines.ONE" = some (.tup [.int 1, .int 1])
def dropB : Nat → Bl → Bl
  | 0, b => b
  | n + 1, .cons _ r => dropB n r
  | _ + 1, .nil => .nil
def forBody : Sm → Bl
  | .for _ _ a => a
  | _ => .nil
def headB : Bl → Sm
  | .cons x _ => x
  | .nil => .pass
end Q

/-! lines made: chains of stretches, line_made on them -/
namespace Q
/-- a stretch that a line may hold -/
def Sbd (x : St) : Prop := (0 ≤ x.p ∧ 0 < x.q ∧ x.p ≤ x.q) ∧ Bd 300 x.p ∧ Bd 300 x.q ∧ Bd 1000 x.s ∧ Bd 1000 x.t
theorem StB.sbd {x : St} (B : StB x) : Sbd x := ⟨B.1, B.2.1.mono (by decide), B.2.2.1.mono (by decide), B.2.2.2.1.mono (by decide), B.2.2.2.2.mono (by decide)⟩
/-- what follows goes on at the end -/
def jt (x : St) : List St → Prop
  | [] => True
  | y :: _ => (y.s - x.s) * x.p + (y.t - x.t) * x.q = 0
/-- from p / q on: ends that rise up to 1, no jump -/
def Ch : Int → Int → List St → Prop
  | p, q, [] => p = 1 ∧ q = 1
  | p, q, x :: r => (p * x.q < x.p * q ∧ Sbd x ∧ Int.gcd x.p x.q = 1 ∧ jt x r) ∧ Ch x.p x.q r
def same (x y : St) : Bool := decide (x.s = y.s) && decide (x.t = y.t)
/-- neighbours of unlike rules -/
def Df : List St → Prop
  | [] => True
  | x :: r => (∀ y r', r = y :: r' → same x y = false) ∧ Df r
theorem Acc.ch {l : List St} {p q s t : Int} (a : Acc l p q s t) : (∀ x ∈ l, StB x) → ∀ r, Ch p q r → (∀ y r', r = y :: r' → y.s = s ∧ y.t = t) → Ch 0 1 (l ++ r) := by
  induction a with
  | nil => intro _ r c _; exact c
  | @snoc l p q s t p' q' s' t' a h1 h2 h3 h4 h5 h6 h0 ih =>
    intro hb r c hr
    simp only [List.append_assoc, List.singleton_append]
    refine ih (fun x hx => hb x (List.mem_append_left _ hx)) _ ⟨⟨h1, (hb _ (by simp)).sbd, h4, ?_⟩, c⟩ ?_
    · cases r with
      | nil => trivial
      | cons y r' =>
        obtain ⟨e1, e2⟩ := hr y r' rfl
        simp only [jt, e1, e2]
        exact h5
    · intro y r' e
      cases e
      exact ⟨rfl, rfl⟩
theorem Acc.df {l : List St} {p q s t : Int} (a : Acc l p q s t) : ∀ r, Df r → (∀ y r', r = y :: r' → y.s = s ∧ y.t = t) → Df (l ++ r) := by
  induction a with
  | nil => intro r c _; exact c
  | @snoc l p q s t p' q' s' t' a h1 h2 h3 h4 h5 h6 h0 ih =>
    intro r c hr
    simp only [List.append_assoc, List.singleton_append]
    refine ih _ ⟨?_, c⟩ ?_
    · intro y r' e
      obtain ⟨e1, e2⟩ := hr y r' e
      simp only [same, e1, Bool.and_eq_false_iff, decide_eq_false_iff_not]
      exact .inl (by simpa using Ne.symm h6)
    · intro y r' e
      cases e
      exact ⟨rfl, rfl⟩
theorem Ln.ch {L : List St} (n : Ln L) : Ch 0 1 L := by
  obtain ⟨l, p, q, s, t, a, rfl⟩ := n.acc
  have ps := a.ps
  refine a.ch (fun x hx => n.all x (List.mem_append_left _ hx)) _ ⟨⟨by simp only; omega, (n.all _ (by simp)).sbd, (by show Int.gcd 1 1 = 1; decide), trivial⟩, rfl, rfl⟩ ?_
  intro y r' e
  cases e
  exact ⟨rfl, rfl⟩
theorem Ln.df {L : List St} (n : Ln L) : Df L := by
  obtain ⟨l, p, q, s, t, a, rfl⟩ := n.acc
  refine a.df _ ⟨fun y r' e => (by cases e), trivial⟩ ?_
  intro y r' e
  cases e
  exact ⟨rfl, rfl⟩
theorem Ln.pos {L : List St} (n : Ln L) : 0 < L.length := by
  obtain ⟨l, p, q, s, t, a, rfl⟩ := n.acc
  simp
theorem Ch.mem : ∀ {l : List St} {p q : Int}, Ch p q l → ∀ x ∈ l, Sbd x ∧ Int.gcd x.p x.q = 1
  | [], _, _, _, x, hx => by cases hx
  | y :: r, _, _, ⟨⟨_, b, g, _⟩, c⟩, x, hx => by
    rcases List.mem_cons.mp hx with rfl | hx
    · exact ⟨b, g⟩
    · exact Ch.mem c x hx
theorem Ch.step : ∀ {l : List St} {p q : Int}, Ch p q l → ∀ (j : Nat) (h : j + 1 < l.length), (l[j + 1].s - l[j].s) * l[j].p + (l[j + 1].t - l[j].t) * l[j].q = 0
  | [], _, _, _, j, h => by simp at h
  | [x], _, _, _, j, h => by simp at h
  | x :: y :: r, _, _, ⟨⟨_, _, _, e⟩, c⟩, 0, h => e
  | x :: y :: r, _, _, ⟨_, c⟩, j + 1, h => by
    have := Ch.step c j (by simpa using h)
    simpa using this
/-! ### ends looked at -/
/-! ### like neighbours made one -/
/-! ### the whole of line_made -/
structure KMade (T : Tab) : Prop where
  ln : KLn T
  look : T.fn "lines.look_at_ends" = some f_lines_look_at_ends
  joined : T.fn "lines.joined" = some f_lines_joined
  made : T.fn "lines.line_made" = some f_lines_line_made
  most : T.con "lines.MOST" = some (.int 60)
end Q

/-! line_made -/
namespace Q
end Q

/-! whether something is a line: it is -/
namespace Q
structure KIs (T : Tab) : Prop where
  whole : T.fn "_law_whole" = some f__law_whole
  divisor : T.fn "_law_divisor" = some f__law_divisor
  stretch : T.fn "_law_is_stretch" = some f__law_is_stretch
  line : T.fn "_law_is_line" = some f__law_is_line
end Q

/-! lines in plain numbers: heights, like neighbours made one, a line is told by its heights -/
namespace Q
/-! ### fractions in order -/
theorem le_trans3 {a b c d e f : Int} (hb : 0 < b) (hd : 0 < d) (hf : 0 < f) (h1 : a * d ≤ c * b) (h2 : c * f ≤ e * d) : a * f ≤ e * b := by
  have k1 : a * d * f ≤ c * b * f := Int.mul_le_mul_of_nonneg_right h1 (by omega)
  have k2 : c * f * b ≤ e * d * b := Int.mul_le_mul_of_nonneg_right h2 (by omega)
  have e1 : c * b * f = c * f * b := Int.mul_right_comm c b f
  have e2 : a * d * f = a * f * d := Int.mul_right_comm a d f
  have e3 : e * d * b = e * b * d := Int.mul_right_comm e d b
  have k3 : a * f * d ≤ e * b * d := by omega
  exact Int.le_of_mul_le_mul_right k3 hd
theorem dvd_cop {a b d : Int} (g : Int.gcd a b = 1) (h : b ∣ a * d) : b ∣ d := by
  have h2 : b.natAbs ∣ a.natAbs * d.natAbs := by rw [← Int.natAbs_mul]; exact Int.natAbs_dvd_natAbs.mpr h
  have g2 : Nat.Coprime b.natAbs a.natAbs := by
    show Nat.gcd b.natAbs a.natAbs = 1
    rw [Nat.gcd_comm]
    exact g
  exact Int.natAbs_dvd_natAbs.mp (g2.dvd_of_dvd_mul_left h2)
/-- lowest terms tell a fraction -/
theorem low_same {a b c d : Int} (hb : 0 < b) (hd : 0 < d) (g1 : Int.gcd a b = 1) (g2 : Int.gcd c d = 1) (e : a * d = c * b) : a = c ∧ b = d := by
  have d1 : b ∣ d := by
    have : b ∣ a * d := ⟨c, by rw [e, Int.mul_comm]⟩
    exact dvd_cop g1 this
  have d2 : d ∣ b := by
    have : d ∣ c * b := ⟨a, by rw [← e, Int.mul_comm]⟩
    exact dvd_cop g2 this
  have l1 := Int.le_of_dvd hd d1
  have l2 := Int.le_of_dvd hb d2
  have eb : b = d := by omega
  subst eb
  exact ⟨Int.eq_of_mul_eq_mul_right (by omega) e, rfl⟩
/-! ### chains without bounds -/
/-- from p / q on: ends that rise up to 1, no jump -/
def Cn' : Int → Int → List St → Prop
  | p, q, [] => p = 1 ∧ q = 1
  | p, q, x :: r => (p * x.q < x.p * q ∧ (0 ≤ x.p ∧ 0 < x.q ∧ x.p ≤ x.q) ∧ Int.gcd x.p x.q = 1 ∧ jt x r) ∧ Cn' x.p x.q r
def Bx (n m : Nat) (x : St) : Prop := Bd n x.p ∧ Bd n x.q ∧ Bd m x.s ∧ Bd m x.t
theorem Ch.cn : ∀ {r : List St} {p q : Int}, Ch p q r → Cn' p q r ∧ ∀ x ∈ r, Bx 300 1000 x
  | [], _, _, c => ⟨c, fun x hx => by cases hx⟩
  | x :: r, p, q, ⟨⟨h1, h2, h3, h4⟩, c⟩ => by
    obtain ⟨i1, i2⟩ := Ch.cn c
    refine ⟨⟨⟨h1, h2.1, h3, h4⟩, i1⟩, fun y hy => ?_⟩
    rcases List.mem_cons.mp hy with rfl | hy
    · exact h2.2
    · exact i2 y hy
theorem Cn'.ch : ∀ {r : List St} {p q : Int}, Cn' p q r → (∀ x ∈ r, Bx 300 1000 x) → Ch p q r
  | [], _, _, c, _ => c
  | x :: r, p, q, ⟨⟨h1, h2, h3, h4⟩, c⟩, b => ⟨⟨h1, ⟨h2, b x List.mem_cons_self⟩, h3, h4⟩, Cn'.ch c fun y hy => b y (List.mem_cons_of_mem _ hy)⟩
/-! ### heights -/
def vl (x : St) (a b : Int) : Int := x.s * a + x.t * b
def hv : List St → Int → Int → Int
  | [], _, _ => 0
  | x :: r, a, b => if x.p * b < a * x.q then hv r a b else vl x a b
theorem hv_lo {x : St} {r : List St} {a b : Int} (h : a * x.q ≤ x.p * b) : hv (x :: r) a b = vl x a b := if_neg (by omega)
theorem hv_hi {x : St} {r : List St} {a b : Int} (h : x.p * b < a * x.q) : hv (x :: r) a b = hv r a b := if_pos h
/-! ### like neighbours made one -/
def jnr : List St → List St
  | [] => []
  | [x] => [x]
  | x :: y :: r => if same x y then jnr (y :: r) else x :: jnr (y :: r)
/-- the rule it begins with -/
def hdr : List St → Option (Int × Int)
  | [] => none
  | x :: _ => some (x.s, x.t)
theorem hdr_jnr : ∀ r : List St, hdr (jnr r) = hdr r
  | [] => rfl
  | [x] => rfl
  | x :: y :: r => by
    rw [jnr]
    split
    · rename_i e
      rw [hdr_jnr (y :: r)]
      simp only [same, Bool.and_eq_true, decide_eq_true_eq] at e
      simp [hdr, e]
    · rfl
theorem jt_hdr {x : St} {r r' : List St} (e : hdr r = hdr r') (h : jt x r) : jt x r' := by
  cases r with
  | nil => cases r' with
    | nil => trivial
    | cons y r' => cases e
  | cons z r => cases r' with
    | nil => trivial
    | cons y r' =>
      simp only [hdr, Option.some.injEq, Prod.mk.injEq] at e
      simp only [jt] at h ⊢
      rw [← e.1, ← e.2]
      exact h
/-- begins with another rule -/
def nd (x : St) (r : List St) : Prop := ∀ y r', r = y :: r' → same x y = false
theorem nd_hdr {x : St} {r r' : List St} (e : hdr r = hdr r') (h : nd x r) : nd x r' := by
  intro y r2 er
  subst er
  cases r with
  | nil => cases e
  | cons z r =>
    simp only [hdr, Option.some.injEq, Prod.mk.injEq] at e
    have := h z r rfl
    unfold same at this ⊢
    rw [← e.1, ← e.2]
    exact this
theorem jnr_cn : ∀ (r : List St) (p q : Int), 0 < q → Cn' p q r → Cn' p q (jnr r)
  | [], _, _, _, c => c
  | [x], _, _, _, c => c
  | x :: y :: r, p, q, q0, ⟨⟨h1, h2, h3, h4⟩, c⟩ => by
    rw [jnr]
    have c' := c
    obtain ⟨⟨k1, k2, k3, k4⟩, c2⟩ := c
    split
    · exact jnr_cn (y :: r) p q q0 ⟨⟨lt_trans q0 h2.2.1 k2.2.1 (Int.le_of_lt h1) k1, k2, k3, k4⟩, c2⟩
    · exact ⟨⟨h1, h2, h3, jt_hdr (hdr_jnr (y :: r)).symm h4⟩, jnr_cn (y :: r) x.p x.q h2.2.1 c'⟩
theorem jnr_df : ∀ r : List St, Df (jnr r)
  | [] => trivial
  | [x] => ⟨fun y r' e => by (cases e), trivial⟩
  | x :: y :: r => by
    rw [jnr]
    split
    · exact jnr_df (y :: r)
    · rename_i e
      refine ⟨?_, jnr_df (y :: r)⟩
      refine nd_hdr (r := y :: r) (hdr_jnr (y :: r)).symm ?_
      intro z r' e'
      cases e'
      simpa using e
theorem jnr_mem : ∀ (r : List St), ∀ x ∈ jnr r, x ∈ r
  | [], _, h => h
  | [x], _, h => h
  | x :: y :: r, z, h => by
    rw [jnr] at h
    split at h
    · exact List.mem_cons_of_mem _ (jnr_mem (y :: r) z h)
    · rcases List.mem_cons.mp h with rfl | h
      · exact List.mem_cons_self
      · exact List.mem_cons_of_mem _ (jnr_mem (y :: r) z h)
theorem jnr_len : ∀ (r : List St), (jnr r).length ≤ r.length
  | [] => Nat.le_refl _
  | [x] => Nat.le_refl _
  | x :: y :: r => by
    have := jnr_len (y :: r)
    rw [jnr]
    split <;> simp only [List.length_cons] at this ⊢ <;> omega
/-! ### a line is told by its heights -/
theorem rule_two {s t s' t' a b c d : Int} (e1 : s * a + t * b = s' * a + t' * b) (e2 : s * c + t * d = s' * c + t' * d) (n : a * d ≠ c * b) (hb : 0 < b) : s = s' ∧ t = t' := by
  have f1 : (s - s') * a = (t' - t) * b := by rw [Int.sub_mul, Int.sub_mul]; omega
  have f2 : (s - s') * c = (t' - t) * d := by rw [Int.sub_mul, Int.sub_mul]; omega
  have g1 : (s - s') * (a * d) = (t' - t) * b * d := by rw [← Int.mul_assoc, f1]
  have g2 : (s - s') * (c * b) = (t' - t) * b * d := by rw [← Int.mul_assoc, f2, Int.mul_right_comm]
  have g3 : (s - s') * (a * d - c * b) = 0 := by rw [Int.mul_sub]; omega
  have z : s - s' = 0 := by
    rcases Int.mul_eq_zero.mp g3 with h | h
    · exact h
    · omega
  have z2 : (t' - t) * b = 0 := by rw [← f1, z, Int.zero_mul]
  have z3 : t' - t = 0 := by
    rcases Int.mul_eq_zero.mp z2 with h | h
    · exact h
    · omega
  omega
/-- between two fractions lies one -/
theorem between {p q a b : Int} (hq : 0 < q) (hb : 0 < b) (h : p * b < a * q) : p * (2 * q * b) < (p * b + a * q) * q ∧ (p * b + a * q) * b < a * (2 * q * b) := by
  have k1 := Int.mul_lt_mul_of_pos_right h hq
  have k2 := Int.mul_lt_mul_of_pos_right h hb
  constructor
  · have e : p * (2 * q * b) = 2 * (p * b * q) := by simp only [Int.mul_assoc, Int.mul_comm, Int.mul_left_comm]
    rw [e, Int.add_mul]
    omega
  · have e : a * (2 * q * b) = 2 * (a * q * b) := by simp only [Int.mul_assoc, Int.mul_comm, Int.mul_left_comm]
    rw [e, Int.add_mul]
    omega
/-- two rules alike between two fractions -/
theorem rule_like {x y : St} {p q a b : Int} (hq : 0 < q) (hb : 0 < b) (h : p * b < a * q) (e : ∀ c d, 0 < d → p * d < c * q → c * b ≤ a * d → vl x c d = vl y c d) : same x y = true := by
  obtain ⟨m1, m2⟩ := between hq hb h
  have d0 : 0 < 2 * q * b := Int.mul_pos (Int.mul_pos (by decide) hq) hb
  have e1 := e a b hb h (by rw [Int.mul_comm]; exact Int.le_refl _)
  have e2 := e (p * b + a * q) (2 * q * b) d0 m1 (by omega)
  obtain ⟨r1, r2⟩ := rule_two e1 e2 (by omega) hb
  simp [same, r1, r2]
theorem line_unique : ∀ (l m : List St) (p q : Int), 0 < q → Cn' p q l → Cn' p q m → Df l → Df m → (∀ a b, 0 < b → p * b < a * q → a ≤ b → hv l a b = hv m a b) → l = m
  | [], [], _, _, _, _, _, _, _, _ => rfl
  | [], y :: m, p, q, q0, c, d, _, _, _ => by
    obtain ⟨rfl, rfl⟩ := c
    have := d.1.1
    have := d.1.2.1
    omega
  | x :: l, [], p, q, q0, c, d, _, _, _ => by
    obtain ⟨rfl, rfl⟩ := d
    have := c.1.1
    have := c.1.2.1
    omega
  | x :: l, y :: m, p, q, q0, ⟨⟨c1, c2, c3, c4⟩, c⟩, ⟨⟨d1, d2, d3, d4⟩, d⟩, ⟨f1, f⟩, ⟨g1, g⟩, e => by
    -- the shorter one of the two first stretches has the other's rule
    have xq := c2.2.1
    have yq := d2.2.1
    have sm : same x y = true := by
      by_cases h : x.p * y.q ≤ y.p * x.q
      · refine rule_like q0 xq c1 fun a b hb h1 h2 => ?_
        have ax : a ≤ b := by
          have := le_trans3 (a := a) (b := b) (c := x.p) (d := x.q) (e := 1) (f := 1) hb xq (by decide) h2 (by omega)
          omega
        have := e a b hb h1 ax
        rw [hv_lo h2, hv_lo (le_trans3 hb xq yq h2 h)] at this
        exact this
      · refine rule_like q0 yq d1 fun a b hb h1 h2 => ?_
        have ax : a ≤ b := by
          have := le_trans3 (a := a) (b := b) (c := y.p) (d := y.q) (e := 1) (f := 1) hb yq (by decide) h2 (by omega)
          omega
        have := e a b hb h1 ax
        rw [hv_lo h2, hv_lo (le_trans3 hb yq xq h2 (by omega))] at this
        exact this
    have ends : x.p * y.q = y.p * x.q := by
      rcases Int.lt_trichotomy (x.p * y.q) (y.p * x.q) with h | h | h
      · exfalso
        cases l with
        | nil =>
          obtain ⟨e1, e2⟩ := c
          rw [e1, e2] at h
          omega
        | cons x' l =>
          obtain ⟨⟨k1, k2, _⟩, _⟩ := c
          have xq' := k2.2.1
          have n := f1 x' l rfl
          have s2 : same x' y = true := by
            by_cases h' : x'.p * y.q ≤ y.p * x'.q
            · refine rule_like xq xq' k1 fun a b hb h1 h2 => ?_
              have ax : a ≤ b := by
                have := le_trans3 (a := a) (b := b) (c := x'.p) (d := x'.q) (e := 1) (f := 1) hb xq' (by decide) h2 (by omega)
                omega
              have := e a b hb (lt_trans q0 xq hb (Int.le_of_lt c1) h1) ax
              rw [hv_hi h1, hv_lo h2, hv_lo (le_trans3 hb xq' yq h2 h')] at this
              exact this
            · refine rule_like xq yq h fun a b hb h1 h2 => ?_
              have ax : a ≤ b := by
                have := le_trans3 (a := a) (b := b) (c := y.p) (d := y.q) (e := 1) (f := 1) hb yq (by decide) h2 (by omega)
                omega
              have := e a b hb (lt_trans q0 xq hb (Int.le_of_lt c1) h1) ax
              rw [hv_hi h1, hv_lo (le_trans3 hb yq xq' h2 (by omega)), hv_lo h2] at this
              exact this
          simp only [same, Bool.and_eq_true, decide_eq_true_eq] at sm s2
          simp only [same, sm.1, sm.2, s2.1, s2.2] at n
          simp at n
      · exact h
      · exfalso
        cases m with
        | nil =>
          obtain ⟨e1, e2⟩ := d
          rw [e1, e2] at h
          omega
        | cons y' m =>
          obtain ⟨⟨k1, k2, _⟩, _⟩ := d
          have yq' := k2.2.1
          have n := g1 y' m rfl
          have s2 : same x y' = true := by
            by_cases h' : y'.p * x.q ≤ x.p * y'.q
            · refine rule_like yq yq' k1 fun a b hb h1 h2 => ?_
              have ax : a ≤ b := by
                have := le_trans3 (a := a) (b := b) (c := y'.p) (d := y'.q) (e := 1) (f := 1) hb yq' (by decide) h2 (by omega)
                omega
              have := e a b hb (lt_trans q0 yq hb (Int.le_of_lt d1) h1) ax
              rw [hv_lo (le_trans3 hb yq' xq h2 h'), hv_hi h1, hv_lo h2] at this
              exact this
            · refine rule_like yq xq h fun a b hb h1 h2 => ?_
              have ax : a ≤ b := by
                have := le_trans3 (a := a) (b := b) (c := x.p) (d := x.q) (e := 1) (f := 1) hb xq (by decide) h2 (by omega)
                omega
              have := e a b hb (lt_trans q0 yq hb (Int.le_of_lt d1) h1) ax
              rw [hv_lo h2, hv_hi h1, hv_lo (le_trans3 hb xq yq' h2 (by omega))] at this
              exact this
          simp only [same, Bool.and_eq_true, decide_eq_true_eq] at sm s2
          simp only [same, ← sm.1, ← sm.2, s2.1, s2.2] at n
          simp at n
    obtain ⟨e1, e2⟩ := low_same xq yq c3 d3 ends
    have ih := line_unique l m x.p x.q xq c (by rw [e1, e2]; exact d) f g fun a b hb h1 h2 => by
      have := e a b hb (lt_trans q0 xq hb (Int.le_of_lt c1) h1) h2
      rw [hv_hi h1, hv_hi (by rw [← e1, ← e2]; exact h1)] at this
      exact this
    simp only [same, Bool.and_eq_true, decide_eq_true_eq] at sm
    rw [ih]
    congr 1
    cases x
    cases y
    simp only at e1 e2 sm
    rw [e1, e2, sm.1, sm.2]
end Q

/-! two lines cut at the ends of both; sums -/
namespace Q
/-- a piece: its end, the stretches of both -/
structure Pc where
  e : Int
  f : Int
  x : St
  y : St
def Pc.d (u : Pc) : D := .tup [.tup [.int u.e, .int u.f], u.x.d, u.y.d]
def pcs : List St → List St → List Pc
  | x :: l, y :: m => if y.p * x.q < x.p * y.q then ⟨y.p, y.q, x, y⟩ :: pcs (x :: l) m else if x.p * y.q < y.p * x.q then ⟨x.p, x.q, x, y⟩ :: pcs l (y :: m) else ⟨x.p, x.q, x, y⟩ :: pcs l m
  | _, _ => []
termination_by l m => l.length + m.length
theorem pcs_nil (m : List St) : pcs [] m = [] := by unfold pcs; rfl
theorem pcs_nil2 (l : List St) : pcs l [] = [] := by cases l <;> (unfold pcs; rfl)
theorem pcs_cons (x y : St) (l m : List St) : pcs (x :: l) (y :: m) = if y.p * x.q < x.p * y.q then ⟨y.p, y.q, x, y⟩ :: pcs (x :: l) m else if x.p * y.q < y.p * x.q then ⟨x.p, x.q, x, y⟩ :: pcs l (y :: m) else ⟨x.p, x.q, x, y⟩ :: pcs l m := by
  rw [pcs]
/-- what holds of two chains' pieces, step by step -/
theorem pcs_ind {M : Int → Int → List St → List St → Prop} (h1 : ∀ p q m, Cn' p q [] → Cn' p q m → M p q [] m) (h2 : ∀ p q l, Cn' p q l → Cn' p q [] → M p q l [])
    (h3 : ∀ p q x l y m, 0 < q → Cn' p q (x :: l) → Cn' p q (y :: m) → y.p * x.q < x.p * y.q → Cn' y.p y.q (x :: l) → M y.p y.q (x :: l) m → M p q (x :: l) (y :: m))
    (h4 : ∀ p q x l y m, 0 < q → Cn' p q (x :: l) → Cn' p q (y :: m) → x.p * y.q < y.p * x.q → Cn' x.p x.q (y :: m) → M x.p x.q l (y :: m) → M p q (x :: l) (y :: m))
    (h5 : ∀ p q x l y m, 0 < q → Cn' p q (x :: l) → Cn' p q (y :: m) → x.p = y.p → x.q = y.q → M x.p x.q l m → M p q (x :: l) (y :: m)) :
    ∀ (n : Nat) (l m : List St) (p q : Int), l.length + m.length ≤ n → 0 < q → Cn' p q l → Cn' p q m → M p q l m
  | _, [], m, p, q, _, _, c, d => h1 p q m c d
  | _, x :: l, [], p, q, _, _, c, d => h2 p q _ c d
  | 0, x :: l, y :: m, _, _, hn, _, _, _ => by simp at hn
  | n + 1, x :: l, y :: m, p, q, hn, q0, c, d => by
    simp only [List.length_cons] at hn
    have c' := c
    have d' := d
    obtain ⟨⟨c1, c2, c3, c4⟩, c⟩ := c
    obtain ⟨⟨d1, d2, d3, d4⟩, d⟩ := d
    rcases Int.lt_trichotomy (y.p * x.q) (x.p * y.q) with h | h | h
    · have cx : Cn' y.p y.q (x :: l) := ⟨⟨h, c2, c3, c4⟩, c⟩
      exact h3 p q x l y m q0 c' d' h cx (pcs_ind h1 h2 h3 h4 h5 n (x :: l) m y.p y.q (by simp only [List.length_cons]; omega) d2.2.1 cx d)
    · obtain ⟨e1, e2⟩ := low_same c2.2.1 d2.2.1 c3 d3 h.symm
      exact h5 p q x l y m q0 c' d' e1 e2 (pcs_ind h1 h2 h3 h4 h5 n l m x.p x.q (by omega) c2.2.1 c (by rw [e1, e2]; exact d))
    · have dx : Cn' x.p x.q (y :: m) := ⟨⟨h, d2, d3, d4⟩, d⟩
      exact h4 p q x l y m q0 c' d' h dx (pcs_ind h1 h2 h3 h4 h5 n l (y :: m) x.p x.q (by simp only [List.length_cons]; omega) c2.2.1 c dx)
theorem pcs_a {x y : St} {l m : List St} (h : y.p * x.q < x.p * y.q) : pcs (x :: l) (y :: m) = ⟨y.p, y.q, x, y⟩ :: pcs (x :: l) m := by rw [pcs_cons, if_pos h]
theorem pcs_b {x y : St} {l m : List St} (h : x.p * y.q < y.p * x.q) : pcs (x :: l) (y :: m) = ⟨x.p, x.q, x, y⟩ :: pcs l (y :: m) := by rw [pcs_cons, if_neg (by omega), if_pos h]
theorem pcs_c {x y : St} {l m : List St} (h1 : x.p = y.p) (h2 : x.q = y.q) : pcs (x :: l) (y :: m) = ⟨x.p, x.q, x, y⟩ :: pcs l m := by rw [pcs_cons, h1, h2, if_neg (by omega), if_neg (by omega)]
/-! ### sums -/
def sm (u : Pc) : St := ⟨u.e, u.f, u.x.s + u.y.s, u.x.t + u.y.t⟩
theorem hdr_sm (x y : St) (l m : List St) : hdr ((pcs (x :: l) (y :: m)).map sm) = some (x.s + y.s, x.t + y.t) := by
  rw [pcs_cons]
  split
  · rfl
  · split <;> rfl
theorem jt_of_hdr {x : St} {r : List St} (h : ∀ s t, hdr r = some (s, t) → (s - x.s) * x.p + (t - x.t) * x.q = 0) : jt x r := by
  cases r with
  | nil => trivial
  | cons y r => exact h y.s y.t rfl
theorem sum_cn (l m : List St) {p q : Int} (q0 : 0 < q) (c : Cn' p q l) (d : Cn' p q m) : Cn' p q ((pcs l m).map sm) := by
  refine pcs_ind (M := fun p q l m => Cn' p q ((pcs l m).map sm)) ?_ ?_ ?_ ?_ ?_ (l.length + m.length) l m p q (Nat.le_refl _) q0 c d
  · intro p q m c d
    rw [pcs_nil]
    exact c
  · intro p q l c d
    rw [pcs_nil2]
    exact d
  · intro p q x l y m q0 ⟨⟨c1, c2, c3, c4⟩, c⟩ ⟨⟨d1, d2, d3, d4⟩, d⟩ h cx ih
    rw [pcs_a h]
    refine ⟨⟨d1, d2, d3, jt_of_hdr fun s t e => ?_⟩, ih⟩
    cases m with
    | nil => rw [pcs_nil2] at e; cases e
    | cons y' m =>
      rw [hdr_sm] at e
      simp only [Option.some.injEq, Prod.mk.injEq] at e
      simp only [jt] at d4
      obtain ⟨rfl, rfl⟩ := e
      simp only [sm]
      rw [show x.s + y'.s - (x.s + y.s) = y'.s - y.s by omega, show x.t + y'.t - (x.t + y.t) = y'.t - y.t by omega]
      exact d4
  · intro p q x l y m q0 ⟨⟨c1, c2, c3, c4⟩, c⟩ ⟨⟨d1, d2, d3, d4⟩, d⟩ h cx ih
    rw [pcs_b h]
    refine ⟨⟨c1, c2, c3, jt_of_hdr fun s t e => ?_⟩, ih⟩
    cases l with
    | nil => rw [pcs_nil] at e; cases e
    | cons x' l =>
      rw [hdr_sm] at e
      simp only [Option.some.injEq, Prod.mk.injEq] at e
      simp only [jt] at c4
      obtain ⟨rfl, rfl⟩ := e
      simp only [sm]
      rw [show x'.s + y.s - (x.s + y.s) = x'.s - x.s by omega, show x'.t + y.t - (x.t + y.t) = x'.t - x.t by omega]
      exact c4
  · intro p q x l y m q0 ⟨⟨c1, c2, c3, c4⟩, c⟩ ⟨⟨d1, d2, d3, d4⟩, d⟩ e1 e2 ih
    rw [pcs_c e1 e2]
    refine ⟨⟨c1, c2, c3, jt_of_hdr fun s t e => ?_⟩, ih⟩
    cases l with
    | nil => rw [pcs_nil] at e; cases e
    | cons x' l =>
      cases m with
      | nil => rw [pcs_nil2] at e; cases e
      | cons y' m =>
        rw [hdr_sm] at e
        simp only [Option.some.injEq, Prod.mk.injEq] at e
        simp only [jt] at c4 d4
        obtain ⟨rfl, rfl⟩ := e
        simp only [sm]
        rw [← e1, ← e2] at d4
        rw [show x'.s + y'.s - (x.s + y.s) = (x'.s - x.s) + (y'.s - y.s) by omega, show x'.t + y'.t - (x.t + y.t) = (x'.t - x.t) + (y'.t - y.t) by omega, Int.add_mul, Int.add_mul]
        omega
theorem cn_one : ∀ {m : List St}, Cn' 1 1 m → m = []
  | [], _ => rfl
  | y :: m, ⟨⟨h, g, _⟩, _⟩ => by omega
/-- where a piece comes from -/
theorem pcs_mem : ∀ (n : Nat) (l m : List St), l.length + m.length ≤ n → (∀ u ∈ pcs l m, u.x ∈ l ∧ u.y ∈ m ∧ ((u.e = u.x.p ∧ u.f = u.x.q) ∨ (u.e = u.y.p ∧ u.f = u.y.q))) ∧ (pcs l m).length ≤ l.length + m.length
  | _, [], m, _ => by rw [pcs_nil]; simp
  | _, x :: l, [], _ => by rw [pcs_nil2]; simp
  | 0, x :: l, y :: m, h => by simp at h
  | n + 1, x :: l, y :: m, h => by
    simp only [List.length_cons] at h
    rw [pcs_cons]
    split
    · obtain ⟨i1, i2⟩ := pcs_mem n (x :: l) m (by simp only [List.length_cons]; omega)
      refine ⟨fun u hu => ?_, by simp only [List.length_cons] at i2 ⊢; omega⟩
      rcases List.mem_cons.mp hu with rfl | hu
      · exact ⟨List.mem_cons_self, List.mem_cons_self, .inr ⟨rfl, rfl⟩⟩
      · obtain ⟨j1, j2, j3⟩ := i1 u hu
        exact ⟨j1, List.mem_cons_of_mem _ j2, j3⟩
    · split
      · obtain ⟨i1, i2⟩ := pcs_mem n l (y :: m) (by simp only [List.length_cons]; omega)
        refine ⟨fun u hu => ?_, by simp only [List.length_cons] at i2 ⊢; omega⟩
        rcases List.mem_cons.mp hu with rfl | hu
        · exact ⟨List.mem_cons_self, List.mem_cons_self, .inl ⟨rfl, rfl⟩⟩
        · obtain ⟨j1, j2, j3⟩ := i1 u hu
          exact ⟨List.mem_cons_of_mem _ j1, j2, j3⟩
      · obtain ⟨i1, i2⟩ := pcs_mem n l m (by omega)
        refine ⟨fun u hu => ?_, by simp only [List.length_cons] at i2 ⊢; omega⟩
        rcases List.mem_cons.mp hu with rfl | hu
        · exact ⟨List.mem_cons_self, List.mem_cons_self, .inl ⟨rfl, rfl⟩⟩
        · obtain ⟨j1, j2, j3⟩ := i1 u hu
          exact ⟨List.mem_cons_of_mem _ j1, List.mem_cons_of_mem _ j2, j3⟩
theorem sum_bx {l m : List St} {n k : Nat} (hl : ∀ x ∈ l, Bx n k x) (hm : ∀ x ∈ m, Bx n k x) : ∀ x ∈ (pcs l m).map sm, Bx n (k + 1) x := by
  intro z hz
  obtain ⟨u, hu, rfl⟩ := List.mem_map.mp hz
  obtain ⟨j1, j2, j3⟩ := (pcs_mem _ l m (Nat.le_refl _)).1 u hu
  obtain ⟨a1, a2, a3, a4⟩ := hl _ j1
  obtain ⟨b1, b2, b3, b4⟩ := hm _ j2
  refine ⟨?_, ?_, (a3.add b3).mono (by omega), (a4.add b4).mono (by omega)⟩
  · simp only [sm]; rcases j3 with ⟨e1, e2⟩ | ⟨e1, e2⟩ <;> rw [e1] <;> assumption
  · simp only [sm]; rcases j3 with ⟨e1, e2⟩ | ⟨e1, e2⟩ <;> rw [e2] <;> assumption
end Q

/-! lineworks: pieces, added, turned, raised; heights of any line -/
namespace Q
theorem Bx.mono {n m n' m' : Nat} {x : St} (b : Bx n m x) (h : n ≤ n') (h' : m ≤ m') : Bx n' m' x := ⟨b.1.mono h, b.2.1.mono h, b.2.2.1.mono h', b.2.2.2.mono h'⟩
/-! ### comprehensions over a line -/
def tn (x : St) : St := ⟨x.p, x.q, -x.s, -x.t⟩
def rs (by_ : Int) (x : St) : St := ⟨x.p, x.q, x.s, x.t + by_⟩
/-! ### heights -/
end Q

/-! the places at which lines are looked at -/
namespace Q
def fd (u : Int × Int) : D := .tup [.int u.1, .int u.2]
/-- a fraction from 0 to 1 -/
def Pf (n : Nat) (u : Int × Int) : Prop := (0 < u.2 ∧ 0 ≤ u.1 ∧ u.1 ≤ u.2) ∧ Bd n u.1 ∧ Bd n u.2
theorem Pf.mono {n m : Nat} {u : Int × Int} (p : Pf n u) (h : n ≤ m) : Pf m u := ⟨p.1, p.2.1.mono h, p.2.2.mono h⟩
/-! ### in rising order -/
/-! ### the places -/
end Q

/-! the places between; all places -/
namespace Q
def mp (u w : Int × Int) (c : Int) : Int × Int := (low1 (u.1 * w.2 * (4 - c) + w.1 * u.2 * c) (4 * u.2 * w.2), low2 (u.1 * w.2 * (4 - c) + w.1 * u.2 * c) (4 * u.2 * w.2))
structure KSp (T : Tab) : Prop where
  lowest : T.fn "_law_lowest" = some f__law_lowest_v2
  divisor : T.fn "_law_divisor" = some f__law_divisor
  rising : T.fn "_law_rising" = some f__law_rising
  spots : T.fn "_law_spots" = some f__law_spots
end Q

/-! lines looked at, place by place -/
namespace Q
/-- a line with bounds -/
structure Lin (n m : Nat) (L : List St) : Prop where
  cn : Cn' 0 1 L
  df : Df L
  bx : ∀ x ∈ L, Bx n m x
  len : L.length ≤ 80000
theorem Lin.ne {n m : Nat} {L : List St} (l : Lin n m L) : L ≠ [] := fun e => by
  have := l.cn
  rw [e] at this
  exact absurd this.1 (by decide)
theorem Lin.pos {n m : Nat} {L : List St} (l : Lin n m L) : 0 < L.length := List.length_pos_iff.mpr l.ne
theorem Lin.mono {n m n' m' : Nat} {L : List St} (l : Lin n m L) (h : n ≤ n') (h' : m ≤ m') : Lin n' m' L := ⟨l.cn, l.df, fun x hx => (l.bx x hx).mono h h', l.len⟩
structure KAs (T : Tab) : Prop where
  is_ : KIs T
  sp : KSp T
  height : T.fn "_law_height" = some f__law_height
end Q

/-! a line turned or raised; the sum of two -/
namespace Q
/-- the rule times a sign, raised -/
def gm (σ c : Int) (x : St) : St := ⟨x.p, x.q, σ * x.s, σ * x.t + c⟩
theorem tn_gm : tn = gm (-1) 0 := by funext x; simp [tn, gm]
theorem rs_gm (b : Int) : rs b = gm 1 b := by funext x; simp [rs, gm]
theorem jt_gm {σ c : Int} {x : St} {r : List St} (h : jt x r) : jt (gm σ c x) (r.map (gm σ c)) := by
  cases r with
  | nil => trivial
  | cons y r =>
    simp only [jt, gm, List.map_cons] at h ⊢
    have e1 : σ * y.s - σ * x.s = σ * (y.s - x.s) := (Int.mul_sub ..).symm
    have e2 : σ * y.t + c - (σ * x.t + c) = σ * (y.t - x.t) := by rw [Int.mul_sub]; omega
    rw [e1, e2, Int.mul_assoc, Int.mul_assoc, ← Int.mul_add, h, Int.mul_zero]
theorem cn_gm {σ c : Int} : ∀ {r : List St} {p q : Int}, Cn' p q r → Cn' p q (r.map (gm σ c))
  | [], _, _, h => h
  | x :: r, p, q, ⟨⟨h1, h2, h3, h4⟩, h⟩ => ⟨⟨h1, h2, h3, jt_gm h4⟩, cn_gm h⟩
theorem same_gm {σ c : Int} (hσ : σ ≠ 0) (x y : St) : same (gm σ c x) (gm σ c y) = same x y := by
  have e1 : (σ * x.s = σ * y.s) ↔ x.s = y.s := ⟨fun h => Int.eq_of_mul_eq_mul_left hσ h, fun h => by rw [h]⟩
  have e2 : (σ * x.t + c = σ * y.t + c) ↔ x.t = y.t := ⟨fun h => Int.eq_of_mul_eq_mul_left hσ (by omega), fun h => by rw [h]⟩
  simp only [same, gm, e1, e2]
theorem df_gm {σ c : Int} (hσ : σ ≠ 0) : ∀ {r : List St}, Df r → Df (r.map (gm σ c))
  | [], _ => trivial
  | x :: r, ⟨h, h2⟩ => by
    refine ⟨fun y r' e => ?_, df_gm hσ h2⟩
    cases r with
    | nil => cases e
    | cons z r =>
      simp only [List.map_cons, List.cons.injEq] at e
      rw [← e.1, same_gm hσ]
      exact h z r rfl
theorem Lin.gm {n m : Nat} {L : List St} (l : Lin n m L) {σ c : Int} (hσ : σ = 1 ∨ σ = -1) (hc : Bd m c) : Lin n (m + 1) (L.map (gm σ c)) := by
  refine ⟨cn_gm l.cn, df_gm (by omega) l.df, fun z hz => ?_, by rw [List.length_map]; exact l.len⟩
  obtain ⟨x, hx, rfl⟩ := List.mem_map.mp hz
  obtain ⟨b1, b2, b3, b4⟩ := l.bx x hx
  refine ⟨b1, b2, ?_, ?_⟩
  · show Bd (m + 1) (σ * x.s)
    rcases hσ with rfl | rfl
    · rw [Int.one_mul]; exact b3.mono (by omega)
    · rw [Int.neg_mul, Int.one_mul]; exact b3.neg.mono (by omega)
  · show Bd (m + 1) (σ * x.t + c)
    rcases hσ with rfl | rfl
    · rw [Int.one_mul]; exact (b4.add hc).mono (by omega)
    · rw [Int.neg_mul, Int.one_mul]; exact (b4.neg.add hc).mono (by omega)
/-- both heights together -/
def addL (L M : List St) : List St := jnr ((pcs L M).map sm)
theorem addL_lin {n m : Nat} {L M : List St} (l : Lin n m L) (k : Lin n m M) (h : L.length + M.length ≤ 80000) : Lin n (m + 1) (addL L M) := by
  refine ⟨jnr_cn _ 0 1 (by decide) (sum_cn L M (by decide) l.cn k.cn), jnr_df _, fun x hx => sum_bx l.bx k.bx x (jnr_mem _ x hx), ?_⟩
  have h1 := jnr_len ((pcs L M).map sm)
  have h2 := (pcs_mem _ L M (Nat.le_refl _)).2
  rw [List.length_map] at h1
  unfold addL
  omega
/-- lines of like heights are one -/
theorem Lin.eq {n m n' m' : Nat} {L M : List St} (l : Lin n m L) (k : Lin n' m' M) (h : ∀ a b, 0 < b → 0 ≤ a → a ≤ b → hv L a b = hv M a b) : L = M :=
  line_unique L M 0 1 (by decide) l.cn k.cn l.df k.df fun a b hb h1 h2 => h a b hb (by omega) h2
end Q

/-! the greater of two lines -/
namespace Q
def mx (a b : Int) : Int := if a < b then b else a
theorem mx_comm (a b : Int) : mx a b = mx b a := by unfold mx; split <;> split <;> omega
theorem mx_l {a b : Int} (h : b ≤ a) : mx a b = a := if_neg (by omega)
theorem mx_r {a b : Int} (h : a ≤ b) : mx a b = b := by rw [mx_comm]; exact mx_l h
/-- the stretches of the greater rule from p / q to the piece's end -/
def hg (p q : Int) (u : Pc) : List St :=
  if vl u.x p q < vl u.y p q ∧ vl u.y u.e u.f < vl u.x u.e u.f then [⟨low1 (u.y.t - u.x.t) (u.x.s - u.y.s), low2 (u.y.t - u.x.t) (u.x.s - u.y.s), u.y.s, u.y.t⟩, ⟨u.e, u.f, u.x.s, u.x.t⟩]
  else if vl u.x u.e u.f < vl u.y u.e u.f ∧ vl u.y p q < vl u.x p q then [⟨low1 (u.y.t - u.x.t) (u.x.s - u.y.s), low2 (u.y.t - u.x.t) (u.x.s - u.y.s), u.x.s, u.x.t⟩, ⟨u.e, u.f, u.y.s, u.y.t⟩]
  else if vl u.x p q < vl u.y p q ∨ vl u.x u.e u.f < vl u.y u.e u.f then [⟨u.e, u.f, u.y.s, u.y.t⟩] else [⟨u.e, u.f, u.x.s, u.x.t⟩]
def gr (p q : Int) : List Pc → List St
  | [] => []
  | u :: r => hg p q u ++ gr u.e u.f r
/-- a rule that is not below nought at both ends is not so between -/
theorem lin_between {S U p q e f a b : Int} (hq : 0 < q) (hf : 0 < f) (hb : 0 < b) (h : p * f < e * q) (h1 : p * b ≤ a * q) (h2 : a * f ≤ e * b) (d1 : 0 ≤ S * p + U * q) (d2 : 0 ≤ S * e + U * f) : 0 ≤ S * a + U * b := by
  have id : (e * q - p * f) * (S * a + U * b) = (a * q - p * b) * (S * e + U * f) + (e * b - a * f) * (S * p + U * q) := by
    simp only [Int.sub_mul, Int.mul_add]
    have t1 : e * q * (S * a) = a * q * (S * e) := by simp only [Int.mul_assoc, Int.mul_comm, Int.mul_left_comm]
    have t2 : p * f * (U * b) = p * b * (U * f) := by simp only [Int.mul_assoc, Int.mul_comm, Int.mul_left_comm]
    have t3 : e * q * (U * b) = e * b * (U * q) := by simp only [Int.mul_assoc, Int.mul_comm, Int.mul_left_comm]
    have t4 : p * f * (S * a) = a * f * (S * p) := by simp only [Int.mul_assoc, Int.mul_comm, Int.mul_left_comm]
    have t5 : p * b * (S * e) = e * b * (S * p) := by simp only [Int.mul_assoc, Int.mul_comm, Int.mul_left_comm]
    have t6 : a * q * (U * f) = a * f * (U * q) := by simp only [Int.mul_assoc, Int.mul_comm, Int.mul_left_comm]
    omega
  have n1 := Int.mul_nonneg (show 0 ≤ a * q - p * b by omega) d2
  have n2 := Int.mul_nonneg (show 0 ≤ e * b - a * f by omega) d1
  have n3 : 0 ≤ (e * q - p * f) * (S * a + U * b) := by omega
  rcases Int.lt_or_le (S * a + U * b) 0 with hn | hn
  · have := Int.mul_neg_of_pos_of_neg (show 0 < e * q - p * f by omega) hn
    omega
  · exact hn
theorem vl_sub (x y : St) (a b : Int) : vl y a b - vl x a b = (y.s - x.s) * a + (y.t - x.t) * b := by
  simp only [vl, Int.sub_mul]
  omega
/-- where two rules cross -/
theorem cross {x y : St} {p q e f : Int} (p0 : 0 ≤ p) (hq : 0 < q) (hf : 0 < f) (hef : e ≤ f) (h : p * f < e * q) (h1 : vl x p q < vl y p q) (h2 : vl y e f < vl x e f) :
    ∃ c1 c2 g : Int, c1 = low1 (y.t - x.t) (x.s - y.s) ∧ c2 = low2 (y.t - x.t) (x.s - y.s) ∧ (0 ≤ c1 ∧ 0 < c2 ∧ c1 ≤ c2) ∧ Int.gcd c1 c2 = 1 ∧ p * c2 < c1 * q ∧ c1 * f < e * c2 ∧ 0 < g ∧ (∀ a b, vl y a b - vl x a b = g * (c1 * b - a * c2)) ∧ 0 < x.s - y.s := by
  have d1 := vl_sub x y p q
  have d2 := vl_sub x y e f
  obtain ⟨N, hN⟩ : ∃ N, N = y.t - x.t := ⟨_, rfl⟩
  obtain ⟨D, hD⟩ : ∃ D, D = x.s - y.s := ⟨_, rfl⟩
  have eD : y.s - x.s = -D := by omega
  rw [eD, ← hN, Int.neg_mul] at d1 d2
  have k1 : D * p < N * q := by omega
  have k2 : N * f < D * e := by omega
  have D0 : 0 < D := by
    have a1 := Int.mul_lt_mul_of_pos_right k1 hf
    have a2 := Int.mul_lt_mul_of_pos_right k2 hq
    have e1 : D * p * f = D * (p * f) := Int.mul_assoc ..
    have e2 : D * e * q = D * (e * q) := Int.mul_assoc ..
    have e3 : N * q * f = N * f * q := Int.mul_right_comm ..
    have a3 : D * (p * f) < D * (e * q) := by omega
    rcases Int.lt_or_le 0 D with hp | hp
    · exact hp
    · have := Int.mul_le_mul_of_nonpos_left hp (Int.le_of_lt h)
      omega
  have nD : D ≠ 0 := by omega
  obtain ⟨e1, e2⟩ := low_parts (a := N) nD
  have g0 := gcd_pos (a := N) nD
  have es : sg N D = (Int.gcd N D : Int) := if_neg (by omega)
  rw [es] at e1 e2
  have c20 := low2_pos (a := N) nD
  have gc := low_gcd (a := N) nD
  rw [← hN, ← hD]
  generalize hc1 : low1 N D = c1 at *
  generalize hc2 : low2 N D = c2 at *
  generalize (Int.gcd N D : Int) = g at *
  have m1 : p * c2 < c1 * q := by
    have : g * (p * c2) < g * (c1 * q) := by
      have t1 : g * (p * c2) = D * p := by rw [e2]; simp only [Int.mul_assoc, Int.mul_comm, Int.mul_left_comm]
      have t2 : g * (c1 * q) = N * q := by rw [e1]; simp only [Int.mul_assoc, Int.mul_comm, Int.mul_left_comm]
      omega
    exact Int.lt_of_mul_lt_mul_left this (by omega)
  have m2 : c1 * f < e * c2 := by
    have : g * (c1 * f) < g * (e * c2) := by
      have t1 : g * (e * c2) = D * e := by rw [e2]; simp only [Int.mul_assoc, Int.mul_comm, Int.mul_left_comm]
      have t2 : g * (c1 * f) = N * f := by rw [e1]; simp only [Int.mul_assoc, Int.mul_comm, Int.mul_left_comm]
      omega
    exact Int.lt_of_mul_lt_mul_left this (by omega)
  have c10 : 0 ≤ c1 := by
    have h1 : 0 ≤ p * c2 := Int.mul_nonneg p0 (by omega)
    rcases Int.lt_or_le c1 0 with z | z
    · have := Int.mul_neg_of_neg_of_pos z hq
      omega
    · exact z
  have c12 : c1 ≤ c2 := by
    have h1 : e * c2 ≤ f * c2 := Int.mul_le_mul_of_nonneg_right hef (by omega)
    have h2 : c1 * f < c2 * f := by rw [Int.mul_comm c2]; omega
    exact Int.le_of_lt (Int.lt_of_mul_lt_mul_right h2 (by omega))
  refine ⟨c1, c2, g, rfl, rfl, ⟨c10, c20, c12⟩, gc, m1, m2, g0, fun a b => ?_, D0⟩
  rw [vl_sub, eD, ← hN, e1, e2, Int.mul_sub]
  have t1 : -(c2 * g) * a = -(g * (a * c2)) := by rw [Int.neg_mul]; congr 1; simp only [Int.mul_assoc, Int.mul_comm, Int.mul_left_comm]
  have t2 : c1 * g * b = g * (c1 * b) := by simp only [Int.mul_assoc, Int.mul_comm, Int.mul_left_comm]
  rw [t1, t2]
  omega
/-- what a list of stretches is: the greater of x and y from p / q to e / f -/
structure Gs (p q e f : Int) (x y : St) (H : List St) : Prop where
  cn : ∀ r, Cn' e f r → (∀ s t, hdr r = some (s, t) → s * e + t * f = mx (vl x e f) (vl y e f)) → Cn' p q (H ++ r)
  hd : ∃ z H', H = z :: H' ∧ vl z p q = mx (vl x p q) (vl y p q)
  hv : ∀ r a b, 0 < b → p * b ≤ a * q → hv (H ++ r) a b = if e * b < a * f then hv r a b else mx (vl x a b) (vl y a b)
  len : H.length ≤ 2
theorem Gs.swap {p q e f : Int} {x y : St} {H : List St} (g : Gs p q e f x y H) : Gs p q e f y x H :=
  ⟨fun r c h => g.cn r c fun s t e => by rw [mx_comm]; exact h s t e, by obtain ⟨z, H', e1, e2⟩ := g.hd; exact ⟨z, H', e1, by rw [mx_comm]; exact e2⟩, fun r a b h1 h2 => by rw [g.hv r a b h1 h2, mx_comm], g.len⟩
theorem gs_one {x y : St} {p q e f : Int} (q0 : 0 < q) (e0 : 0 ≤ e ∧ 0 < f ∧ e ≤ f) (g : Int.gcd e f = 1) (h : p * f < e * q) (h1 : vl x p q ≤ vl y p q) (h2 : vl x e f ≤ vl y e f) : Gs p q e f x y [⟨e, f, y.s, y.t⟩] := by
  refine ⟨fun r c hr => ⟨⟨h, e0, g, jt_of_hdr fun s t eh => ?_⟩, c⟩, ⟨_, [], rfl, ?_⟩, fun r a b hb hab => ?_, by simp⟩
  · have := hr s t eh
    rw [mx_r h2] at this
    simp only [vl] at this
    simp only [Int.sub_mul]
    omega
  · rw [mx_r h1]; rfl
  · by_cases k : e * b < a * f
    · rw [if_pos k]; exact hv_hi (x := ⟨e, f, y.s, y.t⟩) k
    · rw [if_neg k, List.cons_append, hv_lo (x := ⟨e, f, y.s, y.t⟩) (show a * f ≤ e * b by omega)]
      have d1 := vl_sub x y p q
      have d2 := vl_sub x y e f
      have d3 := vl_sub x y a b
      have := lin_between (S := y.s - x.s) (U := y.t - x.t) q0 e0.2.1 hb h hab (by omega) (by omega) (by omega)
      rw [mx_r (by omega)]
      rfl
theorem gs_two {x y : St} {p q e f : Int} (p0 : 0 ≤ p) (q0 : 0 < q) (e0 : 0 ≤ e ∧ 0 < f ∧ e ≤ f) (g : Int.gcd e f = 1) (h : p * f < e * q) (h1 : vl x p q < vl y p q) (h2 : vl y e f < vl x e f) :
    Gs p q e f x y [⟨low1 (y.t - x.t) (x.s - y.s), low2 (y.t - x.t) (x.s - y.s), y.s, y.t⟩, ⟨e, f, x.s, x.t⟩] := by
  obtain ⟨c1, c2, gg, ec1, ec2, cc, gc, m1, m2, g0, dv, _⟩ := cross p0 q0 e0.2.1 e0.2.2 h h1 h2
  rw [← ec1, ← ec2]
  refine ⟨fun r c hr => ⟨⟨m1, cc, gc, ?_⟩, ⟨m2, e0, g, jt_of_hdr fun s t eh => ?_⟩, c⟩, ⟨_, _, rfl, ?_⟩, fun r a b hb hab => ?_, by simp⟩
  · have d := dv c1 c2
    have d2 := vl_sub x y c1 c2
    have z : c1 * c2 - c1 * c2 = 0 := by omega
    rw [z, Int.mul_zero] at d
    show (x.s - y.s) * c1 + (x.t - y.t) * c2 = 0
    have e1 : (x.s - y.s) * c1 = -((y.s - x.s) * c1) := by rw [← Int.neg_mul]; congr 1; omega
    have e2 : (x.t - y.t) * c2 = -((y.t - x.t) * c2) := by rw [← Int.neg_mul]; congr 1; omega
    omega
  · have := hr s t eh
    rw [mx_l (Int.le_of_lt h2)] at this
    simp only [vl] at this
    simp only [Int.sub_mul]
    omega
  · rw [mx_r (Int.le_of_lt h1)]; rfl
  · have d := dv a b
    by_cases k : c1 * b < a * c2
    · rw [List.cons_append, hv_hi (x := ⟨c1, c2, y.s, y.t⟩) k]
      by_cases k2 : e * b < a * f
      · rw [if_pos k2]; exact hv_hi (x := ⟨e, f, x.s, x.t⟩) k2
      · rw [if_neg k2, List.cons_append, hv_lo (x := ⟨e, f, x.s, x.t⟩) (show a * f ≤ e * b by omega)]
        have := Int.mul_neg_of_pos_of_neg g0 (show c1 * b - a * c2 < 0 by omega)
        rw [mx_l (by omega)]
        rfl
    · have k2 : ¬ (e * b < a * f) := by
        have := lt_trans hb cc.2.1 e0.2.1 (show a * c2 ≤ c1 * b by omega) m2
        omega
      rw [if_neg k2, List.cons_append, hv_lo (x := ⟨c1, c2, y.s, y.t⟩) (show a * c2 ≤ c1 * b by omega)]
      have := Int.mul_nonneg (Int.le_of_lt g0) (show 0 ≤ c1 * b - a * c2 by omega)
      rw [mx_r (by omega)]
      rfl
theorem low_swap {a b : Int} (hb : b ≠ 0) : low1 (-a) (-b) = low1 a b ∧ low2 (-a) (-b) = low2 a b := by
  have := low_factor (a := a) (b := b) (f := -1) hb (by decide)
  rw [Int.neg_mul, Int.neg_mul, Int.one_mul, Int.one_mul] at this
  simp only [lowD, D.tup.injEq, List.cons.injEq, D.int.injEq, and_true] at this
  exact this
theorem hg_spec {p q : Int} {u : Pc} (p0 : 0 ≤ p) (q0 : 0 < q) (e0 : 0 ≤ u.e ∧ 0 < u.f ∧ u.e ≤ u.f) (g : Int.gcd u.e u.f = 1) (h : p * u.f < u.e * q) : Gs p q u.e u.f u.x u.y (hg p q u) := by
  unfold hg
  split
  · rename_i c
    exact gs_two p0 q0 e0 g h c.1 c.2
  · rename_i c
    split
    · rename_i d
      have G := gs_two p0 q0 e0 g h d.2 d.1
      obtain ⟨_, _, _, _, _, _, _, _, _, _, _, D0⟩ := cross p0 q0 e0.2.1 e0.2.2 h d.2 d.1
      have s := low_swap (a := u.x.t - u.y.t) (b := u.y.s - u.x.s) (by omega)
      rw [show -(u.x.t - u.y.t) = u.y.t - u.x.t by omega, show -(u.y.s - u.x.s) = u.x.s - u.y.s by omega] at s
      rw [s.1, s.2]
      exact G.swap
    · rename_i d
      split
      · rename_i o
        exact gs_one q0 e0 g h (by omega) (by omega)
      · rename_i o
        exact (gs_one (x := u.y) (y := u.x) q0 e0 g h (by omega) (by omega)).swap
theorem hdr_app {z : St} {H r : List St} {s t : Int} (h : hdr ((z :: H) ++ r) = some (s, t)) : z.s = s ∧ z.t = t := by
  simpa [hdr] using h
theorem jt_vl {x y : St} {r : List St} (h : jt x (y :: r)) : vl y x.p x.q = vl x x.p x.q := by
  simp only [jt, Int.sub_mul] at h
  simp only [vl]
  omega
theorem gr_all (l m : List St) {p q : Int} (p0 : 0 ≤ p) (q0 : 0 < q) (c : Cn' p q l) (d : Cn' p q m) :
    Cn' p q (gr p q (pcs l m)) ∧ (∀ s t, hdr (gr p q (pcs l m)) = some (s, t) → ∃ x l' y m', l = x :: l' ∧ m = y :: m' ∧ s * p + t * q = mx (vl x p q) (vl y p q)) ∧
    (∀ a b, 0 < b → p * b ≤ a * q → a ≤ b → hv (gr p q (pcs l m)) a b = mx (hv l a b) (hv m a b)) := by
  refine pcs_ind (M := fun p q l m => 0 ≤ p → Cn' p q (gr p q (pcs l m)) ∧ (∀ s t, hdr (gr p q (pcs l m)) = some (s, t) → ∃ x l' y m', l = x :: l' ∧ m = y :: m' ∧ s * p + t * q = mx (vl x p q) (vl y p q)) ∧
    (∀ a b, 0 < b → p * b ≤ a * q → a ≤ b → hv (gr p q (pcs l m)) a b = mx (hv l a b) (hv m a b))) ?_ ?_ ?_ ?_ ?_ (l.length + m.length) l m p q (Nat.le_refl _) q0 c d p0
  · intro p q m c d _
    rw [pcs_nil]
    refine ⟨c, fun s t e => (by cases e), fun a b _ _ _ => ?_⟩
    obtain ⟨rfl, rfl⟩ := c
    rw [cn_one d]
    rfl
  · intro p q l c d _
    rw [pcs_nil2]
    refine ⟨d, fun s t e => (by cases e), fun a b _ _ _ => ?_⟩
    obtain ⟨rfl, rfl⟩ := d
    rw [cn_one c]
    rfl
  · intro p q x l y m q0 ⟨⟨c1, c2, c3, c4⟩, c⟩ ⟨⟨d1, d2, d3, d4⟩, d⟩ g cx ih p0
    obtain ⟨i1, i2, i3⟩ := ih d2.1
    rw [pcs_a g, gr]
    have G := hg_spec (u := ⟨y.p, y.q, x, y⟩) p0 q0 d2 d3 d1
    refine ⟨G.cn _ i1 fun s t e => ?_, fun s t e => ?_, fun a b hb h1 h2 => ?_⟩
    · obtain ⟨x', l', y', m', e1, e2, e3⟩ := i2 s t e
      cases e1
      subst e2
      rw [jt_vl d4] at e3
      exact e3
    · obtain ⟨z, H, e1, e2⟩ := G.hd
      rw [e1] at e
      obtain ⟨f1, f2⟩ := hdr_app e
      exact ⟨x, l, y, m, rfl, rfl, by rw [← f1, ← f2]; exact e2⟩
    · rw [G.hv _ a b hb h1]
      by_cases k : y.p * b < a * y.q
      · rw [if_pos k, i3 a b hb (Int.le_of_lt k) h2, hv_hi (x := y) k]
      · rw [if_neg k, hv_lo (x := y) (by omega), hv_lo (x := x) (le_trans3 hb d2.2.1 c2.2.1 (by omega) (Int.le_of_lt g))]
  · intro p q x l y m q0 ⟨⟨c1, c2, c3, c4⟩, c⟩ ⟨⟨d1, d2, d3, d4⟩, d⟩ g cx ih p0
    obtain ⟨i1, i2, i3⟩ := ih c2.1
    rw [pcs_b g, gr]
    have G := hg_spec (u := ⟨x.p, x.q, x, y⟩) p0 q0 c2 c3 c1
    refine ⟨G.cn _ i1 fun s t e => ?_, fun s t e => ?_, fun a b hb h1 h2 => ?_⟩
    · obtain ⟨x', l', y', m', e1, e2, e3⟩ := i2 s t e
      cases e2
      subst e1
      rw [jt_vl c4] at e3
      exact e3
    · obtain ⟨z, H, e1, e2⟩ := G.hd
      rw [e1] at e
      obtain ⟨f1, f2⟩ := hdr_app e
      exact ⟨x, l, y, m, rfl, rfl, by rw [← f1, ← f2]; exact e2⟩
    · rw [G.hv _ a b hb h1]
      by_cases k : x.p * b < a * x.q
      · rw [if_pos k, i3 a b hb (Int.le_of_lt k) h2, hv_hi (x := x) k]
      · rw [if_neg k, hv_lo (x := x) (by omega), hv_lo (x := y) (le_trans3 hb c2.2.1 d2.2.1 (by omega) (Int.le_of_lt g))]
  · intro p q x l y m q0 ⟨⟨c1, c2, c3, c4⟩, c⟩ ⟨⟨d1, d2, d3, d4⟩, d⟩ e1' e2' ih p0
    obtain ⟨i1, i2, i3⟩ := ih c2.1
    rw [pcs_c e1' e2', gr]
    have G := hg_spec (u := ⟨x.p, x.q, x, y⟩) p0 q0 c2 c3 c1
    refine ⟨G.cn _ i1 fun s t e => ?_, fun s t e => ?_, fun a b hb h1 h2 => ?_⟩
    · obtain ⟨x', l', y', m', e1, e2, e3⟩ := i2 s t e
      subst e1 e2
      rw [jt_vl c4] at e3
      have j2 := jt_vl d4
      rw [← e1', ← e2'] at j2
      rw [j2] at e3
      exact e3
    · obtain ⟨z, H, e1, e2⟩ := G.hd
      rw [e1] at e
      obtain ⟨f1, f2⟩ := hdr_app e
      exact ⟨x, l, y, m, rfl, rfl, by rw [← f1, ← f2]; exact e2⟩
    · rw [G.hv _ a b hb h1]
      by_cases k : x.p * b < a * x.q
      · rw [if_pos k, i3 a b hb (Int.le_of_lt k) h2, hv_hi (x := x) k, hv_hi (x := y) (by rw [← e1', ← e2']; exact k)]
      · rw [if_neg k, hv_lo (x := x) (by omega), hv_lo (x := y) (by rw [← e1', ← e2']; omega)]
end Q

/-! the greater and the lesser line as they are reckoned -/
namespace Q
theorem low_bd0 {a b : Int} {n : Nat} (ba : Bd n a) (bb : Bd n b) : Bd n (low1 a b) ∧ Bd n (low2 a b) := by
  by_cases h : b = 0
  · subst h
    have e : sg a 0 = (a.natAbs : Int) := by
      unfold sg
      rw [if_neg (by omega), Int.gcd_zero_right]
    constructor
    · unfold low1
      rw [e]
      by_cases z : a = 0
      · subst z; exact ba
      · exact ba.le (natAbs_fdiv_le a _ (by omega))
    · unfold low2
      rw [Int.zero_fdiv]
      exact bb
  · exact ⟨low1_bd h ba, low2_bd h bb⟩
theorem hg_bx {n m : Nat} {p q : Int} {u : Pc} (hm : m + 1 ≤ n) (hx : Bx n m u.x) (hy : Bx n m u.y) (he : Bd n u.e) (hf : Bd n u.f) : ∀ z ∈ hg p q u, Bx n m z := by
  have c := low_bd0 (n := n) (a := u.y.t - u.x.t) (b := u.x.s - u.y.s) ((hy.2.2.2.sub hx.2.2.2).mono (by omega)) ((hx.2.2.1.sub hy.2.2.1).mono (by omega))
  obtain ⟨_, _, x3, x4⟩ := hx
  obtain ⟨_, _, y3, y4⟩ := hy
  intro z hz
  unfold hg at hz
  split at hz
  · simp only [List.mem_cons, List.not_mem_nil, or_false] at hz
    rcases hz with rfl | rfl
    · exact ⟨c.1, c.2, y3, y4⟩
    · exact ⟨he, hf, x3, x4⟩
  · split at hz
    · simp only [List.mem_cons, List.not_mem_nil, or_false] at hz
      rcases hz with rfl | rfl
      · exact ⟨c.1, c.2, x3, x4⟩
      · exact ⟨he, hf, y3, y4⟩
    · split at hz
      · rw [List.mem_singleton.mp hz]; exact ⟨he, hf, y3, y4⟩
      · rw [List.mem_singleton.mp hz]; exact ⟨he, hf, x3, x4⟩
theorem hg_len (p q : Int) (u : Pc) : (hg p q u).length ≤ 2 := by
  unfold hg
  split
  · simp
  · split
    · simp
    · split <;> simp
theorem gr_bx {n m : Nat} (hm : m + 1 ≤ n) : ∀ (ps : List Pc) (p q : Int), (∀ u ∈ ps, Bx n m u.x ∧ Bx n m u.y ∧ Bd n u.e ∧ Bd n u.f) → ∀ z ∈ gr p q ps, Bx n m z
  | [], _, _, _, z, hz => by cases hz
  | u :: r, p, q, h, z, hz => by
    obtain ⟨h1, h2, h3, h4⟩ := h u List.mem_cons_self
    rcases List.mem_append.mp hz with hz | hz
    · exact hg_bx hm h1 h2 h3 h4 z hz
    · exact gr_bx hm r _ _ (fun v hv => h v (List.mem_cons_of_mem _ hv)) z hz
theorem gr_len : ∀ (ps : List Pc) (p q : Int), (gr p q ps).length ≤ 2 * ps.length
  | [], _, _ => by simp [gr]
  | u :: r, p, q => by
    have := gr_len r u.e u.f
    have := hg_len p q u
    simp only [gr, List.length_append, List.length_cons]
    omega
theorem pcs_bx {n m : Nat} {L M : List St} (hL : ∀ x ∈ L, Bx n m x) (hM : ∀ x ∈ M, Bx n m x) : ∀ u ∈ pcs L M, Bx n m u.x ∧ Bx n m u.y ∧ Bd n u.e ∧ Bd n u.f := by
  intro u hu
  obtain ⟨j1, j2, j3⟩ := (pcs_mem _ L M (Nat.le_refl _)).1 u hu
  have a := hL _ j1
  have b := hM _ j2
  refine ⟨a, b, ?_⟩
  rcases j3 with ⟨e1, e2⟩ | ⟨e1, e2⟩ <;> rw [e1, e2]
  · exact ⟨a.1, a.2.1⟩
  · exact ⟨b.1, b.2.1⟩
def grL (L M : List St) : List St := jnr (gr 0 1 (pcs L M))
theorem grL_lin {n m : Nat} {L M : List St} (l : Lin n m L) (k : Lin n m M) (hm : m + 1 ≤ n) (h : L.length + M.length ≤ 40000) : Lin n m (grL L M) := by
  obtain ⟨g1, _, _⟩ := gr_all L M (p := 0) (q := 1) (by decide) (by decide) l.cn k.cn
  refine ⟨jnr_cn _ 0 1 (by decide) g1, jnr_df _, fun x hx => gr_bx hm _ 0 1 (pcs_bx l.bx k.bx) x (jnr_mem _ x hx), ?_⟩
  have h1 := jnr_len (gr 0 1 (pcs L M))
  have h2 := gr_len (pcs L M) 0 1
  have h3 := (pcs_mem _ L M (Nat.le_refl _)).2
  unfold grL
  omega
/-! ### the program's way -/
structure KLn0 (T : Tab) : Prop where
  less : T.fn "fractions.less" = some f_fractions_less
  fraction : T.fn "fractions.fraction" = some f_fractions_fraction
  shared : T.fn "fractions.shared" = some f_fractions_shared
  rule : T.fn "lines.rule_at" = some f_lines_rule_at
  nought : T.con "lines.NOUGHT" = some (.tup [.int 0, .int 1])
structure KGr (T : Tab) : Prop where
  ln : KLn0 T
  joined : T.fn "lines.joined" = some f_lines_joined
  pieces : T.fn "lineworks.pieces" = some f_lineworks_pieces
  higher : T.fn "lineworks.higher" = some f_lineworks_higher
  crossing : T.fn "lineworks.crossing" = some f_lineworks_crossing
  greater : T.fn "lineworks.greater_line" = some f_lineworks_greater_line
  lesser : T.fn "lineworks.lesser_line" = some f_lineworks_lesser_line
  turned : T.fn "lineworks.turned" = some f_lineworks_turned
end Q

/-! greater_line and lesser_line, whole -/
namespace Q
/-- the lesser heights -/
def lsL (L M : List St) : List St := (grL (L.map tn) (M.map tn)).map tn
def mn (a b : Int) : Int := if a < b then a else b
theorem lsL_lin {n m : Nat} {L M : List St} (l : Lin n m L) (k : Lin n m M) (hm : m + 3 ≤ n) (h : L.length + M.length ≤ 40000) : Lin n (m + 2) (lsL L M) := by
  have b0 : Bd m 0 := Bd.of (by exact Nat.two_pow_pos m)
  have b1 : Bd (m + 1) 0 := b0.mono (by omega)
  have l' : Lin n (m + 1) (L.map tn) := by rw [tn_gm]; exact l.gm (.inr rfl) b0
  have k' : Lin n (m + 1) (M.map tn) := by rw [tn_gm]; exact k.gm (.inr rfl) b0
  have g := grL_lin l' k' (by omega) (by simp; omega)
  unfold lsL
  rw [show (tn : St → St) = gm (-1) 0 from tn_gm] at g ⊢
  exact g.gm (.inr rfl) b1
end Q

/-! a line cut off; whether it stays within -/
namespace Q
def lv (c : Int) : List St := [⟨1, 1, 0, c⟩]
theorem lv_lin {n m : Nat} (hn : 1 ≤ n) {c : Int} (hc : Bd m c) : Lin n m (lv c) := by
  refine ⟨⟨⟨(show (0 : Int) * 1 < 1 * 1 by decide), (show (0 : Int) ≤ 1 ∧ (0 : Int) < 1 ∧ (1 : Int) ≤ 1 by decide), (show Int.gcd 1 1 = 1 by decide), trivial⟩, rfl, rfl⟩, ⟨fun y r' e => (by cases e), trivial⟩, fun x hx => ?_, by simp [lv]⟩
  rw [List.mem_singleton.mp hx]
  have b1 : Bd n 1 := (show Bd 1 1 from Bd.of (by decide)).mono hn
  exact ⟨b1, b1, Bd.of (by exact Nat.two_pow_pos m), hc⟩
/-- cut off above 1 and below 0 -/
def coL (L : List St) : List St := grL (lsL L (lv 1)) (lv 0)
structure KCut (T : Tab) : Prop where
  gr : KGr T
  one : T.con "lines.ONE" = some (.tup [.int 1, .int 1])
  level : T.fn "lineworks.level" = some f_lineworks_level
  cut : T.fn "lineworks.cut_off" = some f_lineworks_cut_off
/-! ### within -/
end Q

/-! bends, stays, within as they are reckoned -/
namespace Q
structure KStay (T : Tab) : Prop where
  ln : KLn0 T
  one : T.con "lines.ONE" = some (.tup [.int 1, .int 1])
  bends : T.fn "lines.bends" = some f_lines_bends
  stays : T.fn "lines.stays" = some f_lines_stays
end Q

/-! lines of folds: how many stretches they can have; heights -/
namespace Q
/-! ### how many stretches -/
def SlB (c : Nat) (L : List St) : Prop := ∀ x ∈ L, x.s.natAbs ≤ c
theorem den_le {c : Nat} : ∀ {L : List St} {p q : Int}, Cn' p q L → Df L → SlB c L → ∀ x ∈ L, x.q ≤ (max 1 (2 * c) : Nat)
  | [], _, _, _, _, _, x, hx => by cases hx
  | [y], _, _, ⟨_, c1, c2⟩, _, _, x, hx => by
    rw [List.mem_singleton.mp hx, c2]
    omega
  | y :: z :: r, _, _, ⟨⟨_, h2, h3, h4⟩, h⟩, ⟨f1, f⟩, s, x, hx => by
    rcases List.mem_cons.mp hx with rfl | hx
    · have sy := s x List.mem_cons_self
      have sz := s z (List.mem_cons_of_mem _ List.mem_cons_self)
      have nd := f1 z r rfl
      simp only [jt] at h4
      have dv : x.q ∣ x.p * (z.s - x.s) := by
        refine ⟨-(z.t - x.t), ?_⟩
        rw [Int.mul_neg, Int.mul_comm x.p, Int.mul_comm x.q]
        omega
      have d2 := dvd_cop h3 dv
      have n0 : z.s - x.s ≠ 0 := fun e => by
        rw [e, Int.zero_mul, Int.zero_add] at h4
        rcases Int.mul_eq_zero.mp h4 with h | h
        · simp only [same, Bool.and_eq_false_iff, decide_eq_false_iff_not] at nd
          omega
        · omega
      have le := Int.natAbs_dvd_natAbs.mpr d2
      have := Nat.le_of_dvd (by omega) le
      omega
    · exact den_le h f (fun w hw => s w (List.mem_cons_of_mem _ hw)) x hx
theorem len_den {Q : Int} : ∀ {L : List St} {p q : Int}, Cn' p q L → 0 < q → q ≤ Q → (∀ x ∈ L, x.q ≤ Q) → (L.length : Int) * q ≤ (q - p) * (Q * Q)
  | [], p, q, ⟨e1, e2⟩, _, _, _ => by
    rw [e1, e2]
    simp
  | x :: r, p, q, ⟨⟨h1, h2, _, _⟩, c⟩, q0, hq, hx => by
    have xq := hx x List.mem_cons_self
    have ih := len_den c h2.2.1 xq fun y hy => hx y (List.mem_cons_of_mem _ hy)
    obtain ⟨W, hW⟩ : ∃ W, W = Q * Q := ⟨_, rfl⟩
    rw [← hW] at ih ⊢
    have a1 : q * x.q ≤ W := by
      rw [hW]
      exact Int.mul_le_mul hq xq (by omega) (by omega)
    have w0 : 0 ≤ W := by have := Int.mul_pos q0 h2.2.1; omega
    have a2 : W ≤ (x.p * q - p * x.q) * W := by
      have := Int.mul_le_mul_of_nonneg_right (show 1 ≤ x.p * q - p * x.q by omega) w0
      omega
    have a3 : (r.length : Int) * x.q * q ≤ (x.q - x.p) * W * q := Int.mul_le_mul_of_nonneg_right ih (by omega)
    have goal : ((r.length : Int) + 1) * q * x.q ≤ (q - p) * W * x.q := by
      have e1 : ((r.length : Int) + 1) * q * x.q = (r.length : Int) * x.q * q + q * x.q := by
        rw [Int.add_mul, Int.add_mul, Int.one_mul, Int.mul_right_comm]
      have e2 : (q - p) * W * x.q = (x.q - x.p) * W * q + (x.p * q - p * x.q) * W := by
        simp only [Int.sub_mul]
        have t1 : q * W * x.q = x.q * W * q := by simp only [Int.mul_assoc, Int.mul_comm, Int.mul_left_comm]
        have t2 : p * W * x.q = p * x.q * W := by simp only [Int.mul_assoc, Int.mul_comm, Int.mul_left_comm]
        have t3 : x.p * W * q = x.p * q * W := by simp only [Int.mul_assoc, Int.mul_comm, Int.mul_left_comm]
        omega
      omega
    rw [List.length_cons, Int.natCast_succ]
    exact Int.le_of_mul_le_mul_right goal h2.2.1
def lb (c : Nat) : Nat := max 1 (2 * c) * max 1 (2 * c)
theorem len_sl {c : Nat} {L : List St} (cn : Cn' 0 1 L) (df : Df L) (s : SlB c L) : L.length ≤ lb c := by
  have := len_den (Q := ((max 1 (2 * c) : Nat) : Int)) cn (by decide) (by omega) (den_le cn df s)
  rw [Int.mul_one, Int.sub_zero, Int.one_mul, ← Int.natCast_mul] at this
  exact Int.ofNat_le.mp this
/-! ### slopes -/
theorem hg_sl {c : Nat} {p q : Int} {u : Pc} (hx : u.x.s.natAbs ≤ c) (hy : u.y.s.natAbs ≤ c) : SlB c (hg p q u) := by
  intro z hz
  unfold hg at hz
  split at hz
  · simp only [List.mem_cons, List.not_mem_nil, or_false] at hz
    rcases hz with rfl | rfl <;> assumption
  · split at hz
    · simp only [List.mem_cons, List.not_mem_nil, or_false] at hz
      rcases hz with rfl | rfl <;> assumption
    · split at hz
      · rw [List.mem_singleton.mp hz]; assumption
      · rw [List.mem_singleton.mp hz]; assumption
theorem gr_sl {c : Nat} : ∀ (ps : List Pc) (p q : Int), (∀ u ∈ ps, u.x.s.natAbs ≤ c ∧ u.y.s.natAbs ≤ c) → SlB c (gr p q ps)
  | [], _, _, _ => fun z hz => by cases hz
  | u :: r, p, q, h => fun z hz => by
    obtain ⟨h1, h2⟩ := h u List.mem_cons_self
    rcases List.mem_append.mp hz with hz | hz
    · exact hg_sl h1 h2 z hz
    · exact gr_sl r _ _ (fun v hv => h v (List.mem_cons_of_mem _ hv)) z hz
theorem grL_sl {c : Nat} {L M : List St} (l : SlB c L) (m : SlB c M) : SlB c (grL L M) := fun z hz =>
  gr_sl _ 0 1 (fun u hu => by
    obtain ⟨j1, j2, _⟩ := (pcs_mem _ L M (Nat.le_refl _)).1 u hu
    exact ⟨l _ j1, m _ j2⟩) z (jnr_mem _ z hz)
theorem tn_sl {c : Nat} {L : List St} (l : SlB c L) : SlB c (L.map tn) := fun z hz => by
  obtain ⟨x, hx, rfl⟩ := List.mem_map.mp hz
  have := l x hx
  simp only [tn, Int.natAbs_neg]
  exact this
theorem rs_sl {c : Nat} {L : List St} (b : Int) (l : SlB c L) : SlB c (L.map (rs b)) := fun z hz => by
  obtain ⟨x, hx, rfl⟩ := List.mem_map.mp hz
  exact l x hx
theorem lsL_sl {c : Nat} {L M : List St} (l : SlB c L) (m : SlB c M) : SlB c (lsL L M) := tn_sl (grL_sl (tn_sl l) (tn_sl m))
theorem lv_sl (c : Nat) (b : Int) : SlB c (lv b) := fun z hz => by
  rw [List.mem_singleton.mp hz]
  exact Nat.zero_le _
theorem addL_sl {c d : Nat} {L M : List St} (l : SlB c L) (m : SlB d M) : SlB (c + d) (addL L M) := fun z hz => by
  obtain ⟨u, hu, rfl⟩ := List.mem_map.mp (jnr_mem _ z hz)
  obtain ⟨j1, j2, _⟩ := (pcs_mem _ L M (Nat.le_refl _)).1 u hu
  have := l _ j1
  have := m _ j2
  simp only [sm]
  omega
theorem SlB.mono {c d : Nat} {L : List St} (l : SlB c L) (h : c ≤ d) : SlB d L := fun x hx => Nat.le_trans (l x hx) h
/-! ### cut off, of longer lines -/
/-! ### folds -/
/-- a fold of worths, as the law tells it -/
def fv (w : Wo) (n a b : Int) : Int := match w with
  | .more => if a + b < n then a + b else n
  | .less => if 0 < a + b - n then a + b - n else 0
  | .greater => if a < b then b else a
  | .lesser => if b < a then b else a
  | .leads => if n - a + b < n then n - a + b else n
/-- .. of lines -/
def fl (w : Wo) (L M : List St) : List St := match w with
  | .more => coL (addL L M)
  | .less => coL ((addL L M).map (rs (-1)))
  | .greater => grL L M
  | .lesser => lsL L M
  | .leads => coL ((addL M (L.map tn)).map (rs 1))
/-- a line of a saying of at most c letters -/
structure Gdl (b c : Nat) (L : List St) : Prop where
  lin : Lin 300 b L
  in_ : ∀ a d : Int, 0 < d → 0 ≤ a → a ≤ d → 0 ≤ hv L a d ∧ hv L a d ≤ d
  sl : SlB c L
theorem Gdl.mono {b c b' c' : Nat} {L : List St} (g : Gdl b c L) (hb : b ≤ b') (hc : c ≤ c') : Gdl b' c' L := ⟨g.lin.mono (Nat.le_refl _) hb, g.in_, g.sl.mono hc⟩
theorem Gdl.lb {b c : Nat} {L : List St} (g : Gdl b c L) : L.length ≤ lb c := len_sl g.lin.cn g.lin.df g.sl
theorem lb8 : ∀ c, c ≤ 24 → lb c ≤ 2304 := by
  have : ∀ c : Fin 25, lb c.val ≤ 2304 := by decide
  exact fun c h => this ⟨c, by omega⟩
theorem lb_sum : ∀ c d, c + d ≤ 24 → lb c + lb d ≤ 2306 := by
  have : ∀ c d : Fin 25, c.val + d.val ≤ 24 → lb c.val + lb d.val ≤ 2306 := by decide
  exact fun c d h => this ⟨c, by omega⟩ ⟨d, by omega⟩ h
/-- what a fold's inner line is, ahead of cutting off -/
theorem pre_lin {b c : Nat} (hb : 1 ≤ b) (hb2 : b ≤ 294) {A : List St} (a : Lin 300 b A) (s : SlB c A) (hc : c ≤ 24) : A.length ≤ 30000 ∧ (lsL A (lv 1)).length ≤ 30000 := by
  have l1 := len_sl a.cn a.df s
  have l8 := lb8 c hc
  have b1 : Bd b 1 := (show Bd 1 1 from Bd.of (by decide)).mono hb
  have k := lv_lin (n := 300) (by decide) b1
  have ls := lsL_lin a k (by omega) (by simp only [lv, List.length_singleton]; omega)
  have l2 := len_sl ls.cn ls.df (lsL_sl s (lv_sl c 1))
  omega
end Q

/-! rows and their lines -/
namespace Q
inductive Rw where
  | p | nev | alw | nt (i : Nat) | fd (w : Wo) (i j : Nat)
  deriving DecidableEq
def Rw.d : Rw → D
  | .p => .tup [.str (S "p")]
  | .nev => .tup [.str (S "never")]
  | .alw => .tup [.str (S "always")]
  | .nt i => .tup [.str (S "not"), .int i]
  | .fd w i j => .tup [.str (S w.s), .int i, .int j]
/-- a row at place k -/
def Rw.ok (k : Nat) : Rw → Prop
  | .nt i => i < k
  | .fd _ i j => i < k ∧ j < k
  | _ => True
def RowsOk : Nat → List Rw → Prop
  | _, [] => True
  | k, r :: rs => r.ok k ∧ RowsOk (k + 1) rs
theorem RowsOk.app : ∀ {a b : List Rw} {k : Nat}, RowsOk k a → RowsOk (k + a.length) b → RowsOk k (a ++ b)
  | [], b, k, _, h => by simpa using h
  | r :: a, b, k, ⟨h1, h2⟩, h => ⟨h1, RowsOk.app h2 (by rw [List.length_cons] at h; rw [show k + 1 + a.length = k + (a.length + 1) by omega]; exact h)⟩
/-- the line of a row, of those ahead -/
def rl (ls : List (List St)) : Rw → List St
  | .p => [⟨1, 1, 1, 0⟩]
  | .nev => lv 0
  | .alw => lv 1
  | .nt i => ((ls.getD i []).map tn).map (rs 1)
  | .fd w i j => fl w (ls.getD i []) (ls.getD j [])
def rls (rows : List Rw) (acc : List (List St)) : List (List St) := rows.foldl (fun ls r => ls ++ [rl ls r]) acc
/-- what a fold's lines must be -/
structure FlH (b : Nat) (w : Wo) (L M : List St) : Prop where
  l : Lin 300 b L
  m : Lin 300 b M
  len : L.length + M.length ≤ 40000
  mo : w = .more → (addL L M).length ≤ 30000 ∧ (lsL (addL L M) (lv 1)).length ≤ 30000
  le : w = .less → ((addL L M).map (rs (-1))).length ≤ 30000 ∧ (lsL ((addL L M).map (rs (-1))) (lv 1)).length ≤ 30000
  ld : w = .leads → ((addL M (L.map tn)).map (rs 1)).length ≤ 30000 ∧ (lsL ((addL M (L.map tn)).map (rs 1)) (lv 1)).length ≤ 30000
theorem FlH.of {b c d : Nat} (hb : 1 ≤ b) (hb2 : b ≤ 290) {L M : List St} (l : Gdl b c L) (m : Gdl b d M) (h : c + d ≤ 24) (w : Wo) : FlH b w L M := by
  have lL := l.lb
  have lM := m.lb
  have ls := lb_sum c d h
  have b0 : Bd b 0 := (show Bd 1 0 from Bd.of (by decide)).mono (by omega)
  have bm1 : Bd (b + 1) (-1) := (show Bd 1 (-1) from Bd.of (by decide)).mono (by omega)
  have b2 : Bd (b + 2) 1 := (show Bd 1 1 from Bd.of (by decide)).mono (by omega)
  have a := addL_lin l.lin m.lin (by omega)
  have t : Lin 300 (b + 1) (L.map tn) := by rw [tn_gm]; exact l.lin.gm (.inr rfl) b0
  have m' := m.lin.mono (Nat.le_refl _) (show b ≤ b + 1 by omega)
  have a2 := addL_lin m' t (by rw [List.length_map]; omega)
  refine ⟨l.lin, m.lin, by omega, fun _ => pre_lin (by omega) (by omega) a (addL_sl l.sl m.sl) h, fun _ => ?_, fun _ => ?_⟩
  · exact pre_lin (b := b + 2) (by omega) (by omega) (by rw [rs_gm]; exact a.gm (.inl rfl) bm1) (rs_sl _ (addL_sl l.sl m.sl)) h
  · exact pre_lin (b := b + 3) (by omega) (by omega) (by rw [rs_gm]; exact a2.gm (.inl rfl) b2) (rs_sl _ ((addL_sl m.sl (tn_sl l.sl)).mono (by omega))) h
structure KMean (T : Tab) : Prop where
  cut : KCut T
  added : T.fn "lineworks.added" = some f_lineworks_added
  raised : T.fn "lineworks.raised" = some f_lineworks_raised
  fold : T.fn "meanings.fold_line" = some f_meanings_fold_line
  row : T.fn "meanings.row_line" = some f_meanings_row_line
  last : T.fn "meanings.last_line" = some f_meanings_last_line
  letter : T.con "meanings.LETTER_LINE" = some (.tup [.tup [.tup [.int 1, .int 1], .int 1, .int 0]])
end Q

/-! rows: whether they are such, their last line -/
namespace Q
def RowH (b : Nat) (ls : List (List St)) : Rw → Prop
  | .nt i => (ls.getD i []).length ≤ 80000
  | .fd w i j => FlH b w (ls.getD i []) (ls.getD j [])
  | _ => True
def AllH (b : Nat) : List (List St) → List Rw → Prop
  | _, [] => True
  | ls, r :: rs => (r.ok ls.length ∧ RowH b ls r) ∧ AllH b (ls ++ [rl ls r]) rs
/-! ### rows looked at -/
structure KRow (T : Tab) : Prop where
  place : T.fn "rows.is_place" = some f_rows_is_place
  row : T.fn "rows.is_row" = some f_rows_is_row
  fault : T.fn "rows.rows_fault" = some f_rows_rows_fault
  most : T.con "rows.MOST" = some (.int 400)
  plain : T.con "rows.PLAIN" = some (.tup [.str (S "never"), .str (S "always"), .str (S "p"), .str (S "q")])
  folds : T.con "rows.FOLDS" = some (.tup [.str (S "more"), .str (S "less"), .str (S "greater"), .str (S "lesser"), .str (S "leads")])
theorem in_strs {h : Hs} (x : PySem.Str) : ∀ l : List PySem.Str, inSeq h (.str x) (l.map .str) = some (l.any (· == x))
  | [] => by simp [inSeq, rsv, rsF]
  | y :: l => by simp [inSeq, in_strs x l, eqv, rsv, rsF, ddep, deq]
theorem isin_strs {h : Hs} (x : PySem.Str) (l : List PySem.Str) : Cop.run .isin (.str x) (.tup (l.map .str)) h = .ok (.bl (l.any (· == x))) h := by
  simp only [Cop.run, isIn, in_strs x l, opt_some]
structure KRows (T : Tab) : Prop where
  mean : KMean T
  row : KRow T
  rows : T.fn "meanings.line_of_rows" = some f_meanings_line_of_rows
end Q

/-! objects of trees, worths by a law, points -/
namespace Q
section
variable {h : Hs}
@[simp] theorem mkO_Never : mkO .Never [] h = .ok (.obj .Never []) h := rfl
@[simp] theorem mkO_Always : mkO .Always [] h = .ok (.obj .Always []) h := rfl
@[simp] theorem mkO_Letter (x : D) : mkO .Letter [x] h = .ok (.obj .Letter [x]) h := rfl
@[simp] theorem mkO_Not (x : D) : mkO .Not [x] h = .ok (.obj .Not [x]) h := rfl
@[simp] theorem mkO_More (x y : D) : mkO .More [x, y] h = .ok (.obj .More [x, y]) h := rfl
@[simp] theorem mkO_Less (x y : D) : mkO .Less [x, y] h = .ok (.obj .Less [x, y]) h := rfl
@[simp] theorem mkO_Greater (x y : D) : mkO .Greater [x, y] h = .ok (.obj .Greater [x, y]) h := rfl
@[simp] theorem mkO_Lesser (x y : D) : mkO .Lesser [x, y] h = .ok (.obj .Lesser [x, y]) h := rfl
@[simp] theorem mkO_Leads (x y : D) : mkO .Leads [x, y] h = .ok (.obj .Leads [x, y]) h := rfl
@[simp] theorem mkDic_nil (t : Bool) : mkDic t [] h = .ok (.ref h.length) (h ++ [.dic t []]) := rfl
end
/-! ### a tree's object -/
structure KObj (T : Tab) : Prop where
  text : T.fn "_law_text" = some f__law_text
  obj : T.fn "_law_object" = some f__law_object_v2
  ot : T.fn "_law_of_tree" = some f__law_of_tree
/-- what is kept: texts of trees and their objects -/
def KInv (kvs : List (D × D)) : Prop := ∀ p ∈ kvs, ∃ t : Tr, p = (.str t.tx, t.o)
theorem dlook_mem {k v : D} : ∀ {l : List (D × D)}, dlook k l = some v → ∃ a, (a, v) ∈ l ∧ deq a k = true
  | [], h => by simp [dlook] at h
  | (a, w) :: r, h => by
    simp only [dlook] at h
    split at h
    · rename_i e
      cases h
      exact ⟨a, List.mem_cons_self, e⟩
    · obtain ⟨b, h1, h2⟩ := dlook_mem h
      exact ⟨b, List.mem_cons_of_mem _ h1, h2⟩
theorem dput_mem {k v : D} {p : D × D} : ∀ {l : List (D × D)}, p ∈ dput k v l → p ∈ l ∨ p = (k, v) ∨ ∃ a w, (a, w) ∈ l ∧ deq a k = true ∧ p = (a, v)
  | [], h => by simp [dput] at h; exact .inr (.inl h)
  | (a, w) :: r, h => by
    simp only [dput] at h
    split at h
    · rename_i e
      rcases List.mem_cons.mp h with h | h
      · exact .inr (.inr ⟨a, w, List.mem_cons_self, e, h⟩)
      · exact .inl (List.mem_cons_of_mem _ h)
    · rcases List.mem_cons.mp h with h | h
      · exact .inl (h ▸ List.mem_cons_self)
      · rcases dput_mem h with h | h | ⟨b, u, h1, h2, h3⟩
        · exact .inl (List.mem_cons_of_mem _ h)
        · exact .inr (.inl h)
        · exact .inr (.inr ⟨b, u, List.mem_cons_of_mem _ h1, h2, h3⟩)
theorem deq_tx {t u : Tr} (h : deq (.str t.tx) (.str u.tx) = true) : t = u := by
  simp only [deq, beq_iff_eq] at h
  exact tx_inj h
theorem KInv.look {kvs : List (D × D)} (K : KInv kvs) {t : Tr} {v : D} (h : dlook (.str t.tx) kvs = some v) : v = t.o := by
  obtain ⟨a, h1, h2⟩ := dlook_mem h
  obtain ⟨u, e⟩ := K _ h1
  cases e
  rw [deq_tx h2]
theorem KInv.put {kvs : List (D × D)} (K : KInv kvs) (t : Tr) : KInv (dput (.str t.tx) t.o kvs) := by
  intro p hp
  rcases dput_mem hp with h | h | ⟨a, w, h1, h2, h3⟩
  · exact K p h
  · exact ⟨t, h⟩
  · obtain ⟨u, e⟩ := K _ h1
    cases e
    exact ⟨t, by rw [h3, deq_tx h2]⟩
/-! ### points -/
end Q

/-! rows, looked at: any things -/
namespace Q
/-- the number of a row ahead of a place -/
def isPl (at_ : Int) : D → Bool
  | .int i => decide (0 ≤ i) && decide (i < at_)
  | _ => false
def plainW : List PySem.Str := [S "never", S "always", S "p", S "q"]
def foldW : List PySem.Str := [S "more", S "less", S "greater", S "lesser", S "leads"]
def arity (w : PySem.Str) : Int := if plainW.any (· == w) then 1 else if w == S "not" then 2 else if foldW.any (· == w) then 3 else 0
/-- can a thing be the row at a place? -/
def isRo (at_ : Int) : D → Bool
  | .tup (.str w :: ds) => decide ((ds.length : Int) + 1 = arity w) && ds.all (isPl at_)
  | _ => false
/-- a thing: plain, or a list or a dict -/
def Th (h : Hs) (d : D) : Prop := flat d = true ∨ ∃ n o, d = .ref n ∧ h[n]? = some o
theorem Th.mono {h h' : Hs} {d : D} (t : Th h d) (g : Gr h h') : Th h' d := by
  rcases t with t | ⟨n, o, e, t⟩
  · exact .inl t
  · exact .inr ⟨n, o, e, g.at t⟩
theorem place_g {T : Tab} (K : KRow T) (k : Nat) (h : Hs) {d : D} (fd : flat d = true) (at_ : Int) : call T (k + 1) "rows.is_place" [d, .int at_] h = .ok (.bl (isPl at_ d)) h := by
  rw [call_eq K.place rfl]
  show SR.fin (exB ⟨T, call T k⟩ f_rows_is_place.body [some d, some (.int at_)] h) = _
  cases d with
  | int i =>
    by_cases c : (0 : Int) ≤ i
    · simp [f_rows_is_place, isTys, isTy, c, isPl]
    · simp [f_rows_is_place, isTys, isTy, c, isPl]
  | obj _ _ => simp [flat] at fd
  | ref _ => simp [flat] at fd
  | lv _ => simp [flat] at fd
  | _ => simp [f_rows_is_place, isTys, isTy, isPl]
theorem flats_mem : ∀ {ds : List D}, flats ds = true → ∀ d ∈ ds, flat d = true
  | [], _, d, h => by cases h
  | x :: ds, h, d, hd => by
    simp only [flats, Bool.and_eq_true] at h
    rcases List.mem_cons.mp hd with e | hd
    · exact e ▸ h.1
    · exact flats_mem h.2 d hd
/-- the numbers of a row are looked at -/
theorem pls_ok {T : Tab} (K : KRow T) (k : Nat) (h : Hs) (w0 v2 : D) {ds : List D} (fd : flats ds = true) (hl : ds.length ≤ 1000) (at_ : Int) : kComp ⟨T, call T (k + 1)⟩ [some w0, some (.int at_), some v2, none] (.call "rows.is_place" (.cons (.v 3) (.cons (.v 1) .nil))) (.one 3) .none [3] (.ok ⟨ds, fun _ => True⟩ h) = .ok (.ref h.length) (h ++ [.lst (ds.map fun d => D.bl (isPl at_ d))]) :=
  kComp_mapL (w := ⟨ds, fun _ => True⟩) ds id (fun d => .bl (isPl at_ d)) (by simp) trivial (fun d hd => ⟨_, rfl, by
    have p := place_g K k h (flats_mem fd d hd) at_
    simp only [wipe, List.set_cons_succ, List.set_cons_zero, evE_call, evs_cons, evE_v, getL_succ, getL_zero, kVar_some, kCons1_ok, evs_nil, kCons2_ok, kCall_ok, id, p]⟩) (by simp [SZ]; omega)
theorem all_pls {h : Hs} {at_ : Int} (ds : List D) {n : Nat} (q : h[n]? = some (.lst (ds.map fun d => D.bl (isPl at_ d)))) : Bi.run .all [.ref n] h = .ok (.bl (ds.all (isPl at_))) h := by
  rw [all_lst q (boolsL_map _ _)]
  simp [Function.comp_def]
theorem is_row_g {T : Tab} (K : KRow T) (k : Nat) (h : Hs) {d : D} (td : Th h d) (hl : ∀ ds, d = .tup ds → ds.length ≤ 1000) (at_ : Int) : ∃ G, call T (k + 2) "rows.is_row" [d, .int at_] h = .ok (.bl (isRo at_ d)) (h ++ G) := by
  have P : ∀ x, Cop.run .isin (.str x) (.tup [.str (S "never"), .str (S "always"), .str (S "p"), .str (S "q")]) h = .ok (.bl (plainW.any (· == x))) h := fun x => isin_strs x plainW
  have Fo : ∀ x, Cop.run .isin (.str x) (.tup [.str (S "more"), .str (S "less"), .str (S "greater"), .str (S "lesser"), .str (S "leads")]) h = .ok (.bl (foldW.any (· == x))) h := fun x => isin_strs x foldW
  have go : ∀ G, SR.fin (exB ⟨T, call T (k + 1)⟩ f_rows_is_row.body [some d, some (.int at_), none, none] h) = .ok (.bl (isRo at_ d)) (h ++ G) → ∃ G, call T (k + 2) "rows.is_row" [d, .int at_] h = .ok (.bl (isRo at_ d)) (h ++ G) := fun G e => ⟨G, by rw [call_eq K.row rfl]; exact e⟩
  rcases td with fd | ⟨n, o, rfl, hn⟩
  · cases d with
    | obj _ _ => simp [flat] at fd
    | ref _ => simp [flat] at fd
    | lv _ => simp [flat] at fd
    | tup ds =>
      cases ds with
      | nil => exact go [] (by simp [f_rows_is_row, isTys, isTy, isRo])
      | cons x ds =>
        have nz : ¬ (((ds.length + 1 : Nat) : Int) = 0) := by omega
        cases x with
        | str w =>
          simp only [flat, flats, Bool.true_and] at fd
          have ld := hl _ rfl
          simp only [List.length_cons] at ld
          have c0 := fun v2 => pls_ok K k h (.tup (.str w :: ds)) v2 fd (by omega) at_
          have a0 := all_pls (h := h ++ [.lst (ds.map fun d => D.bl (isPl at_ d))]) (at_ := at_) ds (n := h.length) (by simp)
          have size : exB ⟨T, call T (k + 1)⟩ f_rows_is_row.body [some (.tup (.str w :: ds)), some (.int at_), none, none] h = exB ⟨T, call T (k + 1)⟩ (dropB 3 f_rows_is_row.body) [some (.tup (.str w :: ds)), some (.int at_), some (.int (arity w)), none] h := by
            have Pw := P w
            have Fw := Fo w
            have nz' : ¬ ((ds.length : Int) + 1 = 0) := by omega
            unfold arity
            by_cases c1 : plainW.any (· == w) = true
            · rw [c1] at Pw ⊢
              simp [f_rows_is_row, isTys, isTy, nz', K.plain, Pw, dropB]
            · rw [Bool.not_eq_true] at c1
              rw [c1] at Pw ⊢
              by_cases c2 : (w == S "not") = true
              · simp [f_rows_is_row, isTys, isTy, nz', K.plain, Pw, dropB, c2]
              · rw [Bool.not_eq_true] at c2
                by_cases c3 : foldW.any (· == w) = true
                · rw [c3] at Fw ⊢
                  simp [f_rows_is_row, isTys, isTy, nz', K.plain, K.folds, Pw, Fw, dropB, c2]
                · rw [Bool.not_eq_true] at c3
                  rw [c3] at Fw ⊢
                  simp [f_rows_is_row, isTys, isTy, nz', K.plain, K.folds, Pw, Fw, dropB, c2]
          have cc : cut (D.str w :: ds) (some 1) none = ds := cut1 _ _
          by_cases c : (ds.length : Int) + 1 = arity w
          · refine go [.lst (ds.map fun d => D.bl (isPl at_ d))] ?_
            rw [size]
            simp [dropB, f_rows_is_row, c, slice, cc, c0, a0, isRo]
          · refine go [] ?_
            rw [size]
            simp [dropB, f_rows_is_row, c, isRo]
        | obj _ _ => simp [flat, flats] at fd
        | ref _ => simp [flat, flats] at fd
        | lv _ => simp [flat, flats] at fd
        | _ =>
          have nz' : ¬ ((ds.length : Int) + 1 = 0) := by omega
          exact go [] (by simp [f_rows_is_row, isTys, isTy, isRo, nz'])
    | _ => exact go [] (by simp [f_rows_is_row, isTys, isTy, isRo])
  · cases o with
    | lst _ => exact go [] (by simp [f_rows_is_row, isTys, isTy, isRo, hn])
    | frz _ => exact go [] (by simp [f_rows_is_row, isTys, isTy, isRo, hn])
    | dic _ _ => exact go [] (by simp [f_rows_is_row, isTys, isTy, isRo, hn])
/-- the first thing that can be no row there -/
def faultF : Nat → List D → Option Nat
  | _, [] => none
  | i, d :: ds => if 400 ≤ i ∨ isRo i d = false then some i else faultF (i + 1) ds
def faultO (ds : List D) : Option Nat := if ds = [] then some 0 else faultF 0 ds
def optD : Option Nat → D
  | none => .non
  | some i => .int i
theorem fault_g {T : Tab} (K : KRow T) (k : Nat) {h : Hs} {n : Nat} {ds : List D} (g : h[n]? = some (.lst ds)) (td : ∀ d ∈ ds, Th h d ∧ ∀ es, d = .tup es → es.length ≤ 1000) : ∃ G, call T (k + 3) "rows.rows_fault" [.ref n] h = .ok (optD (faultO ds)) (h ++ G) := by
  have loop : ∀ (rs : List D) (i : Nat) (z : Hs) (v1 v2 : Option D), (∀ d ∈ rs, d ∈ ds) → Gr h z → ∃ z', Gr h z' ∧
      (faultF i rs = none → ∃ v1' v2', forE ⟨T, call T (k + 2)⟩ (.many [1, 2]) (forBody (headB (dropB 1 f_rows_rows_fault.body))) (fun z => z[n]? = some (.lst ds)) (enumL i rs) [some (.ref n), v1, v2] z = .nx [some (.ref n), v1', v2'] z') ∧
      (∀ j, faultF i rs = some j → forE ⟨T, call T (k + 2)⟩ (.many [1, 2]) (forBody (headB (dropB 1 f_rows_rows_fault.body))) (fun z => z[n]? = some (.lst ds)) (enumL i rs) [some (.ref n), v1, v2] z = .rt (.int (j : Int)) z') := by
    intro rs
    induction rs with
    | nil => intro i z v1 v2 _ gz; exact ⟨z, gz, fun _ => ⟨v1, v2, forE_nil (gz.at g)⟩, fun j e => by simp [faultF] at e⟩
    | cons r rs ih =>
      intro i z v1 v2 hm gz
      obtain ⟨t1, t2⟩ := td r (hm r List.mem_cons_self)
      obtain ⟨G, e⟩ := is_row_g K k z (t1.mono gz) t2 (i : Int)
      have as_ : asg (.many [1, 2]) (.tup [.int (i : Int), r]) [some (.ref n), v1, v2] = some [some (.ref n), some (.int (i : Int)), some r] := rfl
      simp only [enumL]
      by_cases c : 400 ≤ i ∨ isRo i r = false
      · have ff : faultF i (r :: rs) = some i := by simp only [faultF]; rw [if_pos c]
        by_cases c1 : 400 ≤ i
        · refine ⟨z, gz, fun e => (by rw [ff] at e; cases e), fun j ej => ?_⟩
          rw [ff] at ej
          cases ej
          have c2 : (400 : Int) ≤ (i : Int) := by omega
          exact forE_rt (gz.at g) as_ (by
            simp only [f_rows_rows_fault, dropB, headB, forBody]
            generalize (i : Int) = ii at *
            simp [K.most, c2])
        · have c2 : ¬ ((400 : Int) ≤ (i : Int)) := by omega
          have c3 : isRo i r = false := by rcases c with c | c; exact absurd c c1; exact c
          rw [c3] at e
          refine ⟨z ++ G, gz.trans (Gr.app z G), fun e => (by rw [ff] at e; cases e), fun j ej => ?_⟩
          rw [ff] at ej
          cases ej
          exact forE_rt (gz.at g) as_ (by
            simp only [f_rows_rows_fault, dropB, headB, forBody]
            generalize (i : Int) = ii at *
            simp [K.most, c2, e])
      · have ff : faultF i (r :: rs) = faultF (i + 1) rs := by simp only [faultF]; rw [if_neg c]
        have c2 : ¬ ((400 : Int) ≤ (i : Int)) := fun z => c (.inl (by omega))
        have c3 : isRo i r = true := by
          cases q : isRo i r with
          | true => rfl
          | false => exact absurd (.inr q) c
        rw [c3] at e
        obtain ⟨z', gz', h1, h2⟩ := ih (i + 1) (z ++ G) (some (.int (i : Int))) (some r) (fun d hd => hm d (List.mem_cons_of_mem _ hd)) (gz.trans (Gr.app z G))
        have st := forE_nx (C := ⟨T, call T (k + 2)⟩) (tg := .many [1, 2]) (a := forBody (headB (dropB 1 f_rows_rows_fault.body))) (ok := fun z => z[n]? = some (.lst ds)) (ds := enumL (i + 1) rs) (s3 := [some (.ref n), some (.int (i : Int)), some r]) (h3 := z ++ G) (gz.at g) as_ (by
          simp only [f_rows_rows_fault, dropB, headB, forBody]
          generalize (i : Int) = ii at *
          simp [K.most, c2, e])
        rw [ff, st]
        exact ⟨z', gz', h1, h2⟩
  obtain ⟨z', gz, h1, h2⟩ := loop ds 0 h none none (fun d hd => hd) (Gr.refl h)
  obtain ⟨G, rfl⟩ := gz
  have ll := len_lst g
  have w := show enumOf h (.ref n) = some ⟨enumL 0 ds, fun z => z[n]? = some (.lst ds)⟩ by simp [enumOf, walkSq_lst g]
  by_cases c0 : ds = []
  · subst c0
    refine ⟨[], ?_⟩
    rw [call_eq K.fault rfl]
    simp [f_rows_rows_fault, start, List.replicate_succ, ll, faultO, optD]
  · have n0 : ¬ ((ds.length : Int) = 0) := fun z => c0 (List.length_eq_zero_iff.mp (by omega))
    refine ⟨G, ?_⟩
    have fo : faultO ds = faultF 0 ds := if_neg c0
    rw [fo]
    simp only [f_rows_rows_fault, dropB, headB, forBody] at h1 h2
    generalize (ds.length : Int) = rl at *
    rw [call_eq K.fault rfl]
    cases q : faultF 0 ds with
    | none =>
      obtain ⟨v1, v2, e⟩ := h1 q
      simp [f_rows_rows_fault, start, List.replicate_succ, ll, n0, w, e, optD]
    | some j =>
      have e := h2 j q
      simp [f_rows_rows_fault, start, List.replicate_succ, ll, n0, w, e, optD]
end Q

/-! a tree made on a stack -/
namespace Q
def Tr.w : Tr → String
  | .nev => "never"
  | .alw => "always"
  | .lt q => Tr.ls q
  | _ => ""
def Tr.lf : Tr → Bool
  | .nt _ | .fd _ _ _ => false
  | _ => true
section
variable {h G : Hs}
theorem atS (xs : List D) : (h ++ .lst xs :: G)[h.length]? = some (.lst xs) := by simp
theorem pushL (xs : List D) (v : D) (l : xs.length < SZ) : Bm.run .append (.ref h.length) [v] (h ++ .lst xs :: G) = .ok .non (h ++ .lst (xs ++ [v]) :: G) := by
  rw [append_lst (atS _) l]; simp
theorem bkS (xs : List D) (f : Bm) : bmK f (.ref h.length) (h ++ .lst xs :: G) = (f.rk == .l) := bmK_lst f (atS _)
end
structure KTree (T : Tab) : Prop where
  cell : T.fn "_law_cell" = some f__law_cell
  size : T.fn "_law_size" = some f__law_size
  tree : T.fn "_law_tree" = some f__law_tree
def elB : Sm → Bl
  | .ite _ _ b => b
  | _ => .nil
def treeFor : Bl := bodyB (nthB 1 f__law_tree.body)
def tA : Sm := nthB 3 treeFor
def tB : Sm := nthB 0 (elB tA)
def tC : Sm := nthB 0 (elB tB)
def Leaves (h : Hs) (lv : Nat) (ls : List Tr) : Prop := h[lv]? = some (.lst (ls.map fun t => .str (S t.w))) ∧ ls ≠ [] ∧ (∀ t ∈ ls, t.lf = true) ∧ ls.length ≤ 100
end Q

/-! a tree made on a stack: the loops -/
namespace Q
end Q

/-! worths of rows -/
namespace Q
def Ro.ok (k : Nat) : Ro → Prop
  | .nt i => i < k
  | .fd _ i j => i < k ∧ j < k
  | _ => True
def RoOk : Nat → List Ro → Prop
  | _, [] => True
  | k, r :: rs => r.ok k ∧ RoOk (k + 1) rs
theorem RoOk.app : ∀ {a b : List Ro} {k : Nat}, RoOk k a → RoOk (k + a.length) b → RoOk k (a ++ b)
  | [], b, k, _, h => by simpa using h
  | r :: a, b, k, ⟨h1, h2⟩, h => ⟨h1, RoOk.app h2 (by rw [List.length_cons] at h; rw [show k + 1 + a.length = k + (a.length + 1) by omega]; exact h)⟩
theorem Ro.isRo {k : Nat} {r : Ro} (ok : r.ok k) : isRo (k : Int) r.d = true := by
  cases r with
  | nev => simp [Ro.d, Q.isRo, arity, plainW]
  | alw => simp [Ro.d, Q.isRo, arity, plainW]
  | lt q => cases q <;> simp [Ro.d, Q.isRo, arity, plainW, Tr.ls]
  | nt i =>
    have h1 : (i : Int) < (k : Int) := by have : i < k := ok; omega
    simp [Ro.d, Q.isRo, arity, plainW, isPl, h1]
  | fd w i j =>
    have h1 : (i : Int) < (k : Int) := by have := ok.1; omega
    have h2 : (j : Int) < (k : Int) := by have := ok.2; omega
    cases w <;> simp [Ro.d, Q.isRo, arity, plainW, foldW, isPl, h1, h2, Wo.s] <;> omega
def rw1 (n x y : Int) (vs : List Int) : Ro → Int
  | .nev => 0
  | .alw => n
  | .lt q => if q = true then y else x
  | .nt i => n - vs.getD i 0
  | .fd w i j => w.wo n (vs.getD i 0) (vs.getD j 0)
def rws (n x y : Int) : List Ro → List Int → List Int
  | [], acc => acc
  | r :: rs, acc => rws n x y rs (acc ++ [rw1 n x y acc r])
theorem Ro.range {n x y : Int} (hx : 0 ≤ x ∧ x ≤ n) (hy : 0 ≤ y ∧ y ≤ n) {vs : List Int} (hv : ∀ v ∈ vs, 0 ≤ v ∧ v ≤ n) {r : Ro} (ok : r.ok vs.length) : 0 ≤ rw1 n x y vs r ∧ rw1 n x y vs r ≤ n := by
  have g : ∀ i, i < vs.length → 0 ≤ vs.getD i 0 ∧ vs.getD i 0 ≤ n := fun i hi => by
    rw [List.getD_eq_getElem?_getD, List.getElem?_eq_getElem hi]
    exact hv _ (List.getElem_mem hi)
  cases r with
  | nev => simp only [rw1]; omega
  | alw => simp only [rw1]; omega
  | lt q => cases q <;> simp [rw1] <;> omega
  | nt i => have := g i ok; simp only [rw1]; omega
  | fd w i j => exact w.range (g i ok.1) (g j ok.2)
/-! ### a dict of the plain words -/
structure KWr (T : Tab) : Prop where
  row : KRow T
  asked : T.fn "rows.asked_rows" = some f_rows_asked_rows
  isp : T.fn "points.is_point" = some f_points_is_point
  fold : T.fn "rows.fold_out_of" = some f_rows_fold_out_of
  worth : T.fn "rows.worth_of_rows" = some f_rows_worth_of_rows
end Q

/-! the hull laws' numbers: cells, drawn numbers, points, rules -/
namespace Q
end Q

/-! rows, looked at by the laws: any things -/
namespace Q
structure KLr (T : Tab) : Prop where
  whole : T.fn "_law_whole" = some f__law_whole
  row : T.fn "_law_row" = some f__law_row
  fault : T.fn "_law_fault" = some f__law_fault_v2
def isInt : D → Bool
  | .int _ => true
  | _ => false
theorem lwhole_g {T : Tab} (hW : T.fn "_law_whole" = some f__law_whole) (k : Nat) (h : Hs) {d : D} (fd : flat d = true) : call T (k + 1) "_law_whole" [d] h = .ok (.bl (isInt d)) h := by
  rw [call_eq hW rfl]
  show SR.fin (exB ⟨T, call T k⟩ f__law_whole.body [some d] h) = _
  cases d with
  | obj _ _ => simp [flat] at fd
  | ref _ => simp [flat] at fd
  | lv _ => simp [flat] at fd
  | _ => simp [f__law_whole, isTys, isTy, isInt]
/-- the numbers of a row -/
theorem lpls_ok {T : Tab} (hW : T.fn "_law_whole" = some f__law_whole) (k : Nat) (h : Hs) (w0 v2 : D) {ds : List D} (fd : flats ds = true) (hl : ds.length ≤ 1000) (at_ : Int) :
    kComp ⟨T, call T (k + 1)⟩ [some w0, some (.int at_), some v2, none] (.and (.cons (.call "_law_whole" (.cons (.v 3) .nil)) (.cons (.chn .le .lt (.k (.int 0)) (.v 3) (.v 1)) .nil))) (.one 3) .none [3] (.ok ⟨ds, fun _ => True⟩ h) = .ok (.ref h.length) (h ++ [.lst (ds.map fun d => D.bl (isPl at_ d))]) :=
  kComp_mapL (w := ⟨ds, fun _ => True⟩) ds id (fun d => .bl (isPl at_ d)) (by simp) trivial (fun d hd => ⟨_, rfl, by
    have p := lwhole_g hW k h (flats_mem fd d hd)
    cases d with
    | int i =>
      simp only [isInt] at p
      by_cases c : (0 : Int) ≤ i
      · simp [wipe, p, c, isPl]
      · simp [wipe, p, c, isPl]
    | _ =>
      simp only [isInt] at p
      simp [wipe, p, isPl]⟩) (by simp [SZ]; omega)
theorem fold_not {w : PySem.Str} (h : foldW.any (· == w) = true) : plainW.any (· == w) = false ∧ (w == S "not") = false := by
  simp only [foldW, List.any_cons, List.any_nil, Bool.or_false, Bool.or_eq_true, beq_iff_eq] at h
  rcases h with rfl | rfl | rfl | rfl | rfl <;> simp [plainW]
theorem not_plain {w : PySem.Str} (h : (w == S "not") = true) : plainW.any (· == w) = false := by
  rw [beq_iff_eq] at h
  subst h; simp [plainW]
def lrL1 : O := .lst [.str (S "never"), .str (S "always"), .str (S "p"), .str (S "q")]
def lrL2 : O := .lst [.str (S "not")]
def lrL3 : O := .lst [.str (S "more"), .str (S "less"), .str (S "greater"), .str (S "lesser"), .str (S "leads")]
def lrb (i : Nat) : Sm := nthB i f__law_row.body
theorem lrb_eb : f__law_row.body = .cons (lrb 0) (.cons (lrb 1) (.cons (lrb 2) (.cons (lrb 3) .nil))) := rfl
theorem lrb1 {C : Cl} {h : Hs} {d a : D} : exS C (lrb 1) [some d, some a, none, none] h = .nx [some d, some a, some (.ref (h.length + 3)), none] (h ++ [lrL1, lrL2, lrL3, .lst [.ref h.length, .ref (h.length + 1), .ref (h.length + 2)]]) := by
  simp [lrb, nthB, f__law_row, lrL1, lrL2, lrL3]
theorem isin_lst {h : Hs} {n : Nat} {l : List PySem.Str} (g : h[n]? = some (.lst (l.map .str))) (x : PySem.Str) : Cop.run .notin (.str x) (.ref n) h = .ok (.bl (!l.any (· == x))) h := by
  have e := in_strs (h := h) x l
  simp only [Cop.run, isIn, g, e, opt]
theorem law_row_g {T : Tab} (K : KLr T) (k : Nat) (h : Hs) {d : D} (td : Th h d) (at_ : Int) : ∃ G, call T (k + 2) "_law_row" [d, .int at_] h = .ok (.bl (isRo at_ d)) (h ++ G) := by
  have go : ∀ G, SR.fin (exB ⟨T, call T (k + 1)⟩ f__law_row.body [some d, some (.int at_), none, none] h) = .ok (.bl (isRo at_ d)) (h ++ G) → ∃ G, call T (k + 2) "_law_row" [d, .int at_] h = .ok (.bl (isRo at_ d)) (h ++ G) := fun G e => ⟨G, by rw [call_eq K.row rfl]; exact e⟩
  have no : isRo at_ d = false → exS ⟨T, call T (k + 1)⟩ (lrb 0) [some d, some (.int at_), none, none] h = .rt (.bl false) h → ∃ G, call T (k + 2) "_law_row" [d, .int at_] h = .ok (.bl (isRo at_ d)) (h ++ G) := fun e1 e2 => go [] (by
    rw [lrb_eb, exB_cons, e2, kThen_rt, fin_rt, e1, List.append_nil])
  rcases td with fd | ⟨n, o, rfl, hn⟩
  · cases d with
    | obj _ _ => simp [flat] at fd
    | ref _ => simp [flat] at fd
    | lv _ => simp [flat] at fd
    | tup ds =>
      have lens : ∀ i : Int, Cop.run .notin (.int i) (.tup [.int 1, .int 2, .int 3]) h = .ok (.bl (!(decide (1 = i) || (decide (2 = i) || decide (3 = i))))) h := fun i => by
        simp [Cop.run, isIn, inSeq, eqv, rsv, rsF, ddep, deq, opt]
        congr 1
      cases ds with
      | nil => exact no rfl (by simp [lrb, nthB, f__law_row, isTys, isTy, lens])
      | cons x ds =>
        by_cases hl : ds.length ≤ 2
        rotate_left
        · refine no ?_ ?_
          · cases x <;> simp only [isRo]
            rename_i w
            have : ¬ ((ds.length : Int) + 1 = arity w) := by unfold arity; split <;> (try split) <;> (try split) <;> omega
            simp [this]
          · have l1 : ¬ ((1 : Int) = (ds.length : Int) + 1) := by omega
            have l2 : ¬ ((2 : Int) = (ds.length : Int) + 1) := by omega
            have l3 : ¬ ((3 : Int) = (ds.length : Int) + 1) := by omega
            simp [lrb, nthB, f__law_row, isTys, isTy, lens, l1, l2, l3]
        have l123 : (decide ((1 : Int) = (ds.length : Int) + 1) || (decide ((2 : Int) = (ds.length : Int) + 1) || decide ((3 : Int) = (ds.length : Int) + 1))) = true := by
          simp only [Bool.or_eq_true, decide_eq_true_eq]; omega
        have lens' := lens ((ds.length : Int) + 1)
        rw [l123] at lens'
        cases x with
        | str w =>
          simp only [flat, flats, Bool.true_and] at fd
          have s0 : exS ⟨T, call T (k + 1)⟩ (lrb 0) [some (.tup (.str w :: ds)), some (.int at_), none, none] h = .nx [some (.tup (.str w :: ds)), some (.int at_), none, none] h := by
            simp [lrb, nthB, f__law_row, isTys, isTy, lens']
          have h2e : ∀ (h2 : Hs) (l : List PySem.Str) (j : Nat), h2 = h ++ [lrL1, lrL2, lrL3, .lst [.ref h.length, .ref (h.length + 1), .ref (h.length + 2)]] → j < 3 → (ds.length : Int) + 1 - 1 = (j : Int) → h2[h.length + j]? = some (.lst (l.map .str)) → (l.any (· == w) = decide ((ds.length : Int) + 1 = arity w)) →
              ∃ G, call T (k + 2) "_law_row" [.tup (.str w :: ds), .int at_] h = .ok (.bl (isRo at_ (.tup (.str w :: ds)))) (h ++ G) := by
            intro h2 l j e2 hj ej gl ea
            have g3 : getI (.ref (h.length + 3)) (.int ((ds.length : Int) + 1 - 1)) h2 = .ok (.ref (h.length + j)) h2 := by
              rw [getI_lst (xs := [.ref h.length, .ref (h.length + 1), .ref (h.length + 2)]) (by rw [e2, List.getElem?_append_right (by omega)]; simp), ej]
              have : j = 0 ∨ j = 1 ∨ j = 2 := by omega
              rcases this with rfl | rfl | rfl <;> rfl
            rw [Int.add_sub_cancel] at g3
            have ni := isin_lst gl w
            rw [ea] at ni
            have c0 := fun v2 => lpls_ok K.whole k h2 (.tup (.str w :: ds)) v2 fd (by omega) at_
            have a0 := all_pls (h := h2 ++ [.lst (ds.map fun d => D.bl (isPl at_ d))]) (at_ := at_) ds (n := h2.length) (by simp)
            have cc : cut (D.str w :: ds) (some 1) none = ds := cut1 _ _
            by_cases c : (ds.length : Int) + 1 = arity w
            · have c' : decide ((ds.length : Int) + 1 = arity w) = true := by simpa using c
              rw [c'] at ni
              refine go ([lrL1, lrL2, lrL3, .lst [.ref h.length, .ref (h.length + 1), .ref (h.length + 2)]] ++ [.lst (ds.map fun d => D.bl (isPl at_ d))]) ?_
              rw [lrb_eb, exB_cons, s0, kThen_nx, exB_cons, lrb1, ← e2, kThen_nx, ← List.append_assoc, ← e2]
              generalize h2.length = z at *
              generalize ds.map (fun d => D.bl (isPl at_ d)) = zs at *
              have er : isRo at_ (.tup (.str w :: ds)) = ds.all (isPl at_) := by simp [isRo, c]
              rw [er]
              clear c c' ea er
              simp [lrb, nthB, f__law_row, g3, ni, slice, cc, c0, a0]
            · have c' : decide ((ds.length : Int) + 1 = arity w) = false := by simpa using c
              rw [c'] at ni
              refine go [lrL1, lrL2, lrL3, .lst [.ref h.length, .ref (h.length + 1), .ref (h.length + 2)]] ?_
              rw [lrb_eb, exB_cons, s0, kThen_nx, exB_cons, lrb1, ← e2, kThen_nx]
              have er : isRo at_ (.tup (.str w :: ds)) = false := by simp [isRo, c]
              rw [er]
              simp [lrb, nthB, f__law_row, g3, ni]
          have : ds.length = 0 ∨ ds.length = 1 ∨ ds.length = 2 := by omega
          rcases this with q | q | q
          · refine h2e _ plainW 0 rfl (by decide) (by rw [q]; rfl) (by rw [List.getElem?_append_right (by omega)]; simp [lrL1, plainW]) ?_
            rw [q]
            unfold arity
            by_cases c : plainW.any (· == w) = true
            · rw [if_pos c, c]; rfl
            · rw [if_neg c]
              rw [Bool.not_eq_true] at c
              rw [c]
              split
              · rfl
              · split <;> rfl
          · refine h2e _ [S "not"] 1 rfl (by decide) (by rw [q]; rfl) (by rw [List.getElem?_append_right (by omega)]; simp [lrL2]) ?_
            rw [q]
            unfold arity
            have e : ([S "not"].any (· == w)) = (w == S "not") := by
              simp only [List.any_cons, List.any_nil, Bool.or_false]; exact Bool.beq_comm ..
            rw [e]
            by_cases c : (w == S "not") = true
            · rw [not_plain c, c]; rfl
            · rw [Bool.not_eq_true] at c
              rw [c]
              split
              · rfl
              · simp only [Bool.false_eq_true, if_false]
                split <;> rfl
          · refine h2e _ foldW 2 rfl (by decide) (by rw [q]; rfl) (by rw [List.getElem?_append_right (by omega)]; simp [lrL3, foldW]) ?_
            rw [q]
            unfold arity
            by_cases c : foldW.any (· == w) = true
            · rw [(fold_not c).1, (fold_not c).2, c]; rfl
            · rw [Bool.not_eq_true] at c
              rw [c]
              split
              · rfl
              · split <;> rfl
        | obj _ _ => simp [flat, flats] at fd
        | ref _ => simp [flat, flats] at fd
        | lv _ => simp [flat, flats] at fd
        | _ => exact no rfl (by simp [lrb, nthB, f__law_row, isTys, isTy, lens'])
    | _ => exact no rfl (by simp [lrb, nthB, f__law_row, isTys, isTy])
  · cases o with
    | lst _ => exact no rfl (by simp [lrb, nthB, f__law_row, isTys, isTy, hn])
    | frz _ => exact no rfl (by simp [lrb, nthB, f__law_row, isTys, isTy, hn])
    | dic _ _ => exact no rfl (by simp [lrb, nthB, f__law_row, isTys, isTy, hn])
end Q

/-! rows of straight lines: the program's walk -/
namespace Q
/-- what a place is kept for: a slope, a height, up or down -/
abbrev K3 := Nat × Int × Bool
def k3D (k : K3) : D := .tup [.int (k.1 : Int), .int k.2.1, .bl k.2.2]
theorem k3_deq (a b : K3) : deq (k3D a) (k3D b) = decide (a = b) := by
  obtain ⟨s, h, u⟩ := a
  obtain ⟨s', h', u'⟩ := b
  have e3 : (s = s' ∧ h = h' ∧ u = u') ↔ ((s, h, u) : K3) = (s', h', u') := by simp [Prod.mk.injEq]
  simp only [k3D, deq, deqs, Bool.and_true]
  rw [nbeq]
  by_cases e : s = s'
  · by_cases f : h = h'
    · by_cases g : u = u'
      · subst e f g; simp
      · have : ¬ (((s, h, u) : K3) = (s', h', u')) := fun z => g (e3.mpr z).2.2
        simp [e, f, g]
    · have : ¬ (((s, h, u) : K3) = (s', h', u')) := fun z => f (e3.mpr z).2.1
      simp [e, f]
  · simp [e]
theorem k3_ro (a : K3) (r : Ro) : deq (k3D a) r.d = false := by
  cases r <;> simp [k3D, Ro.d, deq, deqs]
theorem ro_k3 (a : K3) (r : Ro) : deq r.d (k3D a) = false := by
  cases r <;> simp [k3D, Ro.d, deq, deqs]
inductive Kk where
  | ro (x : Ro) | ky (x : K3)
  deriving DecidableEq
def Kk.d : Kk → D
  | .ro x => x.d
  | .ky x => k3D x
theorem Kk.deq : ∀ a b : Kk, deq a.d b.d = decide (a = b)
  | .ro a, .ro b => by simp only [Kk.d, Ro.deq, Kk.ro.injEq]
  | .ky a, .ky b => by simp only [Kk.d, k3_deq, Kk.ky.injEq]
  | .ro a, .ky b => by simp only [Kk.d, ro_k3]; simp
  | .ky a, .ro b => by simp only [Kk.d, k3_ro]; simp
theorem Kk.kOk : ∀ a : Kk, kOk true a.d = true
  | .ro x => x.kOk
  | .ky x => rfl
def kl (k : Kk) (es : List (Kk × Nat)) : Option Nat := match es with
  | [] => none
  | (a, i) :: r => if a = k then some i else kl k r
def kd (es : List (Kk × Nat)) : List (D × D) := es.map fun e => (e.1.d, .int (e.2 : Int))
/-- the rows, what is known -/
structure S2 where
  rows : List Ro
  es : List (Kk × Nat)
def entS (st : S2) (r : Ro) : S2 × Nat := match kl (.ro r) st.es with
  | some i => (st, i)
  | none => (⟨st.rows ++ [r], st.es ++ [(.ro r, st.rows.length)]⟩, st.rows.length)
def letS (up : Bool) (st : S2) : S2 × Nat := if up then entS st (.lt false) else entS (entS st (.lt false)).1 (.nt (entS st (.lt false)).2)
def rise : Nat → Int → Bool → S2 → S2 × Nat
  | 0, h, up, st => if 1 ≤ h then entS st .alw else entS st .nev
  | s + 1, h, up, st => if 1 ≤ h then entS st .alw else if (s + 1 : Int) + h ≤ 0 then entS st .nev else match kl (.ky (s + 1, h, up)) st.es with
    | some i => (st, i)
    | none =>
      let a := rise s h up st
      let b := letS up a.1
      let c := entS b.1 (.fd .more a.2 b.2)
      let d := rise s (h + 1) up c.1
      let e := entS d.1 (.fd .less c.2 d.2)
      (⟨e.1.rows, e.1.es ++ [(.ky (s + 1, h, up), e.2)]⟩, e.2)
def strai (slope height : Int) (st : S2) : S2 × Nat := if slope < 0 then rise (-slope).toNat (height + slope) false st else rise slope.toNat height true st
/-! sizes, keys -/
structure S2.le (a b : S2) (n : Nat) : Prop where
  r : ∃ x, b.rows = a.rows ++ x
  e : ∃ y, b.es = a.es ++ y
  rl : b.rows.length ≤ a.rows.length + n
  el : b.es.length ≤ a.es.length + n
theorem S2.le.refl (a : S2) (n : Nat) : a.le a n := ⟨⟨[], by simp⟩, ⟨[], by simp⟩, by omega, by omega⟩
theorem S2.le.trans {a b c : S2} {n m : Nat} (h : a.le b n) (g : b.le c m) : a.le c (n + m) := by
  obtain ⟨⟨x, e1⟩, ⟨y, e2⟩, e3, e4⟩ := h
  obtain ⟨⟨x', f1⟩, ⟨y', f2⟩, f3, f4⟩ := g
  exact ⟨⟨x ++ x', by rw [f1, e1, List.append_assoc]⟩, ⟨y ++ y', by rw [f2, e2, List.append_assoc]⟩, by omega, by omega⟩
theorem S2.le.mono {a b : S2} {n m : Nat} (h : a.le b n) (l : n ≤ m) : a.le b m := ⟨h.r, h.e, by have := h.rl; omega, by have := h.el; omega⟩
/-! the heap -/
def upS (h : Hs) (n m : Nat) (st : S2) : Hs := (h.set n (.lst (st.rows.map Ro.d))).set m (.dic true (kd st.es))
theorem upS_n {h : Hs} {n m : Nat} (nm : n ≠ m) (hn : n < h.length) (st : S2) : (upS h n m st)[n]? = some (.lst (st.rows.map Ro.d)) := by
  unfold upS
  rw [List.getElem?_set_ne (Ne.symm nm), List.getElem?_set_self hn]
theorem upS_m {h : Hs} {n m : Nat} (hm : m < h.length) (st : S2) : (upS h n m st)[m]? = some (.dic true (kd st.es)) := by
  unfold upS
  rw [List.getElem?_set_self (by simpa using hm)]
structure AtS (h : Hs) (n m : Nat) (st : S2) : Prop where
  nm : n ≠ m
  n : h[n]? = some (.lst (st.rows.map Ro.d))
  m : h[m]? = some (.dic true (kd st.es))
theorem AtS.up {h : Hs} {n m : Nat} {st : S2} (a : AtS h n m st) (st2 : S2) : AtS (upS h n m st2) n m st2 :=
  ⟨a.nm, upS_n a.nm (List.getElem?_eq_some_iff.mp a.n).1 _, upS_m (List.getElem?_eq_some_iff.mp a.m).1 _⟩
section
variable {h : Hs}
end
structure KStr (T : Tab) : Prop where
  place : T.fn "rows.place_of" = some f_rows_place_of
  letr : T.fn "straights.letter_at" = some f_straights_letter_at
  rise : T.fn "straights.put_rising" = some f_straights_put_rising
  strai : T.fn "straights.put_straight" = some f_straights_put_straight
  last : T.fn "straights.with_last" = some f_straights_with_last
end Q

/-! rows of straight lines told -/
namespace Q
def st0 : S2 := ⟨[], []⟩
structure KStr2 (T : Tab) : Prop extends KStr T where
  rows : T.fn "straights.straight_rows" = some f_straights_straight_rows
  steep : T.con "straights.STEEPEST" = some (.int 12)
end Q

/-! rows of few letters: their lines are as high as they are worth -/
namespace Q
def cnt (cs : List Nat) : Rw → Nat
  | .p => 1
  | .nev | .alw => 0
  | .nt i => cs.getD i 0
  | .fd _ i j => cs.getD i 0 + cs.getD j 0
def CRows : List Nat → List Rw → Prop
  | _, [] => True
  | cs, r :: rs => (r.ok cs.length ∧ cnt cs r ≤ 24) ∧ CRows (cs ++ [cnt cs r]) rs
theorem CRows.ok : ∀ {rs : List Rw} {cs : List Nat}, CRows cs rs → RowsOk cs.length rs
  | [], _, _ => trivial
  | r :: rs, cs, ⟨⟨h1, _⟩, h⟩ => ⟨h1, by have := CRows.ok h; simpa using this⟩
/-- the worth of a row, of those ahead -/
def rv (n x : Int) (vs : List Int) : Rw → Int
  | .p => x
  | .nev => 0
  | .alw => n
  | .nt i => n - vs.getD i 0
  | .fd w i j => fv w n (vs.getD i 0) (vs.getD j 0)
def rvs (n x : Int) (rs : List Rw) (acc : List Int) : List Int := rs.foldl (fun vs r => vs ++ [rv n x vs r]) acc
/-! ### worths as the law tells them -/
end Q

/-! a line held against rows -/
namespace Q
structure KRi (T : Tab) : Prop where
  is_ : KIs T
  height : T.fn "_law_height" = some f__law_height
  folded : T.fn "_law_folded" = some f__law_folded
  worths : T.fn "_law_worths" = some f__law_worths
  as_ : T.fn "_law_as" = some f__law_as_v5
  right : T.fn "_law_right" = some f__law_right
end Q

/-! a saying's rows, told by the sayings that they stand for -/
namespace Q
def Tr.subs : Tr → List Tr
  | .nev => [.nev]
  | .alw => [.alw]
  | .lt q => [.lt q]
  | .nt t => .nt t :: t.subs
  | .fd w a b => .fd w a b :: (a.subs ++ b.subs)
/-- the saying of a row, of those of the rows ahead -/
def tr1 (ts : List Tr) : Ro → Tr
  | .nev => .nev
  | .alw => .alw
  | .lt q => .lt q
  | .nt i => .nt (ts.getD i .nev)
  | .fd w i j => .fd w (ts.getD i .nev) (ts.getD j .nev)
def trl : List Ro → List Tr → List Tr
  | [], acc => acc
  | r :: rs, acc => trl rs (acc ++ [tr1 acc r])
/-- what putting a saying does -/
structure Put (t : Tr) (rows rows' : List Ro) (i : Nat) : Prop where
  pre : ∃ e, rows' = rows ++ e
  ok : RoOk 0 rows'
  lt : i < rows'.length
  at_ : (trl rows' [])[i]? = some t
  new : ∀ u ∈ trl rows' [], u ∈ trl rows [] ∨ u ∈ t.subs
/-! ### without the letter q -/
def toRw : Ro → Rw
  | .nev => .nev
  | .alw => .alw
  | .lt _ => .p
  | .nt i => .nt i
  | .fd w i j => .fd w i j
def noQ (r : Ro) : Prop := r ≠ .lt true
theorem toRw_ok {r : Ro} {k : Nat} (h : r.ok k) : (toRw r).ok k := by cases r <;> first | trivial | exact h
end Q

/-! rows of straight lines: what they mean -/
namespace Q
/-! ### a check that a list is a line -/
/-! ### straight lines, cut off -/
def gI (a b : Nat) : Int := (Int.gcd a b : Nat)
/-- t steep; from 0 (or 1, downward) it leaves at u / t -/
def cU (t u : Nat) (up : Bool) : List St :=
  (if 0 < u then [⟨(u : Int) / gI u t, (t : Int) / gI u t, 0, if up then 0 else 1⟩] else []) ++
  ([⟨((u + 1 : Nat) : Int) / gI (u + 1) t, (t : Int) / gI (u + 1) t, if up then (t : Int) else -(t : Int), if up then -(u : Int) else (u : Int) + 1⟩] ++
  (if u + 1 < t then [⟨1, 1, 0, if up then 1 else 0⟩] else []))
def cC (s : Nat) (h : Int) (up : Bool) : List St := if 1 ≤ h then lv 1 else if (s : Int) + h ≤ 0 then lv 0 else cU s (if up then (-h).toNat else (h + s - 1).toNat) up
end Q

/-! rows and their lines, one behind another -/
namespace Q
theorem getD_appL {α : Type} {ls y : List α} {i : Nat} (h : i < ls.length) (d : α) : (ls ++ y).getD i d = ls.getD i d := by
  simp [List.getD, List.getElem?_append_left h]
theorem rl_app {r : Ro} {ls y : List (List St)} (ok : r.ok ls.length) : rl (ls ++ y) (toRw r) = rl ls (toRw r) := by
  cases r with
  | nt i =>
    have h : i < ls.length := ok
    simp only [toRw, rl, getD_appL h]
  | fd w i j =>
    have h := ok.1
    have g := ok.2
    simp only [toRw, rl, getD_appL h, getD_appL g]
  | _ => rfl
theorem rowH_app {b : Nat} {r : Ro} {ls y : List (List St)} (ok : r.ok ls.length) : RowH b (ls ++ y) (toRw r) ↔ RowH b ls (toRw r) := by
  cases r with
  | nt i =>
    have h : i < ls.length := ok
    simp only [toRw, RowH, getD_appL h]
  | fd w i j =>
    have h := ok.1
    have g := ok.2
    simp only [toRw, RowH, getD_appL h, getD_appL g]
  | _ => exact Iff.rfl
theorem rw1_app {n x y : Int} {r : Ro} {vs us : List Int} (ok : r.ok vs.length) : rw1 n x y (vs ++ us) r = rw1 n x y vs r := by
  cases r with
  | nt i =>
    have h : i < vs.length := ok
    simp only [rw1, getD_appL h]
  | fd w i j =>
    have h := ok.1
    have g := ok.2
    simp only [rw1, getD_appL h, getD_appL g]
  | _ => rfl
theorem ok_mono {r : Ro} {k l : Nat} (ok : r.ok k) (h : k ≤ l) : r.ok l := by
  cases r with
  | nt i => exact Nat.lt_of_lt_of_le ok h
  | fd w i j => exact ⟨Nat.lt_of_lt_of_le ok.1 h, Nat.lt_of_lt_of_le ok.2 h⟩
  | _ => trivial
abbrev hvs (ls : List (List St)) (x n : Int) : List Int := ls.map fun L => hv L x n
/-- a row that may be put -/
structure Cnd (ls : List (List St)) (k : Nat) (r : Ro) : Prop where
  ok : r.ok k
  nq : noQ r
  rh : RowH 290 ls (toRw r)
  hv : ∀ x n : Int, 0 < n → 0 ≤ x → x ≤ n → hv (rl ls (toRw r)) x n = rw1 n x 0 (hvs ls x n) r
theorem Cnd.app {ls y : List (List St)} {k : Nat} {r : Ro} (c : Cnd ls k r) (h : k ≤ ls.length) : Cnd (ls ++ y) k r := by
  have ok := ok_mono c.ok h
  refine ⟨c.ok, c.nq, (rowH_app ok).mpr c.rh, fun x n hn h0 hx => ?_⟩
  rw [rl_app ok, c.hv x n hn h0 hx]
  unfold hvs
  rw [List.map_append, rw1_app (by rw [List.length_map]; exact ok)]
structure Rls (rows : List Ro) (ls : List (List St)) : Prop where
  len : rows.length = ls.length
  at_ : ∀ i r, rows[i]? = some r → Cnd ls i r ∧ ls[i]? = some (rl ls (toRw r))
theorem Rls.nil : Rls [] [] := ⟨rfl, fun i r h => by simp at h⟩
theorem Rls.snoc {rows : List Ro} {ls : List (List St)} (g : Rls rows ls) {r : Ro} (c : Cnd ls ls.length r) : Rls (rows ++ [r]) (ls ++ [rl ls (toRw r)]) := by
  refine ⟨by simp [g.len], fun i q h => ?_⟩
  rcases Nat.lt_or_ge i rows.length with hi | hi
  · rw [List.getElem?_append_left hi] at h
    obtain ⟨a, b⟩ := g.at_ i q h
    have hl : i < ls.length := by rw [← g.len]; exact hi
    refine ⟨a.app (by omega), ?_⟩
    rw [List.getElem?_append_left hl, b, rl_app (ok_mono a.ok (by omega))]
  · have e : i = rows.length := by
      have := (List.getElem?_eq_some_iff.mp h).1
      simp at this; omega
    subst e
    rw [List.getElem?_append_right (Nat.le_refl _), Nat.sub_self] at h
    cases h
    refine ⟨by rw [g.len]; exact c.app (Nat.le_refl _), ?_⟩
    rw [g.len, List.getElem?_append_right (Nat.le_refl _), Nat.sub_self, rl_app c.ok]; rfl
/-! ### the state -/
def EsOk (rows : List Ro) (ls : List (List St)) (e : Kk × Nat) : Prop := match e.1 with
  | .ro r => rows[e.2]? = some r
  | .ky k => ls[e.2]? = some (cC k.1 k.2.1 k.2.2) ∧ k.1 ≤ 12
structure Rlt (st : S2) (ls : List (List St)) : Prop where
  g : Rls st.rows ls
  es : ∀ e ∈ st.es, EsOk st.rows ls e
theorem EsOk.app {rows : List Ro} {ls : List (List St)} {e : Kk × Nat} (h : EsOk rows ls e) (x : List Ro) (y : List (List St)) : EsOk (rows ++ x) (ls ++ y) e := by
  obtain ⟨k, i⟩ := e
  cases k with
  | ro r =>
    have h : rows[i]? = some r := h
    show (rows ++ x)[i]? = some r
    rw [List.getElem?_append_left (List.getElem?_eq_some_iff.mp h).1]; exact h
  | ky k =>
    have h : ls[i]? = some (cC k.1 k.2.1 k.2.2) ∧ k.1 ≤ 12 := h
    refine ⟨?_, h.2⟩
    show (ls ++ y)[i]? = _
    rw [List.getElem?_append_left (List.getElem?_eq_some_iff.mp h.1).1]; exact h.1
/-! ### from such lists: what the laws ask -/
theorem Rls.main {rows : List Ro} {ls : List (List St)} (g : Rls rows ls) : ∀ (rest : List Ro) (k : Nat), rows.drop k = rest → k ≤ rows.length →
    RoOk k rest ∧ AllH 290 (ls.take k) (rest.map toRw) ∧ rls (rest.map toRw) (ls.take k) = ls ∧ ∀ x n : Int, 0 < n → 0 ≤ x → x ≤ n → rws n x 0 rest (hvs (ls.take k) x n) = hvs ls x n
  | [], k, hd, hk => by
    have e : k = rows.length := by
      have := List.drop_eq_nil_iff.mp hd
      omega
    have e2 : ls.take k = ls := by rw [e, g.len, List.take_length]
    rw [e2]
    exact ⟨trivial, trivial, rfl, fun _ _ _ _ _ => rfl⟩
  | r :: rest, k, hd, hk => by
    have hr : rows[k]? = some r := by
      have := congrArg (fun l => l[0]?) hd
      simpa using this
    have hk' : k < rows.length := (List.getElem?_eq_some_iff.mp hr).1
    obtain ⟨c, e⟩ := g.at_ k r hr
    have hl : k < ls.length := by rw [← g.len]; exact hk'
    have tl : (ls.take k).length = k := by rw [List.length_take]; omega
    have sp : ls = ls.take k ++ ls.drop k := (List.take_append_drop k ls).symm
    have okk : r.ok (ls.take k).length := by rw [tl]; exact c.ok
    have e1 : rl (ls.take k) (toRw r) = rl ls (toRw r) := by
      have := rl_app (ls := ls.take k) (y := ls.drop k) okk
      rw [List.take_append_drop] at this
      exact this.symm
    have e2 : RowH 290 (ls.take k) (toRw r) := by
      have := rowH_app (b := 290) (ls := ls.take k) (y := ls.drop k) okk
      rw [List.take_append_drop] at this
      exact this.mp c.rh
    have e3 : ls.take k ++ [rl (ls.take k) (toRw r)] = ls.take (k + 1) := by
      rw [e1, List.take_add_one, e]; rfl
    obtain ⟨i1, i2, i3, i4⟩ := g.main rest (k + 1) (by rw [← List.tail_drop, hd]; rfl) (by omega)
    refine ⟨⟨c.ok, i1⟩, ⟨⟨by rw [tl]; exact toRw_ok c.ok, e2⟩, by rw [e3]; exact i2⟩, ?_, fun x n hn h0 hx => ?_⟩
    · show rls (rest.map toRw) (ls.take k ++ [rl (ls.take k) (toRw r)]) = ls
      rw [e3]; exact i3
    · show rws n x 0 rest (hvs (ls.take k) x n ++ [rw1 n x 0 (hvs (ls.take k) x n) r]) = _
      have e4 : rw1 n x 0 (hvs (ls.take k) x n) r = hv (rl ls (toRw r)) x n := by
        rw [c.hv x n hn h0 hx]
        have := rw1_app (n := n) (x := x) (y := 0) (r := r) (vs := hvs (ls.take k) x n) (us := hvs (ls.drop k) x n) (by rw [List.length_map]; exact okk)
        rw [← List.map_append, List.take_append_drop] at this
        exact this.symm
      have e5 : hvs (ls.take k) x n ++ [hv (rl ls (toRw r)) x n] = hvs (ls.take (k + 1)) x n := by
        unfold hvs
        rw [← e1, ← e3, List.map_append]; rfl
      rw [e4, e5]
      exact i4 x n hn h0 hx
end Q

/-! rows of straight lines: how many -/
namespace Q
def kys (st : S2) : List K3 := st.es.filterMap fun e => match e.1 with
  | .ky k => some k
  | .ro _ => none
def bs (st : S2) : Nat := (if (kl (.ro .nev) st.es).isSome then 1 else 0) + (if (kl (.ro .alw) st.es).isSome then 1 else 0)
/-- rows beyond what is told for -/
def ov (st : S2) : Int := (st.rows.length : Int) - 4 * ((kys st).length : Int) - (bs st : Int)
/-- the keys, each once -/
structure Kin (P : K3 → Prop) (st : S2) : Prop where
  nd : (kys st).Nodup
  in_ : ∀ k ∈ kys st, P k
end Q

/-! rows by a law's cells, their worths reckoned by a law -/
namespace Q
/-! ### rows by cells -/
def lfR : Tr → Ro
  | .alw => .alw
  | .lt q => .lt q
  | _ => .nev
theorem lfR_d {t : Tr} (h : t.lf = true) : (lfR t).d = .tup [.str (S t.w)] := by
  cases t <;> first | rfl | (simp [Tr.lf] at h)
def lrB : Bl := forBody (headB (dropB 1 f__law_rows.body))
theorem lr_head {C : Cl} {H : Hs} {c n : Int} (n0 : 0 ≤ n) (at_ : Int) (ce : C.call "_law_cell" [.ref 0, .int (at_ + n)] H = .ok (.int c) H) (v2 v3 v4 v6 v7 v8 : Option D) :
    ∃ one other : Int, (0 < n → (0 ≤ one ∧ one < n) ∧ (0 ≤ other ∧ other < n)) ∧ exB C lrB [some (.ref 0), some (.int at_), v2, v3, v4, some (.int n), v6, v7, v8] H = exB C (dropB 4 lrB) [some (.ref 0), some (.int at_), v2, v3, v4, some (.int n), some (.int c), some (.int one), some (.int other)] H := by
  have d16 : divB 16 := by decide
  have d64 : divB 64 := by decide
  have d8192 : divB 8192 := by decide
  have d32768 : divB 32768 := by decide
  obtain ⟨m3, hm3⟩ : ∃ m, m = if 3 < n then 3 else n := ⟨_, rfl⟩
  obtain ⟨M, hM⟩ : ∃ m, m = if 1 < m3 then m3 else 1 := ⟨_, rfl⟩
  obtain ⟨N, hN⟩ : ∃ m, m = if 1 < n then n else 1 := ⟨_, rfl⟩
  have M1 : 1 ≤ M := by rw [hM]; split <;> omega
  have N1 : 1 ≤ N := by rw [hN]; split <;> omega
  have Mn : 0 < n → M ≤ n := fun z => by rw [hM, hm3]; split <;> split <;> omega
  have Nn : 0 < n → N = n := fun z => by rw [hN]; split <;> omega
  have Mz : M ≠ 0 := by omega
  have Nz : N ≠ 0 := by omega
  have f1 := Int.fmod_nonneg_of_pos (c.fdiv 16) (show 0 < M by omega)
  have f2 := Int.fmod_lt_of_pos (c.fdiv 16) (show 0 < M by omega)
  have e1 := Int.fmod_nonneg_of_pos (c.fdiv 32768) (show 0 < N by omega)
  have e2 := Int.fmod_lt_of_pos (c.fdiv 32768) (show 0 < N by omega)
  have g1 := Int.fmod_nonneg_of_pos (c.fdiv 64) (show 0 < N by omega)
  have g2 := Int.fmod_lt_of_pos (c.fdiv 64) (show 0 < N by omega)
  have mn : Bi.run .min [.int n, .int 3] H = .ok (.int m3) H := by rw [hm3]; rfl
  have mx : Bi.run .max [.int 1, .int m3] H = .ok (.int M) H := by rw [hM]; rfl
  have mx2 : Bi.run .max [.int 1, .int n] H = .ok (.int N) H := by rw [hN]; rfl
  clear hM hN hm3
  by_cases q : (c.fdiv 8192).fmod 4 = 1
  · refine ⟨(c.fdiv 32768).fmod N, (c.fdiv 64).fmod N, fun z => ?_, ?_⟩
    · have := Nn z; omega
    · simp only [lrB, f__law_rows, dropB, headB, forBody]
      simp only [exB_cons, exS_set, exS_ite, evE_call, evs_cons, evE_v, getL_succ, getL_zero, kVar_some, kCons1_ok, evE_bin, kBin1_ok, kBin2_ok, run_add, evs_nil, kCons2_ok, kCall_ok, ce, kSet_ok, kThen_nx, List.set_cons_succ, List.set_cons_zero, run_sub, evE_k, evE_b, kB_ok, mn, mx, mx2, run_fdiv (show (16 : Int) ≠ 0 by decide) d16, run_fdiv (show (64 : Int) ≠ 0 by decide) d64, run_fdiv (show (8192 : Int) ≠ 0 by decide) d8192, run_fdiv (show (32768 : Int) ≠ 0 by decide) d32768, run_mod Mz, run_mod Nz, run_mod (show (4 : Int) ≠ 0 by decide), evT_eq, evE_cmp, kCmp1_ok, kCmp2_ok, run_eqI, q, decide_true, kTru_ok, tru_bl, kTru2_some, kIf_t, exB_nil]
  · refine ⟨n - 1 - (c.fdiv 16).fmod M, (c.fdiv 64).fmod N, fun z => ?_, ?_⟩
    · have := Nn z; have := Mn z; omega
    · simp only [lrB, f__law_rows, dropB, headB, forBody]
      simp only [exB_cons, exS_set, exS_ite, evE_call, evs_cons, evE_v, getL_succ, getL_zero, kVar_some, kCons1_ok, evE_bin, kBin1_ok, kBin2_ok, run_add, evs_nil, kCons2_ok, kCall_ok, ce, kSet_ok, kThen_nx, List.set_cons_succ, List.set_cons_zero, run_sub, evE_k, evE_b, kB_ok, mn, mx, mx2, run_fdiv (show (16 : Int) ≠ 0 by decide) d16, run_fdiv (show (64 : Int) ≠ 0 by decide) d64, run_fdiv (show (8192 : Int) ≠ 0 by decide) d8192, run_fdiv (show (32768 : Int) ≠ 0 by decide) d32768, run_mod Mz, run_mod Nz, run_mod (show (4 : Int) ≠ 0 by decide), evT_eq, evE_cmp, kCmp1_ok, kCmp2_ok, run_eqI, q, decide_false, kTru_ok, tru_bl, kTru2_some, kIf_f, exB_nil]
theorem lr_turn {T : Tab} (hC : T.fn "_law_cell" = some f__law_cell) (k : Nat) {h : Hs} {ns : List Int} (h0 : h[0]? = some (.frz (ns.map .int))) (S_ : Scr ns) {lv : Nat} {ls : List Tr} (L : Leaves h lv ls) (G : Hs) (rs : List Ro) (hl : rs.length ≤ 1000) (at_ : Int) (a0 : 0 ≤ at_) (a1 : at_ ≤ 1000) (v2 v6 v7 v8 : Option D) :
    ∃ (r : Ro) (G' : Hs) (v6' v7' v8' : Option D), r.ok rs.length ∧
      exB ⟨T, call T (k + 1)⟩ lrB [some (.ref 0), some (.int at_), v2, some (.ref lv), some (.ref h.length), some (.int (rs.length : Int)), v6, v7, v8] (h ++ .lst (rs.map Ro.d) :: G) =
        .nx [some (.ref 0), some (.int at_), v2, some (.ref lv), some (.ref h.length), some (.int (rs.length : Int)), v6', v7', v8'] (h ++ .lst ((rs ++ [r]).map Ro.d) :: G') := by
  obtain ⟨l1, l2, l3, l4⟩ := L
  have ce := cell_ok hC (h := h ++ .lst (rs.map Ro.d) :: G) ((Gr.app h _).at h0) S_ k (at_ + rs.length) (by omega) (Bd.of (by omega))
  generalize cellV ns (at_ + rs.length) = c at ce
  obtain ⟨one, other, rg, eh⟩ := lr_head (C := ⟨T, call T (k + 1)⟩) (H := h ++ .lst (rs.map Ro.d) :: G) (c := c) (n := (rs.length : Int)) (by omega) at_ ce v2 (some (.ref lv)) (some (.ref h.length)) v6 v7 v8
  rw [eh]
  have ll : (0 : Int) < ls.length := by have := List.length_pos_iff.mpr l2; omega
  have lz : (ls.length : Int) ≠ 0 := by omega
  have le1 := len_lst (h := h ++ .lst (rs.map Ro.d) :: G) ((Gr.app h _).at l1)
  rw [List.length_map] at le1
  have d16 : divB 16 := by decide
  have d1024 : divB 1024 := by decide
  have bk : ∀ G (f : Bm), bmK f (.ref h.length) (h ++ O.lst (rs.map Ro.d) :: G) = (f.rk == .l) := fun G f => bkS (G := G) _ f
  have pu := fun G v => pushL (h := h) (G := G) (rs.map Ro.d) v (by simp [SZ]; omega)
  simp only [List.map_append, List.map_cons, List.map_nil]
  have bkG := bk G
  by_cases leaf : c.fmod 16 < 3 ∨ rs.length = 0
  · have f1 := Int.fmod_nonneg_of_pos (c.fdiv 16) ll
    have f2 := Int.fmod_lt_of_pos (c.fdiv 16) ll
    obtain ⟨t, ht, glf⟩ : ∃ t ∈ ls, getI (.ref lv) (.int ((c.fdiv 16).fmod ls.length)) (h ++ O.lst (rs.map Ro.d) :: G) = .ok (.str (S t.w)) (h ++ O.lst (rs.map Ro.d) :: G) := by
      rw [getI_lst ((Gr.app h _).at l1), atI_nat f1 (by simpa using f2)]
      refine ⟨ls[((c.fdiv 16).fmod ls.length).toNat]'(by omega), List.getElem_mem _, by simp [opt]⟩
    have hR := lfR_d (l3 t ht)
    have pl := pu G (.tup [.str (S t.w)])
    refine ⟨lfR t, G, some (.int c), some (.int one), some (.int other), ?_, ?_⟩
    · have := l3 t ht
      cases t <;> first | trivial | (simp [Tr.lf] at this)
    · rw [hR]
      have ez : ¬ (c.fmod 16 < 3) → (rs.length : Int) = 0 := fun z => by rcases leaf with q | q; exact absurd q z; omega
      generalize (rs.length : Int) = n at *
      generalize rs.map Ro.d = RS at *
      generalize h ++ O.lst RS :: G = H at *
      generalize S t.w = tw at *
      generalize (ls.length : Int) = lsl at *
      by_cases q : c.fmod 16 < 3
      · simp [lrB, f__law_rows, dropB, headB, forBody, run_fdiv, run_mod, d16, q, le1, lz, glf, bkG, Bm.rk, pl]
      · have := ez q
        subst this
        simp [lrB, f__law_rows, dropB, headB, forBody, run_fdiv, run_mod, d16, q, le1, lz, glf, bkG, Bm.rk, pl]
  · have q1 : ¬ (c.fmod 16 < 3) := fun z => leaf (.inl z)
    have q2 : ¬ ((rs.length : Int) = 0) := fun z => leaf (.inr (by omega))
    obtain ⟨⟨o1, o2⟩, o3, o4⟩ := rg (by omega)
    obtain ⟨i, rfl⟩ := Int.eq_ofNat_of_zero_le o1
    obtain ⟨j, rfl⟩ := Int.eq_ofNat_of_zero_le o3
    by_cases q : c.fmod 16 < 5
    · have pl := pu G (Ro.nt i).d
      refine ⟨.nt i, G, some (.int c), some (.int i), some (.int j), show i < rs.length by omega, ?_⟩
      simp only [Ro.d] at pl ⊢
      generalize (rs.length : Int) = n at *
      generalize rs.map Ro.d = RS at *
      generalize h ++ O.lst RS :: G = H at *
      generalize (i : Int) = ii at *
      generalize (j : Int) = jj at *
      simp [lrB, f__law_rows, dropB, headB, forBody, run_fdiv, run_mod, d16, q, q1, q2, bkG, Bm.rk, pl]
    · have w1 := Int.fmod_nonneg_of_pos (c.fdiv 1024) (show (0 : Int) < 5 by decide)
      have w2 := Int.fmod_lt_of_pos (c.fdiv 1024) (show (0 : Int) < 5 by decide)
      have wa := words_at _ w1 w2
      have gw : getI (.ref (h ++ O.lst (rs.map Ro.d) :: G).length) (.int ((c.fdiv 1024).fmod 5)) (h ++ O.lst (rs.map Ro.d) :: (G ++ [.lst [.str (S "more"), .str (S "less"), .str (S "greater"), .str (S "lesser"), .str (S "leads")]])) = .ok (.str (S (Wo.of ((c.fdiv 1024).fmod 5)).s)) (h ++ O.lst (rs.map Ro.d) :: (G ++ [.lst [.str (S "more"), .str (S "less"), .str (S "greater"), .str (S "lesser"), .str (S "leads")]])) := by
        rw [getI_lst (xs := [.str (S "more"), .str (S "less"), .str (S "greater"), .str (S "lesser"), .str (S "leads")]) (by rw [show h ++ O.lst (rs.map Ro.d) :: (G ++ [O.lst [.str (S "more"), .str (S "less"), .str (S "greater"), .str (S "lesser"), .str (S "leads")]]) = h ++ O.lst (rs.map Ro.d) :: G ++ [O.lst [.str (S "more"), .str (S "less"), .str (S "greater"), .str (S "lesser"), .str (S "leads")]] by simp]; simp), wa]
        rfl
      have pl := pu (G ++ [.lst [.str (S "more"), .str (S "less"), .str (S "greater"), .str (S "lesser"), .str (S "leads")]]) (Ro.fd (Wo.of ((c.fdiv 1024).fmod 5)) i j).d
      refine ⟨.fd (Wo.of ((c.fdiv 1024).fmod 5)) i j, G ++ [.lst [.str (S "more"), .str (S "less"), .str (S "greater"), .str (S "lesser"), .str (S "leads")]], some (.int c), some (.int i), some (.int j), ⟨by omega, by omega⟩, ?_⟩
      simp only [Ro.d] at pl ⊢
      have ea : h ++ O.lst (rs.map Ro.d) :: G ++ [O.lst [.str (S "more"), .str (S "less"), .str (S "greater"), .str (S "lesser"), .str (S "leads")]] = h ++ O.lst (rs.map Ro.d) :: (G ++ [O.lst [.str (S "more"), .str (S "less"), .str (S "greater"), .str (S "lesser"), .str (S "leads")]]) := by simp
      generalize (rs.length : Int) = n at *
      generalize rs.map Ro.d = RS at *
      generalize (i : Int) = ii at *
      generalize (j : Int) = jj at *
      generalize S (Wo.of ((c.fdiv 1024).fmod 5)).s = tw at *
      generalize h ++ O.lst RS :: (G ++ [O.lst [.str (S "more"), .str (S "less"), .str (S "greater"), .str (S "lesser"), .str (S "leads")]]) = H2 at *
      generalize h ++ O.lst RS :: G = H at *
      simp only [lrB, f__law_rows, dropB, headB, forBody]
      simp [run_fdiv, run_mod, d16, d1024, q, q1, q2, bkG, Bm.rk, ea, gw, pl]
theorem lrows_ok {T : Tab} (hT : T.fn "_law_rows" = some f__law_rows) (hC : T.fn "_law_cell" = some f__law_cell) (k : Nat) {h : Hs} {ns : List Int} (h0 : h[0]? = some (.frz (ns.map .int))) (S_ : Scr ns) {lv : Nat} {ls : List Tr} (L : Leaves h lv ls) (at_ many : Int) (a0 : 0 ≤ at_) (a1 : at_ ≤ 100) (m0 : 1 ≤ many) (m1 : many ≤ 100) :
    ∃ (rows : List Ro) (G : Hs), RoOk 0 rows ∧ (rows.length : Int) = many ∧ call T (k + 2) "_law_rows" [.ref 0, .int at_, .int many, .ref lv] h = .ok (.ref h.length) (h ++ .lst (rows.map Ro.d) :: G) := by
  have r := rng1_ok (h := h ++ [O.lst []]) (j := many) ⟨by omega, by omega⟩
  have loop : ∀ (m : Nat) (rs : List Ro) (G : Hs) (v5 v6 v7 v8 : Option D), RoOk 0 rs → rs.length + m ≤ 1000 → ∃ rs' G' v5' v6' v7' v8', RoOk 0 rs' ∧ rs'.length = rs.length + m ∧
      forE ⟨T, call T (k + 1)⟩ (.one 5) lrB (fun _ => True) (rangeL (rs.length : Int) m) [some (.ref 0), some (.int at_), some (.int many), some (.ref lv), some (.ref h.length), v5, v6, v7, v8] (h ++ .lst (rs.map Ro.d) :: G) =
        .nx [some (.ref 0), some (.int at_), some (.int many), some (.ref lv), some (.ref h.length), v5', v6', v7', v8'] (h ++ .lst (rs'.map Ro.d) :: G') := by
    intro m
    induction m with
    | zero => intro rs G v5 v6 v7 v8 ok _; exact ⟨rs, G, v5, v6, v7, v8, ok, rfl, forE_nil trivial⟩
    | succ m ih =>
      intro rs G v5 v6 v7 v8 ok hl
      obtain ⟨r, G1, w6, w7, w8, rok, t⟩ := lr_turn hC k h0 S_ L G rs (by omega) at_ a0 (by omega) (some (.int many)) v6 v7 v8
      obtain ⟨rs', G2, x5, x6, x7, x8, ok', hl', e⟩ := ih (rs ++ [r]) G1 (some (.int (rs.length : Int))) w6 w7 w8 (ok.app ⟨by simpa using rok, trivial⟩) (by simp; omega)
      refine ⟨rs', G2, x5, x6, x7, x8, ok', by simp at hl'; omega, ?_⟩
      simp only [rangeL]
      rw [forE_nx trivial rfl t]
      rw [List.length_append, List.length_cons, List.length_nil] at e
      simp only [Int.natCast_add, Nat.zero_add, Int.cast_ofNat_Int] at e
      exact e
  obtain ⟨rs', G', v5, v6, v7, v8, ok, hl, e⟩ := loop many.toNat [] [] none none none none trivial (by simp; omega)
  refine ⟨rs', G', ok, by simp at hl; omega, ?_⟩
  have eb : f__law_rows.body = .cons (nthB 0 f__law_rows.body) (.cons (.for (.one 5) (.r1 (.v 2)) lrB) (.cons (nthB 2 f__law_rows.body) .nil)) := rfl
  rw [call_eq hT rfl, eb]
  simp only [List.map_nil, List.length_nil, Int.cast_ofNat_Int] at e
  have e' : forE ⟨T, call T (k + 1)⟩ (.one 5) lrB (fun _ => True) (rangeL 0 many.toNat) [some (.ref 0), some (.int at_), some (.int many), some (.ref lv), some (.ref h.length), none, none, none, none] (h ++ [.lst []]) = _ := e
  generalize lrB = wb at *
  simp [nthB, f__law_rows, start, List.replicate_succ, r, e']
end Q

/-! rows looked at by the laws: the fault, the worths of straight rows -/
namespace Q
def lfB : Bl := forBody (headB (dropB 1 f__law_fault_v2.body))
theorem eqx_nil {h : Hs} {n : Nat} {ds : List D} (g : h[n]? = some (.lst ds)) : Cop.run .eqx (.ref n) (.ref h.length) (h ++ [.lst []]) = .ok (.bl ds.isEmpty) (h ++ [.lst []]) := by
  have g1 : (h ++ [O.lst []])[n]? = some (.lst ds) := (Gr.app h _).at g
  have g2 : (h ++ [O.lst []])[h.length]? = some (.lst []) := by simp
  simp only [Cop.run, eqX, g1, g2]
  cases ds with
  | nil => simp [sameL, opt]
  | cons d ds => simp [opt]
theorem law_fault_g {T : Tab} (K : KLr T) (k : Nat) {h : Hs} {n : Nat} {ds : List D} (g : h[n]? = some (.lst ds)) (td : ∀ d ∈ ds, Th h d) (hl : ds.length ≤ 1000) : ∃ G, call T (k + 3) "_law_fault" [.ref n] h = .ok (optD (faultO ds)) (h ++ G) := by
  have heq := eqx_nil g
  have loop : ∀ (rs : List D) (i : Nat) (z : Hs) (v1 : Option D), ds.drop i = rs → i + rs.length = ds.length → Gr h z → ∃ z', Gr h z' ∧
      (faultF i rs = none → ∃ v1', forE ⟨T, call T (k + 2)⟩ (.one 1) lfB (fun _ => True) (rangeL (i : Int) rs.length) [some (.ref n), v1] z = .nx [some (.ref n), v1'] z') ∧
      (∀ j, faultF i rs = some j → forE ⟨T, call T (k + 2)⟩ (.one 1) lfB (fun _ => True) (rangeL (i : Int) rs.length) [some (.ref n), v1] z = .rt (.int (j : Int)) z') := by
    intro rs
    induction rs with
    | nil => intro i z v1 _ _ gz; exact ⟨z, gz, fun _ => ⟨v1, forE_nil trivial⟩, fun j e => by simp [faultF] at e⟩
    | cons r rs ih =>
      intro i z v1 hd hi gz
      have hr : ds[i]? = some r := by
        have := congrArg (fun l => l[0]?) hd
        simpa using this
      have hm : r ∈ ds := List.mem_of_getElem? hr
      simp only [List.length_cons] at hi
      obtain ⟨G, e⟩ := law_row_g K k z ((td r hm).mono gz) (i : Int)
      have ix : getI (.ref n) (.int (i : Int)) z = .ok r z := by
        rw [getI_lst (gz.at g), atI_nat (by omega) (by omega)]
        have := (List.getElem?_eq_some_iff.mp hr).2
        simp [this]
      have as_ : asg (.one 1) (.int (i : Int)) [some (.ref n), v1] = some [some (.ref n), some (.int (i : Int))] := rfl
      simp only [List.length_cons, rangeL]
      by_cases c : 400 ≤ i ∨ isRo i r = false
      · have ff : faultF i (r :: rs) = some i := by simp only [faultF]; rw [if_pos c]
        by_cases c1 : 400 ≤ i
        · refine ⟨z, gz, fun e => (by rw [ff] at e; cases e), fun j ej => ?_⟩
          rw [ff] at ej
          cases ej
          have c2 : (399 : Int) < (i : Int) := by omega
          exact forE_rt trivial as_ (by
            simp only [f__law_fault_v2, lfB, dropB, headB, forBody]
            generalize (i : Int) = ii at *
            simp [c2])
        · have c2 : ¬ ((399 : Int) < (i : Int)) := by omega
          have c3 : isRo i r = false := by rcases c with c | c; exact absurd c c1; exact c
          rw [c3] at e
          refine ⟨z ++ G, gz.trans (Gr.app z G), fun e => (by rw [ff] at e; cases e), fun j ej => ?_⟩
          rw [ff] at ej
          cases ej
          exact forE_rt trivial as_ (by
            simp only [f__law_fault_v2, lfB, dropB, headB, forBody]
            generalize (i : Int) = ii at *
            simp [c2, ix, e])
      · have c2 : ¬ ((399 : Int) < (i : Int)) := by omega
        have c3 : isRo i r = true := by
          cases q : isRo i r
          · exact absurd (.inr q) c
          · rfl
        rw [c3] at e
        have ff : faultF i (r :: rs) = faultF (i + 1) rs := by simp only [faultF]; rw [if_neg c]
        have stp : exB ⟨T, call T (k + 2)⟩ lfB [some (.ref n), some (.int (i : Int))] z = .nx [some (.ref n), some (.int (i : Int))] (z ++ G) := by
          simp only [f__law_fault_v2, lfB, dropB, headB, forBody]
          generalize (i : Int) = ii at *
          simp [c2, ix, e]
        obtain ⟨z', g', q1, q2⟩ := ih (i + 1) (z ++ G) (some (.int (i : Int))) (by rw [← List.tail_drop, hd]; rfl) (by omega) (gz.trans (Gr.app z G))
        have ei : ((i + 1 : Nat) : Int) = (i : Int) + 1 := by omega
        rw [ei] at q1 q2
        rw [ff]
        refine ⟨z', g', fun e2 => ?_, fun j e2 => ?_⟩
        · obtain ⟨v1', q⟩ := q1 e2
          exact ⟨v1', by rw [forE_nx trivial as_ stp]; exact q⟩
        · rw [forE_nx trivial as_ stp]; exact q2 j e2
  have eb : f__law_fault_v2.body = .cons (nthB 0 f__law_fault_v2.body) (.cons (.for (.one 1) (.r1 (.b .len (.cons (.v 0) .nil))) lfB) (.cons (nthB 2 f__law_fault_v2.body) .nil)) := rfl
  have g1 : (h ++ [O.lst []])[n]? = some (.lst ds) := (Gr.app h _).at g
  rw [call_eq K.fault rfl]
  show ∃ G, SR.fin (exB ⟨T, call T (k + 2)⟩ f__law_fault_v2.body [some (.ref n), none] h) = _
  by_cases c : ds = []
  · subst c
    simp only [List.isEmpty_nil] at heq
    refine ⟨[.lst []], ?_⟩
    have e0 : faultO [] = some 0 := rfl
    rw [e0, eb, exB_cons]
    have s0 : exS ⟨T, call T (k + 2)⟩ (nthB 0 f__law_fault_v2.body) [some (.ref n), none] h = .rt (.int 0) (h ++ [.lst []]) := by
      simp [nthB, f__law_fault_v2, heq]
    rw [s0, kThen_rt]; rfl
  obtain ⟨z', gz', q1, q2⟩ := loop ds 0 (h ++ [.lst []]) none rfl (by omega) (Gr.app h _)
  have z0 : ((0 : Nat) : Int) = 0 := rfl
  rw [z0] at q1 q2
  obtain ⟨G, rfl⟩ := gz'
  refine ⟨G, ?_⟩
  have ln := len_lst g1
  have rg := rng1_ok (h := h ++ [.lst []]) (j := (ds.length : Int)) ⟨by omega, by omega⟩
  simp only [Int.toNat_natCast] at rg
  rw [eb]
  have c' : ds.isEmpty = false := by cases ds with | nil => exact absurd rfl c | cons _ _ => rfl
  rw [c'] at heq
  have e0 : faultO ds = faultF 0 ds := by unfold faultO; rw [if_neg c]
  rw [e0]
  have s0 : exS ⟨T, call T (k + 2)⟩ (nthB 0 f__law_fault_v2.body) [some (.ref n), none] h = .nx [some (.ref n), none] (h ++ [.lst []]) := by
    simp [nthB, f__law_fault_v2, heq]
  have s1 : exS ⟨T, call T (k + 2)⟩ (.for (.one 1) (.r1 (.b .len (.cons (.v 0) .nil))) lfB) [some (.ref n), none] (h ++ [.lst []]) = forE ⟨T, call T (k + 2)⟩ (.one 1) lfB (fun _ => True) (rangeL 0 ds.length) [some (.ref n), none] (h ++ [.lst []]) := by
    generalize lfB = bb
    simp [ln, rg]
  rw [exB_cons, s0, kThen_nx, exB_cons, s1]
  cases q : faultF 0 ds with
  | none =>
    obtain ⟨v1', e⟩ := q1 q
    rw [e, kThen_nx]
    simp [nthB, f__law_fault_v2, optD]
  | some j =>
    have e := q2 j q
    rw [e, kThen_rt]; rfl
/-! ### worths of rows that mean a straight line -/
structure KRr (T : Tab) : Prop extends KLr T where
  worth : T.fn "_law_worth" = some f__law_worth_v2
  fold : T.fn "_law_fold" = some f__law_fold_v2
  right : T.fn "_law_rows_right" = some f__law_rows_right
end Q

/-! sayings put in for letters -/
namespace Q
def Tr.put : Tr → Tr → Tr → Tr
  | .nev, _, _ => .nev
  | .alw, _, _ => .alw
  | .lt q, u, v => if q = true then v else u
  | .nt t, u, v => .nt (t.put u v)
  | .fd w a b, u, v => .fd w (a.put u v) (b.put u v)
theorem addTp {h : Hs} (xs ys : List D) (l : xs.length + ys.length ≤ SZ) : Bop.run .add (.tup xs) (.tup ys) h = .ok (.tup (xs ++ ys)) h := if_pos l
end Q

/-! k13's things: rows spoilt -/
namespace Q
theorem flats_iff : ∀ {ds : List D}, flats ds = true ↔ ∀ d ∈ ds, flat d = true
  | [] => by simp [flats]
  | x :: ds => by simp only [flats, Bool.and_eq_true, List.forall_mem_cons, flats_iff (ds := ds)]
theorem ddeps_iff {b : Nat} : ∀ {ds : List D}, ddeps ds ≤ b ↔ ∀ d ∈ ds, ddep d ≤ b
  | [] => by simp [ddeps]
  | x :: ds => by
    simp only [ddeps, List.forall_mem_cons, ← ddeps_iff (ds := ds)]
    omega
/-- a thing of k13: plain with at most c parts, or at a place -/
def Thk (c : Nat) (h : Hs) (d : D) : Prop := (flat d = true ∧ ddep d ≤ 3 ∧ ∀ es, d = .tup es → es.length ≤ c) ∨ ∃ n o, d = .ref n ∧ h[n]? = some o
theorem Thk.mono {c c' : Nat} {h h' : Hs} {d : D} (t : Thk c h d) (l : c ≤ c') (g : Gr h h') : Thk c' h' d := by
  rcases t with ⟨t1, t2, t3⟩ | ⟨n, o, e, t⟩
  · exact .inl ⟨t1, t2, fun es e => Nat.le_trans (t3 es e) l⟩
  · exact .inr ⟨n, o, e, g.at t⟩
theorem Thk.th {c : Nat} {h : Hs} {d : D} (t : Thk c h d) : Th h d := by
  rcases t with ⟨t1, t2, t3⟩ | t
  · exact .inl t1
  · exact .inr t
theorem Thk.len {c : Nat} {h : Hs} {d : D} (t : Thk c h d) : ∀ es, d = .tup es → es.length ≤ c := by
  rcases t with ⟨t1, t2, t3⟩ | ⟨n, o, e, t⟩
  · exact t3
  · intro es e2; rw [e] at e2; cases e2
theorem Thk.same {c : Nat} {h : Hs} {d : D} (t : Thk c h d) : sameD d d = true := by
  rcases t with ⟨t1, t2, t3⟩ | ⟨n, o, e, t⟩
  · have e := rsF_flat (fun _ => none) d t1
    have dq := deq_flat d t1
    have dd : ddep d ≤ 100 := by omega
    cases d <;> first | (simp [flat] at t1; done) | (unfold sameD; simp only [e, dq]; simp [dd])
  · subst e
    simp [sameD]
theorem sameL_self {c : Nat} {h : Hs} : ∀ {ds : List D}, (∀ d ∈ ds, Thk c h d) → sameL ds ds = true
  | [], _ => rfl
  | d :: ds, t => by
    simp only [sameL, Bool.and_eq_true]
    exact ⟨(t d List.mem_cons_self).same, sameL_self fun x hx => t x (List.mem_cons_of_mem _ hx)⟩
theorem eqX_self {c : Nat} {h : Hs} {n m : Nat} {ds : List D} (g : h[n]? = some (.lst ds)) (g2 : h[m]? = some (.lst ds)) (t : ∀ d ∈ ds, Thk c h d) : eqX h (.ref n) (.ref m) = some true := by
  simp only [eqX, g, g2, if_true, sameL_self t]
theorem pick {h : Hs} {n : Nat} {es : List D} (g : h[n]? = some (.lst es)) {j : Int} (j0 : 0 ≤ j) (j1 : j < es.length) : ∃ d ∈ es, getI (.ref n) (.int j) h = .ok d h := by
  rw [getI_lst g, atI_nat j0 j1]
  exact ⟨_, List.getElem_mem _, rfl⟩
theorem cutT {α : Type} (xs : List α) (a : Nat) : cut xs none (some (a : Int)) = xs.take a := by
  unfold cut sIx
  simp only [List.drop_zero, Nat.sub_zero]
  rw [if_neg (by omega)]
  simp only [Int.toNat_natCast]
  rcases Nat.le_total a xs.length with h | h
  · rw [Nat.min_eq_left h]
  · rw [Nat.min_eq_right h, List.take_length, List.take_of_length_le h]
theorem cutD {α : Type} (xs : List α) (a : Nat) : cut xs (some (a : Int)) none = xs.drop a := by
  have i0 : ¬ ((a : Int) < 0) := by omega
  simp only [cut, sIx, i0, if_false, Int.toNat_natCast]
  rcases Nat.le_total a xs.length with h | h
  · rw [Nat.min_eq_left h, List.take_of_length_le (by rw [List.length_drop]; exact Nat.le_refl _)]
  · rw [Nat.min_eq_right h, List.drop_length, List.drop_eq_nil_of_le h, List.take_nil]
def sp (i : Nat) : Sm := nthB i f__law_spoilt.body
theorem sp_eb : f__law_spoilt.body = .cons (sp 0) (.cons (sp 1) (.cons (sp 2) (.cons (sp 3) (.cons (sp 4) (.cons (sp 5) .nil))))) := rfl
theorem sp0 {C : Cl} {h : Hs} {n : Nat} {ds : List D} (g : h[n]? = some (.lst ds)) (c : Int) (l0 : 0 < ds.length) (s2 s3 s4 s5 s6 s7 : Option D) :
    exS C (sp 0) [some (.ref n), some (.int c), s2, s3, s4, s5, s6, s7] h = .nx [some (.ref n), some (.int c), s2, some (.int (c.fmod ds.length)), s4, s5, s6, s7] h := by
  have q : ¬ ds = [] := fun e => by rw [e] at l0; cases l0
  simp [sp, nthB, f__law_spoilt, len_lst g, run_mod, q]
theorem sp1 {C : Cl} {h : Hs} {n : Nat} {ds : List D} (g : h[n]? = some (.lst ds)) {i : Nat} (hi : i < ds.length) (s1 s2 s4 s5 s6 s7 : Option D) :
    exS C (sp 1) [some (.ref n), s1, s2, some (.int (i : Int)), s4, s5, s6, s7] h = .nx [some (.ref n), s1, s2, some (.int (i : Int)), some ds[i], s5, s6, s7] h := by
  have q : getI (.ref n) (.int (i : Int)) h = .ok ds[i] h := by
    rw [getI_lst g, atI_nat (by omega) (by omega)]
    rfl
  generalize (i : Int) = ii at *
  simp [sp, nthB, f__law_spoilt, q]
theorem sp2 {C : Cl} {h : Hs} {c : Nat} (hc : 1 ≤ c) {d : D} (t : Thk c h d) (s0 s1 s2 s3 s5 s6 s7 : Option D) :
    ∃ es, exS C (sp 2) [s0, s1, s2, s3, some d, s5, s6, s7] h = .nx [s0, s1, s2, s3, some (.tup es), s5, s6, s7] h ∧ flats es = true ∧ ddeps es ≤ 2 ∧ es.length ≤ c := by
  have pp : ∀ f : flats [D.str (S "p")] = true, ddeps [D.str (S "p")] ≤ 2 := fun _ => by decide
  rcases t with ⟨t1, t2, t3⟩ | ⟨n, o, rfl, t⟩
  · cases d with
    | tup es => exact ⟨es, by simp [sp, nthB, f__law_spoilt, isTys, isTy], t1, by simp only [ddep] at t2; omega, t3 es rfl⟩
    | obj _ _ => simp [flat] at t1
    | ref _ => simp [flat] at t1
    | lv _ => simp [flat] at t1
    | _ => exact ⟨[.str (S "p")], by simp [sp, nthB, f__law_spoilt, isTys, isTy], rfl, pp rfl, hc⟩
  · refine ⟨[.str (S "p")], ?_, rfl, pp rfl, hc⟩
    cases o <;> simp [sp, nthB, f__law_spoilt, isTys, isTy, t]
theorem sp3 {C : Cl} {h : Hs} (c : Int) (s0 s2 s3 s4 s5 s6 s7 : Option D) :
    exS C (sp 3) [s0, some (.int c), s2, s3, s4, s5, s6, s7] h = .nx [s0, some (.int c), s2, s3, s4, some (.int ((c.fdiv 512).fmod 8)), s6, s7] h := by
  have d5 : divB 512 := by decide
  simp [sp, nthB, f__law_spoilt, run_fdiv, run_mod, d5]
theorem tup_thk {c : Nat} {h : Hs} {es : List D} (f : flats es = true) (d : ddeps es ≤ 2) (l : es.length ≤ c) : Thk c h (.tup es) := .inl ⟨f, by simp only [ddep]; omega, fun _ e => by cases e; exact l⟩
theorem fm (c : Int) {m : Int} (hm : 0 < m) : ∃ j, c.fmod m = j ∧ 0 ≤ j ∧ j < m := ⟨_, rfl, Int.fmod_nonneg_of_pos c hm, Int.fmod_lt_of_pos c hm⟩
/-- numbers of a spoilt row -/
def Nk (d : D) : Prop := flat d = true ∧ ddep d ≤ 1
theorem nk_tups {c : Nat} (hc : 4 ≤ c) {h : Hs} {d : D} (k : Nk d) (x y z : PySem.Str) : ∀ e ∈ [D.tup [.str x, d], .tup [.str y, d, .int 0], .tup [.str z, .int 0, d]], Thk c h e := by
  obtain ⟨k1, k2⟩ := k
  intro e he
  simp only [List.mem_cons, List.not_mem_nil, or_false] at he
  rcases he with rfl | rfl | rfl
  · exact tup_thk (by simp [flats, flat, k1]) (by simp only [ddeps, ddep]; omega) (by simp; omega)
  · exact tup_thk (by simp [flats, flat, k1]) (by simp only [ddeps, ddep]; omega) (by simp; omega)
  · exact tup_thk (by simp [flats, flat, k1]) (by simp only [ddeps, ddep]; omega) (by simp; omega)
theorem nk_tups2 {c : Nat} (hc : 4 ≤ c) {h : Hs} {d : D} (k : Nk d) (x y z : PySem.Str) : ∀ e ∈ [D.tup [.str x, d], .tup [.str y, .int 0, d], .tup [.str z, d, .int 0]], Thk c h e := by
  obtain ⟨k1, k2⟩ := k
  intro e he
  simp only [List.mem_cons, List.not_mem_nil, or_false] at he
  rcases he with rfl | rfl | rfl
  · exact tup_thk (by simp [flats, flat, k1]) (by simp only [ddeps, ddep]; omega) (by simp; omega)
  · exact tup_thk (by simp [flats, flat, k1]) (by simp only [ddeps, ddep]; omega) (by simp; omega)
  · exact tup_thk (by simp [flats, flat, k1]) (by simp only [ddeps, ddep]; omega) (by simp; omega)
theorem sp4 {C : Cl} {h : Hs} {c : Nat} (hc : 3 ≤ c) {es : List D} (f : flats es = true) (d : ddeps es ≤ 2) (l : es.length ≤ c) (hl : c ≤ 100) (q more i w : Int) (w0 : 0 ≤ w) (w8 : w < 8) (s0 s6 s7 : Option D) :
    ∃ z G s6' s7', exS C (sp 4) [s0, some (.int q), some (.int more), some (.int i), some (.tup es), some (.int w), s6, s7] h = .nx [s0, some (.int q), some (.int more), some (.int i), some z, some (.int w), s6', s7'] (h ++ G) ∧ Thk (c + 1) (h ++ G) z := by
  have hw : w = 0 ∨ w = 1 ∨ w = 2 ∨ w = 3 ∨ w = 4 ∨ w = 5 ∨ w = 6 ∨ w = 7 := by omega
  obtain ⟨j3, e3, a3, b3⟩ := fm (q.fdiv 4096) (m := 3) (by decide)
  obtain ⟨j6, e6, a6, b6⟩ := fm (q.fdiv 4096) (m := 6) (by decide)
  obtain ⟨j7, e7, a7, b7⟩ := fm (q.fdiv 4096) (m := 7) (by decide)
  obtain ⟨j9, e9, a9, b9⟩ := fm (q.fdiv 4096) (m := 9) (by decide)
  obtain ⟨jj, ee, aa, bb⟩ := fm (q.fdiv 65536) (m := 3) (by decide)
  have d4 : divB 4096 := by decide
  have d6 : divB 65536 := by decide
  have four : ∀ w : Int, (w = 4 ∨ w = 5) → ∃ z G s6' s7', exS C (sp 4) [s0, some (.int q), some (.int more), some (.int i), some (.tup es), some (.int w), s6, s7] h = .nx [s0, some (.int q), some (.int more), some (.int i), some z, some (.int w), s6', s7'] (h ++ G) ∧ Thk (c + 1) (h ++ G) z := by
    intro w hw
    let L1 : List D := [.int i, .int (i + 1), .int (-1), .int 400, .int (-more), .int 10000000000000000000]
    obtain ⟨x, hx, ex⟩ := pick (h := h ++ [.lst L1]) (n := h.length) (es := L1) (by simp) a6 (by simpa [L1] using b6)
    obtain ⟨xi, rfl⟩ : ∃ v, x = .int v := by
      simp only [L1, List.mem_cons, List.not_mem_nil, or_false] at hx
      rcases hx with rfl | rfl | rfl | rfl | rfl | rfl <;> exact ⟨_, rfl⟩
    let L2 : List D := [.tup [.str (S "not"), .int xi], .tup [.str (S "more"), .int xi, .int 0], .tup [.str (S "lesser"), .int 0, .int xi]]
    obtain ⟨z, hz, ez⟩ := pick (h := h ++ [.lst L1, .lst L2]) (n := h.length + 1) (es := L2) (by simp) aa (by simpa [L2] using bb)
    refine ⟨z, [.lst L1, .lst L2], s6, some (.int xi), ?_, nk_tups (by omega) ⟨rfl, by simp [ddep]⟩ _ _ _ z hz⟩
    have n0 : ¬ (w = 0) := by omega
    have n1 : ¬ (w = 1) := by omega
    have n2 : ¬ (w = 2) := by omega
    have n3 : ¬ (w = 3) := by omega
    have n6 : w < 6 := by omega
    have pw : Bop.run .pow (.int 10) (.int 19) h = .ok (.int 10000000000000000000) h := rfl
    simp only [L1, L2] at ex ez
    simp [sp, nthB, f__law_spoilt, run_fdiv, run_mod, d4, d6, e6, ee, ex, ez, n0, n1, n2, n3, n6, pw, L1, L2]
  rcases hw with rfl | rfl | rfl | rfl | rfl | rfl | rfl | rfl
  · let L : List D := [.non, .int 7, .str (S "p"), .ref h.length, .ref (h.length + 1), .ref (h.length + 2), .bl true]
    obtain ⟨z, hz, e⟩ := pick (h := h ++ [.lst [], .lst [.str (S "never")], .dic false [], .lst L]) (n := h.length + 3) (es := L) (by simp) a7 (by simpa [L] using b7)
    refine ⟨z, [.lst [], .lst [.str (S "never")], .dic false [], .lst L], s6, s7, ?_, ?_⟩
    · simp only [L] at e
      simp [sp, nthB, f__law_spoilt, run_fdiv, run_mod, d4, e7, e, L]
    · simp only [L, List.mem_cons, List.not_mem_nil, or_false] at hz
      rcases hz with rfl | rfl | rfl | rfl | rfl | rfl | rfl
      · exact .inl ⟨rfl, by decide, fun _ e => by cases e⟩
      · exact .inl ⟨rfl, by decide, fun _ e => by cases e⟩
      · exact .inl ⟨rfl, by decide, fun _ e => by cases e⟩
      · exact .inr ⟨_, .lst [], rfl, by simp⟩
      · exact .inr ⟨_, .lst [.str (S "never")], rfl, by simp⟩
      · exact .inr ⟨_, .dic false [], rfl, by simp⟩
      · exact .inl ⟨rfl, by decide, fun _ e => by cases e⟩
  · let L : List D := [.tup [], .tup [.int 3], .tup [.non], .tup [.tup [.str (S "p")]], .tup [.str (S "xor"), .int 0, .int 0], .tup [.str (S "Not"), .int 0], .tup [.str (S "r")], .tup [.str (S ""), .int 0], .tup [.str (S "fold"), .int 0, .int 0]]
    obtain ⟨z, hz, e⟩ := pick (h := h ++ [.lst L]) (n := h.length) (es := L) (by simp) a9 (by simpa [L] using b9)
    refine ⟨z, [.lst L], some (.ref h.length), s7, ?_, ?_⟩
    · simp only [L] at e
      simp [sp, nthB, f__law_spoilt, run_fdiv, run_mod, d4, e9, e, L]
    · simp only [L, List.mem_cons, List.not_mem_nil, or_false] at hz
      rcases hz with rfl | rfl | rfl | rfl | rfl | rfl | rfl | rfl | rfl <;> exact tup_thk rfl (by decide) (by simp <;> omega)
  · let L : List D := [.int 0, .int 1, .str (S "p")]
    obtain ⟨z, hz, e⟩ := pick (h := h ++ [.lst L]) (n := h.length) (es := L) (by simp) a3 (by simpa [L] using b3)
    have a := addTp (h := h ++ [.lst L]) es [z] (by simp [SZ]; omega)
    have t1 : Bi.run .tuple [.tup es] h = .ok (.tup es) h := rfl
    have zf : flat z = true ∧ ddep z ≤ 1 := by
      simp only [L, List.mem_cons, List.not_mem_nil, or_false] at hz
      rcases hz with rfl | rfl | rfl <;> exact ⟨rfl, by decide⟩
    refine ⟨.tup (es ++ [z]), [.lst L], s6, s7, ?_, tup_thk (flats_app _ _ f (by simp [flats, zf.1])) ?_ (by simp; omega)⟩
    · simp only [L] at e a
      simp [sp, nthB, f__law_spoilt, run_fdiv, run_mod, d4, e3, e, t1, a, L]
    · rw [ddeps_iff] at d ⊢
      intro x hx
      rcases List.mem_append.mp hx with hx | hx
      · exact d x hx
      · rw [List.mem_singleton] at hx
        rw [hx]; omega
  · have t1 : Bi.run .tuple [.tup es] h = .ok (.tup es) h := rfl
    have cl := cut_len es none (some (-1))
    refine ⟨.tup (cut es none (some (-1))), [], s6, s7, ?_, tup_thk (flats_iff.mpr fun x hx => flats_iff.mp f x (cut_mem hx)) (ddeps_iff.mpr fun x hx => ddeps_iff.mp d x (cut_mem hx)) (by omega)⟩
    simp [sp, nthB, f__law_spoilt, t1, slice]
  · exact four 4 (.inl rfl)
  · exact four 5 (.inr rfl)
  · let L1 : List D := [.bl true, .bl false, .str (S "0"), .non, .tup [.int 0], .tup [.str (S "p")]]
    obtain ⟨x, hx, ex⟩ := pick (h := h ++ [.lst L1]) (n := h.length) (es := L1) (by simp) a6 (by simpa [L1] using b6)
    have nx : Nk x := by
      simp only [L1, List.mem_cons, List.not_mem_nil, or_false] at hx
      rcases hx with rfl | rfl | rfl | rfl | rfl | rfl <;> exact ⟨rfl, by decide⟩
    let L2 : List D := [.tup [.str (S "not"), x], .tup [.str (S "leads"), .int 0, x], .tup [.str (S "greater"), x, .int 0]]
    obtain ⟨z, hz, ez⟩ := pick (h := h ++ [.lst L1, .lst L2]) (n := h.length + 1) (es := L2) (by simp) aa (by simpa [L2] using bb)
    refine ⟨z, [.lst L1, .lst L2], s6, some x, ?_, nk_tups2 (by omega) nx _ _ _ z hz⟩
    simp only [L1, L2] at ex ez
    simp [sp, nthB, f__law_spoilt, run_fdiv, run_mod, d4, d6, e6, ee, ex, ez, L1, L2]
  · let L : List D := [.tup [.str (S "more"), .int 0], .tup [.str (S "not"), .int 0, .int 0], .tup [.str (S "never"), .int 0], .tup [.str (S "p"), .int 0], .tup [.str (S "less"), .int 0, .int 0, .int 0], .tup [.str (S "not")]]
    obtain ⟨z, hz, e⟩ := pick (h := h ++ [.lst L]) (n := h.length) (es := L) (by simp) a6 (by simpa [L] using b6)
    refine ⟨z, [.lst L], s6, s7, ?_, ?_⟩
    · simp only [L] at e
      simp [sp, nthB, f__law_spoilt, run_fdiv, run_mod, d4, e6, e, L]
    · simp only [L, List.mem_cons, List.not_mem_nil, or_false] at hz
      rcases hz with rfl | rfl | rfl | rfl | rfl | rfl <;> exact tup_thk rfl (by decide) (by simp <;> omega)
theorem sp5 {C : Cl} {h : Hs} {n : Nat} {ds : List D} (g : h[n]? = some (.lst ds)) (hl : ds.length ≤ 500) {i : Nat} (hi : i < ds.length) (z : D) (s1 s2 s5 s6 s7 : Option D) :
    ∃ m G, exS C (sp 5) [some (.ref n), s1, s2, some (.int (i : Int)), some z, s5, s6, s7] h = .rt (.ref m) (h ++ G) ∧ (h ++ G)[m]? = some (.lst (ds.take i ++ [z] ++ ds.drop (i + 1))) := by
  have l1 : (ds.take i).length = i := by rw [List.length_take]; omega
  have l2 : (ds.drop (i + 1)).length = ds.length - (i + 1) := by rw [List.length_drop]
  have c1 := cutT ds i
  have c2 := cutD ds (i + 1)
  generalize ds.take i = A at *
  generalize ds.drop (i + 1) = B at *
  let H1 : Hs := h ++ [.lst A, .lst [z]]
  have k1 := slice_lst (h := h) g none (some (i : Int))
  rw [c1] at k1
  have k2 := add_lsts (h := h ++ [.lst A, .lst [z]]) (n := h.length) (m := h.length + 1) (xs := A) (ys := [z]) (by simp) (by simp) (by simp [SZ]; omega)
  have g3 : (h ++ [O.lst A, O.lst [z], O.lst (A ++ [z])])[n]? = some (.lst ds) := (Gr.app h _).at g
  have k3 := slice_lst (h := h ++ [.lst A, .lst [z], .lst (A ++ [z])]) g3 (some ((i + 1 : Nat) : Int)) none
  rw [c2] at k3
  have k4 := add_lsts (h := h ++ [.lst A, .lst [z], .lst (A ++ [z]), .lst B]) (n := h.length + 2) (m := h.length + 3) (xs := A ++ [z]) (ys := B) (by simp) (by simp) (by simp [SZ]; omega)
  refine ⟨h.length + 4, [.lst A, .lst [z], .lst (A ++ [z]), .lst B, .lst (A ++ [z] ++ B)], ?_, by simp⟩
  simp only [Int.natCast_add, Int.cast_ofNat_Int] at k3
  generalize (i : Int) = ii at *
  simp at k2 k3 k4
  simp [sp, nthB, f__law_spoilt, k1, k2, k3, k4]
structure KSpo (T : Tab) : Prop where
  spoilt : T.fn "_law_spoilt" = some f__law_spoilt
/-- a list of things, one spoilt -/
theorem spoilt_ok {T : Tab} (K : KSpo T) (k : Nat) {h : Hs} {n : Nat} {ds : List D} (g : h[n]? = some (.lst ds)) (l0 : 0 < ds.length) (hl : ds.length ≤ 500) {c : Nat} (hc : 3 ≤ c) (hc2 : c ≤ 100) (td : ∀ d ∈ ds, Thk c h d) (q more : Int) :
    ∃ m G ds', call T (k + 1) "_law_spoilt" [.ref n, .int q, .int more] h = .ok (.ref m) (h ++ G) ∧ (h ++ G)[m]? = some (.lst ds') ∧ ds'.length = ds.length ∧ ∀ d ∈ ds', Thk (c + 1) (h ++ G) d := by
  have e0 := sp0 (C := ⟨T, call T k⟩) g q l0 (some (.int more)) none none none none none
  obtain ⟨j, ej, j0, j1⟩ := fm q (m := (ds.length : Int)) (by omega)
  rw [ej] at e0
  obtain ⟨i, rfl⟩ : ∃ i : Nat, j = (i : Int) := ⟨j.toNat, by omega⟩
  have hi : i < ds.length := by omega
  have e1 := sp1 (C := ⟨T, call T k⟩) g hi (some (.int q)) (some (.int more)) none none none none
  obtain ⟨es, e2, f, d, le⟩ := sp2 (C := ⟨T, call T k⟩) (by omega) (td ds[i] (List.getElem_mem _)) (some (.ref n)) (some (.int q)) (some (.int more)) (some (.int (i : Int))) none none none
  have e3 := sp3 (C := ⟨T, call T k⟩) (h := h) q (some (.ref n)) (some (.int more)) (some (.int (i : Int))) (some (.tup es)) none none none
  obtain ⟨w, ew, w0, w8⟩ := fm (q.fdiv 512) (m := 8) (by decide)
  rw [ew] at e3
  obtain ⟨z, G, s6, s7, e4, tz⟩ := sp4 (C := ⟨T, call T k⟩) (h := h) hc f d le hc2 q more (i : Int) w w0 w8 (some (.ref n)) none none
  have g2 := (Gr.app h G).at g
  obtain ⟨m, G2, e5, g5⟩ := sp5 (C := ⟨T, call T k⟩) g2 hl hi z (some (.int q)) (some (.int more)) (some (.int w)) s6 s7
  refine ⟨m, G ++ G2, ds.take i ++ [z] ++ ds.drop (i + 1), ?_, by rw [← List.append_assoc]; exact g5, ?_, ?_⟩
  · rw [call_eq K.spoilt rfl, ← List.append_assoc]
    show SR.fin (exB _ f__law_spoilt.body [some (.ref n), some (.int q), some (.int more), none, none, none, none, none] h) = _
    rw [sp_eb, exB_cons, e0, kThen_nx, exB_cons, e1, kThen_nx, exB_cons, e2, kThen_nx, exB_cons, e3, kThen_nx, exB_cons, e4, kThen_nx, exB_cons, e5]
    rfl
  · simp only [List.length_append, List.length_take, List.length_drop, List.length_singleton]
    omega
  · rw [← List.append_assoc]
    intro x hx
    have old : ∀ y ∈ ds, Thk (c + 1) (h ++ G ++ G2) y := fun y hy => (td y hy).mono (by omega) ((Gr.app h G).trans (Gr.app _ G2))
    rcases List.mem_append.mp hx with hx | hx
    · rcases List.mem_append.mp hx with hx | hx
      · exact old x (List.mem_of_mem_take hx)
      · rw [List.mem_singleton] at hx
        rw [hx]
        exact tz.mono (Nat.le_refl _) (Gr.app _ G2)
    · exact old x (List.mem_of_mem_drop hx)
end Q

/-! the law k13 -/
namespace Q
structure K13 (T : Tab) : Prop where
  cell : T.fn "_law_cell" = some f__law_cell
  rows : T.fn "_law_rows" = some f__law_rows
  lr : KLr T
  spo : KSpo T
  wr : KWr T
  on : T.fn "rules.rules_on" = some f_rules_rules_on
  line : T.fn "meanings.line_of_rows" = some f_meanings_line_of_rows
  refused : T.fn "_law_refused" = some f__law_refused_v3
  law : T.fn "law" = some f_law_v12
def Ths (c : Nat) (h : Hs) (ds : List D) : Prop := ∀ d ∈ ds, Thk c h d
theorem Ths.mono {c c' : Nat} {h h' : Hs} {ds : List D} (t : Ths c h ds) (l : c ≤ c') (g : Gr h h') : Ths c' h' ds := fun d hd => (t d hd).mono l g
theorem Ths.tl {c : Nat} {h : Hs} {ds : List D} (t : Ths c h ds) (l : c ≤ 1000) : ∀ d ∈ ds, Th h d ∧ ∀ es, d = .tup es → es.length ≤ 1000 := fun d hd => ⟨(t d hd).th, fun es e => Nat.le_trans ((t d hd).len es e) l⟩
theorem worth_no {T : Tab} (K : KWr T) (k : Nat) {h : Hs} {m : Nat} {ds : List D} (g : h[m]? = some (.lst ds)) (td : ∀ d ∈ ds, Th h d ∧ ∀ es, d = .tup es → es.length ≤ 1000) {j : Nat} (hj : faultO ds = some j) (d : D) :
    ∃ G, call T (k + 5) "rows.worth_of_rows" [.ref m, d] h = .exc .NoRows [.int (j : Int)] (h ++ G) := by
  obtain ⟨G, e0⟩ := fault_g K.row k g td
  rw [hj] at e0
  simp only [optD] at e0
  refine ⟨G, ?_⟩
  generalize h ++ G = H at *
  have e1 : call T (k + 4) "rows.asked_rows" [.ref m] h = .exc .NoRows [.int (j : Int)] H := by
    rw [call_eq K.asked rfl]
    simp [f_rows_asked_rows, start, e0, isN, raiseR, excO, Cn.plainExc, Cn.isExc, Cn.flds]
  rw [call_eq K.worth rfl]
  simp [f_rows_worth_of_rows, start, List.replicate_succ, e1]
theorem on_no {T : Tab} (K : K13 T) (k : Nat) {h : Hs} {rn : Nat} {ds : List D} (gr : h[rn]? = some (.lst ds)) (td : ∀ d ∈ ds, Th h d ∧ ∀ es, d = .tup es → es.length ≤ 1000) {at_ : Nat} (ef : faultO ds = some at_) (hu : D) :
    ∃ G, call T (k + 4) "rules.rules_on" [.ref rn, hu] h = .exc .NoRows [.int (at_ : Int)] (h ++ G) := by
  obtain ⟨G, e1⟩ := fault_g K.wr.row k gr td
  rw [ef] at e1
  refine ⟨G, ?_⟩
  have ra : ∀ s z, raiseR .NoRows [.int (at_ : Int)] s z = .exc .NoRows [.int (at_ : Int)] s z := fun s z => rfl
  rw [call_eq K.on rfl]
  simp only [optD] at e1
  generalize (at_ : Int) = aa at *
  simp [f_rules_rules_on, start, List.replicate_succ, e1, isN, ra]
theorem line_no {T : Tab} (K : K13 T) (k : Nat) {h : Hs} {m : Nat} {ds : List D} (g : h[m]? = some (.lst ds)) (td : ∀ d ∈ ds, Th h d ∧ ∀ es, d = .tup es → es.length ≤ 1000) {j : Nat} (hj : faultO ds = some j) :
    ∃ G, call T (k + 4) "meanings.line_of_rows" [.ref m] h = .exc .NoRows [.int (j : Int)] (h ++ G) := by
  obtain ⟨G, e⟩ := fault_g K.wr.row k g td
  rw [hj] at e
  simp only [optD] at e
  refine ⟨G, ?_⟩
  rw [call_eq K.line rfl]
  simp [f_meanings_line_of_rows, start, e, isN, raiseR, excO, Cn.plainExc, Cn.isExc, Cn.flds]
theorem whole13 {T : Tab} (K : K13 T) (k : Nat) (h : Hs) (i : Int) : call T (k+1) "_law_whole" [.int i] h = .ok (.bl true) h := by
  rw [call_eq K.lr.whole rfl]
  simp [f__law_whole, start, isTys, isTy]
theorem ref13 {T : Tab} (K : K13 T) (k : Nat) {h : Hs} {m : Nat} {ds : List D} (g : h[m]? = some (.lst ds)) (td : ∀ d ∈ ds, Th h d ∧ ∀ es, d = .tup es → es.length ≤ 1000) {j : Nat} (hj : faultO ds = some j) {w : Int} (w0 : 0 ≤ w) (w4 : w < 4) :
    ∃ G, call T (k + 6) "_law_refused" [.ref m, .int w] h = .ok (.int (j : Int)) (h ++ G) := by
  have u2 : ∀ h, isTys h (.obj .NoRows [.int (j : Int)]) [.own .NoRows] = some true := fun _ => rfl
  have u3 : ∀ h, isTys h (.obj .NoRows [.int (j : Int)]) [.tval] = some true := fun _ => rfl
  have u4 : ∀ h, isTys h (.obj .NoRows [.int (j : Int)]) [.own .NoPoint] = some false := fun _ => rfl
  have u5 : ∀ h, isTys h (.obj .NoRows [.int (j : Int)]) [.own .NoLetter] = some false := fun _ => rfl
  have u6 : ∀ h, isTys h (.obj .NoRows [.int (j : Int)]) [.own .NoLine] = some false := fun _ => rfl
  have f1 : ∀ h, fldD "at" (.obj .NoRows [.int (j : Int)]) h = .ok (.int (j : Int)) h := fun _ => rfl
  have wh := fun h => whole13 K (k + 4) h (j : Int)
  have hw : w = 0 ∨ w = 1 ∨ w = 2 ∨ w = 3 := by omega
  rcases hw with rfl | rfl | rfl | rfl
  · obtain ⟨G, e⟩ := worth_no K.wr k g td hj (.tup [.int 3, .int 1, .int 2])
    refine ⟨G, ?_⟩
    rw [call_eq K.refused rfl]
    generalize h ++ G = H at *
    simp [f__law_refused_v3, start, List.replicate_succ, e, wh, u2, u3, u4, u5, u6, f1, Cn.under, putX, Cn.up, Cn.isExc]
  · obtain ⟨G, e⟩ := worth_no K.wr k g td hj (.tup [.int 0, .int 0, .int 0])
    refine ⟨G, ?_⟩
    rw [call_eq K.refused rfl]
    generalize h ++ G = H at *
    simp [f__law_refused_v3, start, List.replicate_succ, e, wh, u2, u3, u4, u5, u6, f1, Cn.under, putX, Cn.up, Cn.isExc]
  · have gr := Gr.app h [.lst [.tup [.int 1, .int 0, .int 0], .tup [.int 1, .int 1, .int 0], .tup [.int 1, .int 1, .int 1], .tup [.int 1, .int 0, .int 1]]]
    obtain ⟨G, e⟩ := on_no K (k + 1) (gr.at g) (fun d hd => ⟨(td d hd).1.mono gr, (td d hd).2⟩) hj (.ref h.length)
    refine ⟨[.lst [.tup [.int 1, .int 0, .int 0], .tup [.int 1, .int 1, .int 0], .tup [.int 1, .int 1, .int 1], .tup [.int 1, .int 0, .int 1]]] ++ G, ?_⟩
    rw [call_eq K.refused rfl, ← List.append_assoc]
    generalize h ++ [O.lst [.tup [.int 1, .int 0, .int 0], .tup [.int 1, .int 1, .int 0], .tup [.int 1, .int 1, .int 1], .tup [.int 1, .int 0, .int 1]]] ++ G = H at *
    simp [f__law_refused_v3, start, List.replicate_succ, e, wh, u2, u3, u4, u5, u6, f1, Cn.under, putX, Cn.up, Cn.isExc]
  · obtain ⟨G, e⟩ := line_no K (k + 1) g td hj
    refine ⟨G, ?_⟩
    rw [call_eq K.refused rfl]
    generalize h ++ G = H at *
    simp [f__law_refused_v3, start, List.replicate_succ, e, wh, u2, u3, u4, u5, u6, f1, Cn.under, putX, Cn.up, Cn.isExc]
def w13 (i : Nat) : Sm := nthB i f_law_v12.body
theorem w13_eb : f_law_v12.body = .cons (w13 0) (.cons (w13 1) (.cons (w13 2) (.cons (w13 3) (.cons (w13 4) (.cons (w13 5) (.cons (w13 6) (.cons (w13 7) (.cons (w13 8) (.cons (w13 9) (.cons (w13 10) (.cons (w13 11) .nil))))))))))) := rfl
def lv13 : O := .lst [.str (S "p"), .str (S "q"), .str (S "never"), .str (S "always")]
section
variable {C : Cl} {h : Hs} {c : Int}
theorem w13_0 (e : C.call "_law_cell" [.ref 0, .int 0] h = .ok (.int c) h) : exS C (w13 0) [some (.ref 0), none, none, none, none, none, none, none] h = .nx [some (.ref 0), some (.int c), none, none, none, none, none, none] h := by
  simp [w13, nthB, f_law_v12, e]
theorem w13_1 {h2 : Hs} {r : D} (e : C.call "_law_rows" [.ref 0, .int 4, .int (1 + c.fmod 40), .ref h.length] (h ++ [lv13]) = .ok r h2) : exS C (w13 1) [some (.ref 0), some (.int c), none, none, none, none, none, none] h = .nx [some (.ref 0), some (.int c), some r, none, none, none, none, none] h2 := by
  unfold lv13 at e
  simp [w13, nthB, f_law_v12, run_mod, e]
/-- as many more rows -/
theorem w13_2 {n : Nat} {ds : List D} (g : h[n]? = some (.lst ds)) (l0 : 1 ≤ ds.length) (l1 : ds.length ≤ 40) (t : Ths 3 h ds) : ∃ n' G ds', exS C (w13 2) [some (.ref 0), some (.int c), some (.ref n), none, none, none, none, none] h = .nx [some (.ref 0), some (.int c), some (.ref n'), none, none, none, none, none] (h ++ G) ∧ (h ++ G)[n']? = some (.lst ds') ∧ 1 ≤ ds'.length ∧ ds'.length ≤ 401 ∧ Ths 3 (h ++ G) ds' := by
  have d64 : divB 64 := by decide
  have d512 : divB 512 := by decide
  by_cases q : (c.fdiv 64).fmod 8 = 1
  · obtain ⟨j, ej, j0, j1⟩ := fm (c.fdiv 512) (m := 3) (by decide)
    have r := rng1_ok (h := h) (j := 399 + j - (ds.length : Int)) ⟨by omega, by omega⟩
    have ll := len_lst g
    have cm := kComp_mapL (C := C) (s := [some (.ref 0), some (.int c), some (.ref n), none, none, none, none, none]) (h := h) (e := .tup (.cons (.k (.str (S "not"))) (.cons (.bin .sub (.b .len (.cons (.v 2) .nil)) (.k (.int 1))) .nil))) (tg := .one 3) (own := [3]) (w := ⟨rangeL 0 (399 + j - (ds.length : Int)).toNat, fun _ => True⟩) (rangeL 0 (399 + j - (ds.length : Int)).toNat) id (fun _ => .tup [.str (S "not"), .int ((ds.length : Int) - 1)]) (by simp) trivial (fun d _ => ⟨_, rfl, by
      generalize (ds.length : Int) = L at *
      simp [ll, wipe]⟩) (by rw [rangeL_len']; simp only [SZ]; omega)
    have ad := add_lsts (h := h ++ [.lst ((rangeL 0 (399 + j - (ds.length : Int)).toNat).map fun _ => D.tup [.str (S "not"), .int ((ds.length : Int) - 1)])]) (n := n) (m := h.length) (xs := ds) (ys := (rangeL 0 (399 + j - (ds.length : Int)).toNat).map fun _ => D.tup [.str (S "not"), .int ((ds.length : Int) - 1)]) ((Gr.app h _).at g) (by simp) (by rw [List.length_map, rangeL_len']; simp only [SZ]; omega)
    have hl : ((rangeL 0 (399 + j - (ds.length : Int)).toNat).map fun _ => D.tup [.str (S "not"), .int ((ds.length : Int) - 1)]).length ≤ 401 - ds.length := by rw [List.length_map, rangeL_len']; omega
    have hm : ∀ x ∈ ((rangeL 0 (399 + j - (ds.length : Int)).toNat).map fun _ => D.tup [.str (S "not"), .int ((ds.length : Int) - 1)]), flat x = true ∧ ddep x ≤ 3 ∧ ∀ es, x = .tup es → es.length ≤ 3 := fun x hx => by
      obtain ⟨_, _, rfl⟩ := List.mem_map.mp hx
      exact ⟨rfl, by simp [ddep, ddeps], fun es e => by cases e; simp⟩
    generalize ((rangeL 0 (399 + j - (ds.length : Int)).toNat).map fun _ => D.tup [.str (S "not"), .int ((ds.length : Int) - 1)]) = X at *
    refine ⟨h.length + 1, [.lst X, .lst (ds ++ X)], ds ++ X, ?_, by simp, by simp; omega, by rw [List.length_append]; omega, ?_⟩
    · generalize (ds.length : Int) = L at *
      simp only [List.append_assoc, List.cons_append, List.nil_append, List.length_append, List.length_cons, List.length_nil, Nat.zero_add] at ad
      simp [w13, nthB, f_law_v12, run_fdiv, run_mod, d64, d512, q, ej, ll, r, cm, ad]
    · intro x hx
      rcases List.mem_append.mp hx with hx | hx
      · exact (t x hx).mono (Nat.le_refl _) (Gr.app h _)
      · exact .inl (hm x hx)
  · refine ⟨n, [], ds, ?_, by simpa using g, l0, by omega, by simpa using t⟩
    simp [w13, nthB, f_law_v12, run_fdiv, run_mod, d64, q]
def spB : Bl := forBody (w13 3)
theorem w13_3e : w13 3 = .for (.one 3) (.r1 (.bin .mod (.call "_law_cell" (.cons (.v 0) (.cons (.k (.int 1)) .nil))) (.k (.int 3)))) spB := rfl
theorem w13_4 {n : Nat} {v3 : Option D} : (exS C (w13 4) [some (.ref 0), some (.int c), some (.ref n), v3, none, none, none, none] h = .nx [some (.ref 0), some (.int c), some (.ref n), v3, none, none, none, none] h) ∨ exS C (w13 4) [some (.ref 0), some (.int c), some (.ref n), v3, none, none, none, none] h = .nx [some (.ref 0), some (.int c), some (.ref h.length), v3, none, none, none, none] (h ++ [.lst []]) := by
  have d64 : divB 64 := by decide
  by_cases q : (c.fdiv 64).fmod 32 = 4
  · exact .inr (by simp [w13, nthB, f_law_v12, run_fdiv, run_mod, d64, q])
  · exact .inl (by simp [w13, nthB, f_law_v12, run_fdiv, run_mod, d64, q])
theorem w13_5 {n : Nat} {ds : List D} (g : h[n]? = some (.lst ds)) {v3 : Option D} : exS C (w13 5) [some (.ref 0), some (.int c), some (.ref n), v3, none, none, none, none] h = .nx [some (.ref 0), some (.int c), some (.ref n), v3, some (.ref h.length), none, none, none] (h ++ [.lst ds]) := by
  have q := list_lst g
  simp [w13, nthB, f_law_v12, q]
theorem w13_6 {n m : Nat} {d : D} {h2 : Hs} (e : C.call "_law_fault" [.ref n] h = .ok d h2) {v3 : Option D} : exS C (w13 6) [some (.ref 0), some (.int c), some (.ref n), v3, some (.ref m), none, none, none] h = .nx [some (.ref 0), some (.int c), some (.ref n), v3, some (.ref m), some d, none, none] h2 := by
  simp [w13, nthB, f_law_v12, e]
theorem w13_7 {n m : Nat} {d x : D} {h2 : Hs} (e : C.call "rows.rows_fault" [.ref m] h = .ok d h2) {v3 : Option D} : exS C (w13 7) [some (.ref 0), some (.int c), some (.ref n), v3, some (.ref m), some x, none, none] h = .nx [some (.ref 0), some (.int c), some (.ref n), v3, some (.ref m), some x, some d, none] h2 := by
  simp [w13, nthB, f_law_v12, e]
theorem w13_8 {n m : Nat} (e : eqX h (.ref m) (.ref n) = some true) (f : Option Nat) {v3 : Option D} : exS C (w13 8) [some (.ref 0), some (.int c), some (.ref n), v3, some (.ref m), some (optD f), some (optD f), none] h = .nx [some (.ref 0), some (.int c), some (.ref n), v3, some (.ref m), some (optD f), some (optD f), none] h := by
  have e1 : Cop.run .nex (.ref m) (.ref n) h = .ok (.bl false) h := by simp [Cop.run, e, opt]
  cases f with
  | none => simp [w13, nthB, f_law_v12, e1, optD, isN]
  | some j =>
    simp only [optD]
    generalize (j : Int) = jj
    simp [w13, nthB, f_law_v12, e1, isN]
theorem w13_9n {n m : Nat} {v3 : Option D} : exS C (w13 9) [some (.ref 0), some (.int c), some (.ref n), v3, some (.ref m), some .non, some .non, none] h = .rt (.bl true) h := by
  simp [w13, nthB, f_law_v12, isN]
theorem w13_9s {n m : Nat} {j : Int} {v3 : Option D} : exS C (w13 9) [some (.ref 0), some (.int c), some (.ref n), v3, some (.ref m), some (.int j), some (.int j), none] h = .nx [some (.ref 0), some (.int c), some (.ref n), v3, some (.ref m), some (.int j), some (.int j), none] h := by
  simp [w13, nthB, f_law_v12, isN]
theorem w13_10 {n m : Nat} {j : Int} {v3 : Option D} (e : C.call "_law_whole" [.int j] h = .ok (.bl true) h) : exS C (w13 10) [some (.ref 0), some (.int c), some (.ref n), v3, some (.ref m), some (.int j), some (.int j), none] h = .nx [some (.ref 0), some (.int c), some (.ref n), v3, some (.ref m), some (.int j), some (.int j), none] h := by
  simp [w13, nthB, f_law_v12, e]
theorem w13_11 {n m : Nat} {j : Int} {v3 : Option D} (he : ∀ h', Gr h h' → eqX h' (.ref m) (.ref n) = some true) (hr : ∀ w : Int, 0 ≤ w → w < 4 → ∀ h', Gr h h' → ∃ G, C.call "_law_refused" [.ref m, .int w] h' = .ok (.int j) (h' ++ G)) :
    ∃ h', exS C (w13 11) [some (.ref 0), some (.int c), some (.ref n), v3, some (.ref m), some (.int j), some (.int j), none] h = .rt (.bl true) h' := by
  obtain ⟨h', p, cm⟩ := kComp_mapG (C := C) (s := [some (.ref 0), some (.int c), some (.ref n), v3, some (.ref m), some (.int j), some (.int j), none]) (h := h) (e := .cmp .eq (.call "_law_refused" (.cons (.v 4) (.cons (.v 7) .nil))) (.v 5)) (tg := .one 7) (own := [7]) (w := ⟨rangeL 0 4, fun _ => True⟩) ([0, 1, 2, 3] : List Int) D.int (fun _ => .bl true) (Gr h) rfl (fun _ _ => trivial) (fun w hw h1 g1 => by
    simp only [List.mem_cons, List.not_mem_nil, or_false] at hw
    obtain ⟨G, e⟩ := hr w (by omega) (by omega) h1 g1
    exact ⟨_, h1 ++ G, rfl, by simp [wipe, e], g1.trans (Gr.app h1 G)⟩) (by simp [SZ]) (Gr.refl h)
  have r : rng1 (.int 4) h = .ok ⟨rangeL 0 4, fun _ => True⟩ h := rfl
  have a : Bi.run .all [.ref h'.length] (h' ++ [.lst (([0, 1, 2, 3] : List Int).map fun _ => D.bl true)]) = .ok (.bl true) (h' ++ [.lst (([0, 1, 2, 3] : List Int).map fun _ => D.bl true)]) := all_rep ([0, 1, 2, 3] : List Int) (by simp)
  have e1 : Cop.run .eqx (.ref m) (.ref n) (h' ++ [.lst (([0, 1, 2, 3] : List Int).map fun _ => D.bl true)]) = .ok (.bl true) (h' ++ [.lst (([0, 1, 2, 3] : List Int).map fun _ => D.bl true)]) := by simp only [Cop.run, he _ (p.trans (Gr.app h' _)), opt]
  obtain ⟨X, hX⟩ : ∃ X, X = ([0, 1, 2, 3] : List Int).map (fun _ => D.bl true) := ⟨_, rfl⟩
  rw [← hX] at cm a e1
  exact ⟨h' ++ [.lst X], by simp [w13, nthB, f_law_v12, r, cm, a, e1]⟩
end
theorem spo_loop {T : Tab} (K : K13 T) (k : Nat) {ns : List Int} (S0 : Scr ns) (c : Int) : ∀ (m i : Nat) (h : Hs) (n : Nat) (ds : List D) (v3 : Option D), h[0]? = some (.frz (ns.map .int)) → i + m ≤ 3 → h[n]? = some (.lst ds) → 1 ≤ ds.length → ds.length ≤ 401 → Ths (3 + i) h ds →
    ∃ n' G ds' v3', forE ⟨T, call T (k + 1)⟩ (.one 3) spB (fun _ => True) (rangeL (i : Int) m) [some (.ref 0), some (.int c), some (.ref n), v3, none, none, none, none] h = .nx [some (.ref 0), some (.int c), some (.ref n'), v3', none, none, none, none] (h ++ G) ∧ (h ++ G)[n']? = some (.lst ds') ∧ 1 ≤ ds'.length ∧ ds'.length ≤ 401 ∧ Ths 6 (h ++ G) ds'
  | 0, i, h, n, ds, v3, h0, hi, g, l0, l1, t => ⟨n, [], ds, v3, by simp only [rangeL, List.append_nil]; exact forE_nil trivial, by simpa using g, l0, l1, by rw [List.append_nil]; exact t.mono (by omega) (Gr.refl h)⟩
  | m + 1, i, h, n, ds, v3, h0, hi, g, l0, l1, t => by
    have c0 := cell_ok K.cell h0 S0 k (2 + (i : Int)) (by omega) (Bd.of (by omega))
    obtain ⟨n1, G1, ds1, e1, g1, l2, t1⟩ := spoilt_ok K.spo k g (by omega) (by omega) (by omega) (by omega) t (cellV ns (2 + (i : Int))) (1 + c.fmod 7)
    obtain ⟨n2, G2, ds2, w3, e2, g2, k0, k1, t2⟩ := spo_loop K k S0 c m (i + 1) (h ++ G1) n1 ds1 (some (.int (i : Int))) ((Gr.app h G1).at h0) (by omega) g1 (by omega) (by omega) (by rw [show 3 + (i + 1) = 3 + i + 1 by omega]; exact t1)
    refine ⟨n2, G1 ++ G2, ds2, w3, ?_, by rw [← List.append_assoc]; exact g2, k0, k1, by rw [← List.append_assoc]; exact t2⟩
    simp only [rangeL]
    have b : exB ⟨T, call T (k + 1)⟩ spB [some (.ref 0), some (.int c), some (.ref n), some (.int (i : Int)), none, none, none, none] h = .nx [some (.ref 0), some (.int c), some (.ref n1), some (.int (i : Int)), none, none, none, none] (h ++ G1) := by
      generalize (i : Int) = ii at *
      simp [spB, w13, nthB, f_law_v12, forBody, c0, run_mod, e1]
    rw [forE_nx trivial rfl b, ← List.append_assoc]
    rw [show ((i + 1 : Nat) : Int) = (i : Int) + 1 by omega] at e2
    exact e2
theorem k13_law {T : Tab} (K : K13 T) (ns : List Int) (S0 : Scr ns) : ∃ h', call T 24 "law" [.ref 0] [.frz (ns.map .int)] = .ok (.bl true) h' := by
  have h0 : ([O.frz (ns.map .int)] : Hs)[0]? = some (.frz (ns.map .int)) := rfl
  have c0 := cell_ok K.cell h0 S0 22 0 (by decide) (Bd.of (by decide))
  generalize cellV ns 0 = c at *
  generalize ([O.frz (ns.map .int)] : Hs) = h at *
  obtain ⟨r1, r2⟩ : 0 ≤ c.fmod 40 ∧ c.fmod 40 < 40 := ⟨Int.fmod_nonneg_of_pos c (by decide), Int.fmod_lt_of_pos c (by decide)⟩
  have L : Leaves (h ++ [lv13]) h.length [.lt false, .lt true, .nev, .alw] := by
    refine ⟨by simp [lv13, Tr.w]; exact ⟨rfl, rfl⟩, by simp, ?_, by simp⟩
    intro t ht
    simp only [List.mem_cons, List.not_mem_nil, or_false] at ht
    rcases ht with rfl | rfl | rfl | rfl <;> rfl
  have h1 := (Gr.app h [lv13]).at h0
  obtain ⟨rows, G1, ok, hl, e1⟩ := lrows_ok K.rows K.cell 21 h1 S0 L 4 (1 + c.fmod 40) (by decide) (by decide) (by omega) (by omega)
  have q1 := w13_1 (C := ⟨T, call T 23⟩) (c := c) e1
  have g1 : (h ++ [lv13] ++ .lst (rows.map Ro.d) :: G1)[(h ++ [lv13]).length]? = some (.lst (rows.map Ro.d)) := by rw [List.getElem?_append_right (Nat.le_refl _)]; simp
  have t1 : Ths 3 (h ++ [lv13] ++ .lst (rows.map Ro.d) :: G1) (rows.map Ro.d) := fun d hd => by
    obtain ⟨r, _, rfl⟩ := List.mem_map.mp hd
    refine .inl ⟨r.flat, by have := r.ddep; omega, fun es e => ?_⟩
    cases r <;> (cases e; simp)
  have h2 := (Gr.app (h ++ [lv13]) (.lst (rows.map Ro.d) :: G1)).at h1
  have l1 : (rows.map Ro.d).length = rows.length := List.length_map _
  generalize rows.map Ro.d = ds at *
  generalize h ++ [lv13] ++ .lst ds :: G1 = H1 at *
  obtain ⟨n2, G2, ds2, q2, g2, k0, k1, t2⟩ := w13_2 (C := ⟨T, call T 23⟩) (c := c) g1 (by omega) (by omega) t1
  have h3 := (Gr.app H1 G2).at h2
  generalize H1 ++ G2 = H2 at *
  have c1 := cell_ok K.cell h3 S0 22 1 (by decide) (Bd.of (by decide))
  obtain ⟨j, ej, j0, j1⟩ := fm (cellV ns 1) (m := 3) (by decide)
  obtain ⟨n3, G3, ds3, v3, q3, g3, k2, k3, t3⟩ := spo_loop K 22 S0 c j.toNat 0 H2 n2 ds2 none h3 (by omega) g2 k0 k1 t2
  have r3 := rng1_ok (h := H2) (j := j) ⟨by omega, by omega⟩
  have q3' : exS ⟨T, call T 23⟩ (w13 3) [some (.ref 0), some (.int c), some (.ref n2), none, none, none, none, none] H2 = .nx [some (.ref 0), some (.int c), some (.ref n3), v3, none, none, none, none] (H2 ++ G3) := by
    rw [w13_3e]
    generalize spB = sb at *
    simp only [Int.cast_ofNat_Int] at q3
    simp [c1, run_mod, ej, r3]
    exact q3
  have h4 := (Gr.app H2 G3).at h3
  generalize H2 ++ G3 = H3 at *
  obtain ⟨n4, H4, ds4, q4, g4, k4, t4⟩ : ∃ n4 H4 ds4, exS ⟨T, call T 23⟩ (w13 4) [some (.ref 0), some (.int c), some (.ref n3), v3, none, none, none, none] H3 = .nx [some (.ref 0), some (.int c), some (.ref n4), v3, none, none, none, none] H4 ∧ H4[n4]? = some (.lst ds4) ∧ ds4.length ≤ 401 ∧ Ths 6 H4 ds4 := by
    rcases w13_4 (C := ⟨T, call T 23⟩) (h := H3) (c := c) (n := n3) (v3 := v3) with q | q
    · exact ⟨_, _, ds3, q, g3, k3, t3⟩
    · exact ⟨_, _, [], q, by simp, by simp, fun d hd => by cases hd⟩
  have q5 := w13_5 (C := ⟨T, call T 23⟩) (c := c) g4 (v3 := v3)
  have g5 := (Gr.app H4 [.lst ds4]).at g4
  have g6 : (H4 ++ [O.lst ds4])[H4.length]? = some (.lst ds4) := by simp
  have t5 := t4.mono (Nat.le_refl _) (Gr.app H4 [.lst ds4])
  generalize H4.length = m at *
  generalize H4 ++ [O.lst ds4] = H5 at *
  obtain ⟨G6, f6⟩ := law_fault_g K.lr 20 g5 (fun d hd => (t5 d hd).th) (by omega)
  have q6 := w13_6 (C := ⟨T, call T 23⟩) (c := c) (n := n4) (m := m) f6 (v3 := v3)
  have g7 := (Gr.app H5 G6).at g5
  have g8 := (Gr.app H5 G6).at g6
  have t6 := t5.mono (Nat.le_refl _) (Gr.app H5 G6)
  generalize H5 ++ G6 = H6 at *
  obtain ⟨G7, f7⟩ := fault_g K.wr.row 20 g8 (t6.tl (by decide))
  have q7 := w13_7 (C := ⟨T, call T 23⟩) (c := c) (n := n4) (m := m) (x := optD (faultO ds4)) f7 (v3 := v3)
  have g9 := (Gr.app H6 G7).at g7
  have g10 := (Gr.app H6 G7).at g8
  have t7 := t6.mono (Nat.le_refl _) (Gr.app H6 G7)
  generalize H6 ++ G7 = H7 at *
  have q8 := w13_8 (C := ⟨T, call T 23⟩) (c := c) (h := H7) (n := n4) (m := m) (eqX_self g10 g9 t7) (faultO ds4) (v3 := v3)
  rw [call_eq K.law rfl]
  show ∃ h', SR.fin (exB ⟨T, call T 23⟩ f_law_v12.body [some (.ref 0), none, none, none, none, none, none, none] h) = _
  rw [w13_eb, exB_cons, w13_0 c0, kThen_nx, exB_cons, q1, kThen_nx, exB_cons, q2, kThen_nx, exB_cons, q3', kThen_nx, exB_cons, q4, kThen_nx, exB_cons, q5, kThen_nx, exB_cons, q6, kThen_nx, exB_cons, q7, kThen_nx, exB_cons, q8, kThen_nx, exB_cons]
  cases ef : faultO ds4 with
  | none =>
    refine ⟨H7, ?_⟩
    simp only [optD]
    rw [w13_9n, kThen_rt, fin_rt]
  | some j =>
    simp only [optD]
    obtain ⟨h', q11⟩ := w13_11 (C := ⟨T, call T 23⟩) (h := H7) (c := c) (n := n4) (m := m) (j := (j : Int)) (v3 := v3) (fun h' g => eqX_self (g.at g10) (g.at g9) (t7.mono (Nat.le_refl _) g)) (fun w w0 w4 h' g => ref13 K 17 (g.at g10) ((t7.mono (Nat.le_refl _) g).tl (by decide)) ef w0 w4)
    refine ⟨h', ?_⟩
    rw [w13_9s, kThen_nx, exB_cons, w13_10 (whole13 K 22 H7 (j : Int)), kThen_nx, exB_cons, q11, kThen_rt, fin_rt]
end Q

/-! the law k13: its world and mine -/
namespace Q.k13
open PySem
def depth : Nat := 24
theorem tabs : K13 lw.T := by repeat' first | exact rfl | (intro t; cases t <;> first | rfl | (rename_i w _ _; cases w <;> rfl)) | constructor
theorem law_ok (ns : List Int) (hl : ns.length ≤ 63) (hb : ∀ z ∈ ns, Builtin.Int.intBits z ≤ 1048576) : ∃ h, Q.call lw.T depth "law" [.ref 0] [.frz (ns.map D.int)] = .ok (.bl true) h := Q.k13_law tabs ns ⟨hl, hb⟩
end Q.k13

open PySem PySem.W PySem.Calls PyProof.Rows
theorem PySem.Challenge.cw_leansay_k13_rows_amiss_holds : PySem.Challenge.rw_leansay_k13_rows_amiss.Holds := by
  w_on; o_law
  refine HandSHeadRun.head_any (r := OpenLaw.row PySem.Challenge.rw_leansay_k13_rows_amiss) (q := view (OpenLaw.row PySem.Challenge.rw_leansay_k13_rows_amiss).prog [65]) (H := Q.k13.hk) (ob := Q.k13.ob) (M := 30000) (loose := Q.k13.loose) (d := HandSHeadRun.topDef (OpenLaw.row PySem.Challenge.rw_leansay_k13_rows_amiss).prog 65) (kwd := []) Q.k13.ob_eq
    (by kernel_rfl) (fun s => by kernel_rfl) Q.k13.run (by kernel_rfl) (by kernel_rfl) (by kernel_rfl) (by rfl) (by first | assumption | decide +kernel) (by decide +kernel) ⟨rfl, rfl, rfl, rfl, rfl, by decide +kernel⟩ ?hw ?hc
  case hw => w_witness2
  case hc => exact Q.law_walk (l := PySem.Challenge.rw_leansay_k13_rows_amiss) Q.k13.lw Q.k13.depth rfl (by kernel_rfl) ⟨rfl, by decide, by decide⟩ (by kernel_rfl) (by decide +kernel) (by decide +kernel) (by decide +kernel) Q.k13.fns (by decide +kernel) ⟨_, rfl, rfl⟩ Q.k13.law_ok

