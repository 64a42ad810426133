import PyProof.Rows.All
import Wide.All
import OpenK.AllK
import Wide.FinOn
import HandS.ForMost
import HandS.Deep
import HandS.Wide
import HandS.WideMore
import HandS.Rev
import HandS.IsInst
import HandS.TupAny
import HandS.TupMul
import HandS.SortInts
import HandS.NoneIn
import HandS.Style
import HandS.Conv
import HandS.TupLen
import HandS.Small
import HandS.Star
import PySem.Challenge.RW_knotpapers_k03_free_words
set_option Elab.async false
set_option linter.all false
set_option maxRecDepth 100000
set_option maxHeartbeats 4000000
/-! The evaluator: values, objects, draws, expressions, statements. -/
namespace Eng
open PySem L2

inductive Val where
  | non | bl (b : Bool) | int (i : Int) | str (x : Str)
  | tup (xs : List Val) | tl (xs : List Val)
  | ref (l : Nat) | scr
  /-- a list of numbers at a place, that nobody writes -/
  | sl (a : Nat) (ns : List Int)

inductive Ob where
  | lst (xs : List Val)
  | tape

/-- the heap: the newest object first; lo: the least place written so far; lk: the places that stand still -/
structure Hs where
  os : List Ob
  n : Nat
  lo : Nat
  lk : List Nat

inductive T (A : Type) where
  | ok (a : A) | no | dr (n : Nat) (k : Nat → T A)

def T.bind {A B : Type} : T A → (A → T B) → T B
  | .ok a, f => f a
  | .no, _ => .no
  | .dr n k, f => .dr n fun i => (k i).bind f

/-- at every draw, an end of which P holds -/
def T.All {A : Type} (P : A → Prop) : T A → Prop
  | .ok a => P a
  | .no => False
  | .dr n k => ∀ i, i < n → (k i).All P

def T.allB {A : Type} (P : A → Bool) : T A → Bool
  | .ok a => P a
  | .no => false
  | .dr n k => (List.range n).all fun i => (k i).allB P

theorem T.all_bind {A B : Type} {P : B → Prop} {f : A → T B} : ∀ {t : T A}, (t.bind f).All P ↔ t.All fun a => (f a).All P
  | .ok a => Iff.rfl
  | .no => Iff.rfl
  | .dr n k => by
    show (∀ i, i < n → ((k i).bind f).All P) ↔ ∀ i, i < n → (k i).All fun a => (f a).All P
    exact ⟨fun h i hi => (T.all_bind (t := k i)).mp (h i hi), fun h i hi => (T.all_bind (t := k i)).mpr (h i hi)⟩
theorem T.all_mono {A : Type} {P Q : A → Prop} (h : ∀ a, P a → Q a) : ∀ {t : T A}, t.All P → t.All Q
  | .ok a, p => h a p
  | .no, p => p
  | .dr n k, p => fun i hi => T.all_mono h (p i hi)
theorem T.all_of_allB {A : Type} {P : A → Bool} : ∀ {t : T A}, t.allB P = true → t.All fun a => P a = true
  | .ok a, h => h
  | .no, h => nomatch h
  | .dr n k, h => fun i hi => T.all_of_allB (List.all_eq_true.mp h i (List.mem_range.mpr hi))

abbrev Env := List (Option Val)

def Hs.get (h : Hs) (l : Nat) : Option Ob := if Nat.blt l h.n then h.os[h.n - 1 - l]? else none
def Hs.new (h : Hs) (o : Ob) : Hs := ⟨o :: h.os, h.n + 1, h.lo, h.lk⟩
def Hs.put (h : Hs) (l : Nat) (o : Ob) : Hs := ⟨h.os.set (h.n - 1 - l) o, h.n, min h.lo l, h.lk⟩
/-- a list that may be written -/
def Hs.wl (h : Hs) (l : Nat) : Option (List Val) := match h.get l with
  | some (.lst xs) => if h.lk.contains l then none else some xs
  | _ => none

inductive Bop | add | sub | mul | fdiv | mod | pow | band | bxor | shl | shr
inductive Cop | eq | ne | lt | le | gt | ge | is | nis | mem | nmem
inductive Ty | bool | int | str | list | tuple | dict
/-- built-ins -/
inductive Bi | len | abs | max2 | min2 | int | bool | sum | maxl | minl | any | all | sorted | tuple | list
inductive Me | append | pop | popAt | extend | index | remove | insert
/-- what is walked -/
inductive Sk | val | rng | rev
inductive Tg | nm (i : Nat) | tp (ts : List Tg)

inductive E where
  | c (v : Val) | v (i : Nat)
  | bin (op : Bop) (m : Bool) (a b : E) | neg (a : E)
  | cmp (op : Cop) (a b : E) | chn (o1 o2 : Cop) (a b c : E)
  | and (a b : E) | or (a b : E) | not (a : E) | ite (c a b : E)
  | tup (es : List E) | lst (m : Bool) (es : List E)
  | sub (a i : E) | slc (m : Bool) (a : E) (lo hi : Option E)
  | call (f : Nat) (es : List E)
  | bi (b : Bi) (m : Bool) (es : List E)
  | isi (e : E) (t : Ty)
  | me (o : E) (k : Me) (es : List E)
  | mat (t : Bool) (m : Bool) (sk : Sk) (es : List E)
  | lc (m : Bool) (own : List Nat) (tg : Tg) (sk : Sk) (es : List E) (cs : List E) (e : E)
  | lc2 (m : Bool) (own : List Nat) (tg : Tg) (sk : Sk) (es : List E) (cs : List E) (own1 : List Nat) (tg1 : Tg) (sk1 : Sk) (es1 : List E) (cs1 : List E) (e : E)

/-- targets of an assignment -/
inductive At | nm (i : Nat) | tp (ts : List At) | sb (o i : E)
inductive S where
  | ex (e : E) | asg (t : At) (e : E) | aug (i : Nat) (op : Bop) (e : E) | augS (o i : E) (op : Bop) (e : E)
  | ret (e : E) | ite (c : E) (a b : List S) | whl (c : E) (b : List S) | for_ (tg : Tg) (sk : Sk) (es : List E) (b : List S)
  | brk | cnt | pass | never
inductive Fl | nx | bk | ct | rt (v : Val)

/-! ### values -/
def optAll {A B : Type} (f : A → Option B) : List A → Option (List B)
  | [] => some []
  | x :: xs => match f x with
    | none => none
    | some y => match optAll f xs with
      | none => none
      | some ys => some (y :: ys)

/-- the data that a value is, at most so deep -/
def toD (h : Hs) : Nat → Val → Option PyData
  | 0, _ => none
  | _ + 1, .non => some .none
  | _ + 1, .bl b => some (.bool b)
  | _ + 1, .int i => some (.int i)
  | _ + 1, .str x => if PyData.strOk x then some (.str x) else none
  | n + 1, .tup xs => (optAll (toD h n) xs).map .tuple
  | n + 1, .tl xs => (optAll (toD h n) xs).map .list
  | n + 1, .ref l => match h.get l with
    | some (.lst xs) => (optAll (toD h n) xs).map .list
    | _ => none
  | _ + 1, .scr => none
  | _ + 1, .sl _ _ => none

def isFlat : Val → Bool
  | .non | .bl _ | .int _ | .str _ => true
  | _ => false
/-- == of two values -/
def veq (h : Hs) (v w : Val) : Option Bool := match v, w with
  | .int i, .int j => some (decide (i = j))
  | .bl a, .bl b => some (decide (a = b))
  | _, _ => match toD h 16 v, toD h 16 w with
    | some d, some e => some (PyData.eqv d e)
    | _, _ => none
def vint : Val → Option Int
  | .int i => some i
  | _ => none
def vbl : Val → Option Bool
  | .bl b => some b
  | _ => none
/-- the items of a list or tuple that is read -/
def items (h : Hs) : Val → Option (List Val)
  | .tup xs | .tl xs => some xs
  | .sl _ ns => some (ns.map .int)
  | .ref l => match h.get l with
    | some (.lst xs) => some xs
    | _ => none
  | _ => none
def itemsL (h : Hs) : Val → Option (List Val)
  | .tl xs => some xs
  | .ref l => match h.get l with
    | some (.lst xs) => some xs
    | _ => none
  | _ => none
/-- .. that nobody else holds still -/
def itemsW (h : Hs) : Val → Option (List Val)
  | .tl xs => some xs
  | .ref l => h.wl l
  | _ => none
def truth (h : Hs) : Val → Option Bool
  | .non => some false
  | .bl b => some b
  | .int i => some (i != 0)
  | .tup xs | .tl xs => some (!xs.isEmpty)
  | .ref l => match h.get l with
    | some (.lst xs) => some (!xs.isEmpty)
    | _ => none
  | _ => none

def small (n : Nat) : Bool := Nat.ble n 1048576
def T.of {A : Type} : Option A → T A
  | some a => .ok a
  | none => .no
/-- a new list, as a value or as an object -/
def mkL (m : Bool) (xs : List Val) (h : Hs) : T (Val × Hs) := match m with
  | false => .ok (.tl xs, h)
  | true => .ok (.ref h.n, h.new (.lst xs))

def matV (t m : Bool) (xs : List Val) (h : Hs) : T (Val × Hs) := match t with
  | true => .ok (.tup xs, h)
  | false => mkL m xs h
def bopI (op : Bop) (i j : Int) : Option Int := match op with
  | .add => some (i + j)
  | .sub => some (i - j)
  | .mul => if Nat.blt i.natAbs.log2 400000 && Nat.blt j.natAbs.log2 400000 then some (i * j) else none
  | .fdiv => if decide (0 < j) && Nat.blt j.natAbs.log2 9000 then some (i / j) else if decide (j ≠ 0) && Nat.blt j.natAbs 1073741824 then some (i.fdiv j) else none
  | .mod => if decide (0 < j) then some (i % j) else if decide (j ≠ 0) then some (i.fmod j) else none
  | .pow => if decide (0 ≤ j) && decide (j ≤ 1000) && Nat.blt i.natAbs 18446744073709551616 then some (i ^ j.toNat) else none
  | .band => some (Builtin.bitAnd i j)
  | .bxor => some (Builtin.bitXor i j)
  | .shl => if decide (0 ≤ j) && decide (j ≤ 1000) && Nat.blt i.natAbs 18446744073709551616 then some (i * 2 ^ j.toNat) else none
  | .shr => if decide (0 ≤ j) then some (i / 2 ^ j.toNat) else none
def bopV (op : Bop) (m : Bool) (v w : Val) (h : Hs) : T (Val × Hs) := match v, w with
  | .int i, .int j => (T.of (bopI op i j)).bind fun k => .ok (.int k, h)
  | .tup xs, .tup ys => match op with
    | .add => if small (xs.length + ys.length) then .ok (.tup (xs ++ ys), h) else .no
    | _ => .no
  | .str x, .str y => match op with
    | .add => if small (x.length + y.length) then .ok (.str (x ++ y), h) else .no
    | _ => .no
  | v, .int k => match op with
    | .mul => match itemsW h v with
      | some xs => if decide (0 ≤ k) && decide (k ≤ 100000) && small (xs.length * k.toNat) then mkL m (List.replicate k.toNat xs).flatten h else .no
      | none => .no
    | _ => .no
  | v, w => match op with
    | .add => match itemsW h v, itemsW h w with
      | some xs, some ys => if small (xs.length + ys.length) then mkL m (xs ++ ys) h else .no
      | _, _ => .no
    | _ => .no

def toV : Val → Option V
  | .non => some .non
  | .bl b => some (.bl b)
  | .int i => some (.int i)
  | .str x => some (.str x)
  | _ => none
/-- v in w -/
def memV (h : Hs) (v w : Val) : Option Bool := match w with
  | .tup xs => match toV v, optAll toV xs with
    | some a, some us => some (inV a us)
    | _, _ => none
  | w => match itemsL h w, toD h 16 v with
    | some xs, some d => match optAll (toD h 15) xs with
      | some ds => some (ds.any fun z => PyData.eqv z d)
      | none => none
    | _, _ => none
def copI (op : Cop) (i j : Int) : Option Bool := match op with
  | .eq => some (decide (i = j))
  | .ne => some (!decide (i = j))
  | .lt => some (decide (i < j))
  | .le => some (decide (i ≤ j))
  | .gt => some (decide (j < i))
  | .ge => some (decide (j ≤ i))
  | _ => none
def copV (op : Cop) (v w : Val) (h : Hs) : Option Bool := match v, w with
  | .int i, .int j => copI op i j
  | v, w => match op with
    | .eq => veq h v w
    | .ne => (veq h v w).map (!·)
    | .is => match v, w with
      | .bl a, .bl b => some (decide (a = b))
      | .non, .non => some true
      | .ref _, .non | .tup _, .non | .tl _, .non | .int _, .non | .bl _, .non | .str _, .non => some false
      | _, _ => none
    | .nis => match v, w with
      | .bl a, .bl b => some (!decide (a = b))
      | .non, .non => some false
      | .ref _, .non | .tup _, .non | .tl _, .non | .int _, .non | .bl _, .non | .str _, .non => some true
      | _, _ => none
    | .mem => memV h v w
    | .nmem => (memV h v w).map (!·)
    | _ => none

def tyOf (h : Hs) : Val → Option Ty
  | .non => none
  | .bl _ => some .bool
  | .int _ => some .int
  | .str _ => some .str
  | .tup _ => some .tuple
  | .tl _ => some .list
  | .ref l => match h.get l with
    | some (.lst _) => some .list
    | _ => none
  | .scr => some .list
  | .sl _ _ => some .list
/-- isinstance(v, T) -/
def isiV (h : Hs) (v : Val) (t : Ty) : Option Bool := match v with
  | .non => some false
  | v => match tyOf h v with
    | none => none
    | some s => some (match s, t with
      | .bool, .bool | .bool, .int | .int, .int | .str, .str | .list, .list | .tuple, .tuple | .dict, .dict => true
      | _, _ => false)

def ixI (n : Nat) (i : Int) : Option Nat := if decide (0 ≤ i) then (if decide (i < n) then some i.toNat else none) else if decide (-(n : Int) ≤ i) then some (i + n).toNat else none
def subV (v : Val) (i : Val) (h : Hs) : Option Val := match i with
  | .int k => match items h v with
    | some xs => match ixI xs.length k with
      | some j => xs[j]?
      | none => none
    | none => none
  | _ => none
def slX (n d : Nat) : Option Int → Nat
  | none => d
  | some v => if decide (v < 0) then (v + n).toNat else min v.toNat n
def cutL {A : Type} (xs : List A) (lo hi : Option Int) : List A := (xs.drop (slX xs.length 0 lo)).take (slX xs.length xs.length hi - slX xs.length 0 lo)
def slcV (m : Bool) (v : Val) (lo hi : Option Int) (h : Hs) : T (Val × Hs) := match v with
  | .tup xs => .ok (.tup (cutL xs lo hi), h)
  | v => match itemsL h v with
    | some xs => mkL m (cutL xs lo hi) h
    | none => .no

def insI (x : Int) : List Int → List Int
  | [] => [x]
  | y :: ys => if decide (x ≤ y) then x :: y :: ys else y :: insI x ys
def sortI : List Int → List Int
  | [] => []
  | x :: xs => insI x (sortI xs)
def maxI : Int → List Int → Int
  | m, [] => m
  | m, x :: xs => maxI (if decide (m < x) then x else m) xs
def minI : Int → List Int → Int
  | m, [] => m
  | m, x :: xs => minI (if decide (x < m) then x else m) xs
def biV (b : Bi) (m : Bool) (vs : List Val) (h : Hs) : T (Val × Hs) := match b, vs with
  | .len, [v] => match items h v with
    | some xs => .ok (.int xs.length, h)
    | none => .no
  | .abs, [.int i] => .ok (.int (if decide (i < 0) then -i else i), h)
  | .max2, [.int i, .int j] => .ok (.int (if decide (j > i) then j else i), h)
  | .min2, [.int i, .int j] => .ok (.int (if decide (j < i) then j else i), h)
  | .int, [.int i] => .ok (.int i, h)
  | .int, [.bl k] => .ok (.int (if k then 1 else 0), h)
  | .bool, [.int i] => .ok (.bl (i != 0), h)
  | .bool, [.bl k] => .ok (.bl k, h)
  | .sum, [v] => match itemsL h v with
    | some xs => match optAll vint xs with
      | some ns => .ok (.int ns.sum, h)
      | none => .no
    | none => .no
  | .maxl, [v] => match itemsL h v with
    | some xs => match optAll vint xs with
      | some (n :: ns) => .ok (.int (maxI n ns), h)
      | _ => .no
    | none => .no
  | .minl, [v] => match itemsL h v with
    | some xs => match optAll vint xs with
      | some (n :: ns) => .ok (.int (minI n ns), h)
      | _ => .no
    | none => .no
  | .any, [v] => match itemsL h v with
    | some xs => match optAll vbl xs with
      | some bs => .ok (.bl (bs.any id), h)
      | none => .no
    | none => .no
  | .all, [v] => match itemsL h v with
    | some xs => match optAll vbl xs with
      | some bs => .ok (.bl (bs.all id), h)
      | none => .no
    | none => .no
  | .sorted, [v] => match itemsL h v with
    | some xs => match optAll vint xs with
      | some ns => mkL m ((sortI ns).map .int) h
      | none => .no
    | none => .no
  | .tuple, [v] => match v with
    | .tup xs => .ok (.tup xs, h)
    | v => match itemsL h v with
      | some xs => .ok (.tup xs, h)
      | none => .no
  | .list, [v] => match v with
    | .scr => .ok (.scr, h)
    | v => match items h v with
      | some xs => mkL m xs h
      | none => .no
  | _, _ => .no

def meV (k : Me) (o : Val) (vs : List Val) (h : Hs) : T (Val × Hs) := match o with
  | .ref l => match h.wl l with
    | none => .no
    | some xs => match k, vs with
      | .append, [v] => if small xs.length then .ok (.non, h.put l (.lst (xs ++ [v]))) else .no
      | .pop, [] => match xs[xs.length - 1]? with
        | some y => .ok (y, h.put l (.lst xs.dropLast))
        | none => .no
      | .extend, [w] => match w with
        | .ref b => match h.wl b with
          | some ys => if small (xs.length + ys.length) then .ok (.non, h.put l (.lst (xs ++ ys))) else .no
          | none => .no
        | _ => .no
      | _, _ => .no
  | _ => .no

/-- o[i] = v -/
def setV (o i v : Val) (h : Hs) : T Hs := match o, i with
  | .ref l, .int k => match h.wl l with
    | some xs => match ixI xs.length k with
      | some j => .ok (h.put l (.lst (xs.set j v)))
      | none => .no
    | none => .no
  | _, _ => .no

mutual
def tgS : Tg → Val → Env → Option Env
  | .nm i, v, s => some (s.set i (some v))
  | .tp ts, v, s => match v with
    | .tup xs => tgsS ts xs s
    | _ => none
def tgsS : List Tg → List Val → Env → Option Env
  | [], [], s => some s
  | t :: ts, x :: xs, s => match tgS t x s with
    | some s' => tgsS ts xs s'
    | none => none
  | _, _, _ => none
end

def wipeE (s : Env) : List Nat → Env
  | [] => s
  | v :: vs => (wipeE s vs).set v none

/-- the items of a comprehension -/
def lcL (bd : Val → Option Env) (tst : Env → Hs → T (Bool × Hs)) (elt : Env → Hs → T (Val × Hs)) : List Val → Hs → T (List Val × Hs)
  | [], h => .ok ([], h)
  | x :: xs, h => match bd x with
    | none => .no
    | some s => (tst s h).bind fun r => match r.1 with
      | true => (elt s r.2).bind fun q => (lcL bd tst elt xs q.2).bind fun w => .ok (q.1 :: w.1, w.2)
      | false => lcL bd tst elt xs r.2
/-- .. of one with two for -/
def lcL2 (bd : Val → Option Env) (tst : Env → Hs → T (Bool × Hs)) (inn : Env → Hs → T (List Val × Hs)) : List Val → Hs → T (List Val × Hs)
  | [], h => .ok ([], h)
  | x :: xs, h => match bd x with
    | none => .no
    | some s => (tst s h).bind fun r => match r.1 with
      | true => (inn s r.2).bind fun q => (lcL2 bd tst inn xs q.2).bind fun w => .ok (q.1 ++ w.1, w.2)
      | false => lcL2 bd tst inn xs r.2

def rngL (lo : Int) : Nat → List Val
  | 0 => []
  | n + 1 => .int lo :: rngL (lo + 1) n
def rngC (lo c : Int) : Nat → List Val
  | 0 => []
  | n + 1 => .int lo :: rngC (lo + c) c n
def bd62 (i : Int) : Bool := decide (-4611686018427387904 ≤ i) && decide (i < 4611686018427387904)
/-- the turns of a range with a step -/
def rgN (i j c : Int) : Nat := if decide (0 < c) then ((j - i + c - 1) / c).toNat else ((i - j + (-c) - 1) / (-c)).toNat
/-- what is walked: the items; the place that is to stand still, if it is an object that may be written -/
def srcV (sk : Sk) (vs : List Val) (h : Hs) : Option (List Val × Option Nat) := match sk, vs with
  | .val, [v] => match v with
    | .tup xs | .tl xs => some (xs, none)
    | .ref l => match h.get l with
      | some (.lst xs) => some (xs, some l)
      | _ => none
    | _ => none
  | .rev, [v] => match v with
    | .tup xs | .tl xs => some (xs.reverse, none)
    | .ref l => match h.get l with
      | some (.lst xs) => some (xs.reverse, some l)
      | _ => none
    | _ => none
  | .rng, [.int j] => if bd62 j && decide (j ≤ 1000000) then some (rngL 0 j.toNat, none) else none
  | .rng, [.int i, .int j] => if bd62 i && bd62 j && decide (j - i ≤ 1000000) then some (rngL i (j - i).toNat, none) else none
  | .rng, [.int i, .int j, .int c] => if bd62 i && bd62 j && decide (c ≠ 0) && Nat.blt c.natAbs 1000000 && Nat.ble (rgN i j c) 1000000 then some (rngC i c (rgN i j c), none) else none
  | _, _ => none
/-- the heap with a place that stands still -/
def Hs.lock (h : Hs) (l : Nat) : Hs := ⟨h.os, h.n, h.lo, l :: h.lk⟩
def Hs.unlock (h : Hs) (lk : List Nat) : Hs := ⟨h.os, h.n, h.lo, lk⟩

def isVar : List E → Bool
  | [.v _] => true
  | _ => false
section
variable (cf : Nat → List Val → Hs → T (Val × Hs))
mutual
def ev : E → Env → Hs → T (Val × Hs)
  | .c v, _, h => .ok (v, h)
  | .v i, s, h => match s[i]? with
    | some (some v) => .ok (v, h)
    | _ => .no
  | .bin op m a b, s, h => (ev a s h).bind fun p => (ev b s p.2).bind fun q => bopV op m p.1 q.1 q.2
  | .neg a, s, h => (ev a s h).bind fun p => match p.1 with
    | .int i => .ok (.int (-i), p.2)
    | _ => .no
  | .cmp op a b, s, h => (ev a s h).bind fun p => (ev b s p.2).bind fun q => match copV op p.1 q.1 q.2 with
    | some k => .ok (.bl k, q.2)
    | none => .no
  | .chn o1 o2 a b c, s, h => (ev a s h).bind fun p => (ev b s p.2).bind fun q => match copV o1 p.1 q.1 q.2 with
    | some true => (ev c s q.2).bind fun r => match copV o2 q.1 r.1 r.2 with
      | some k => .ok (.bl k, r.2)
      | none => .no
    | some false => .ok (.bl false, q.2)
    | none => .no
  | .and a b, s, h => (ev a s h).bind fun p => match p.1 with
    | .bl true => ev b s p.2
    | .bl false => .ok (.bl false, p.2)
    | _ => .no
  | .or a b, s, h => (ev a s h).bind fun p => match p.1 with
    | .bl true => .ok (.bl true, p.2)
    | .bl false => ev b s p.2
    | _ => .no
  | .not a, s, h => (ev a s h).bind fun p => match p.1 with
    | .bl k => .ok (.bl (!k), p.2)
    | _ => .no
  | .ite c a b, s, h => ((ev c s h).bind fun p => match truth p.2 p.1 with
    | some k => T.ok (k, p.2)
    | none => .no).bind fun p => match p.1 with
    | true => ev a s p.2
    | false => ev b s p.2
  | .tup es, s, h => (evs es s h).bind fun p => if small p.1.length then .ok (.tup p.1, p.2) else .no
  | .lst m es, s, h => (evs es s h).bind fun p => if small p.1.length then mkL m p.1 p.2 else .no
  | .sub a i, s, h => (ev a s h).bind fun p => (ev i s p.2).bind fun q => match subV p.1 q.1 q.2 with
    | some v => .ok (v, q.2)
    | none => .no
  | .slc m a lo hi, s, h => (ev a s h).bind fun p => (evo lo s p.2).bind fun q => (evo hi s q.2).bind fun r => slcV m p.1 q.1 r.1 r.2
  | .call f es, s, h => (evs es s h).bind fun p => cf f p.1 p.2
  | .bi b m es, s, h => (evs es s h).bind fun p => biV b m p.1 p.2
  | .isi e t, s, h => (ev e s h).bind fun p => match isiV p.2 p.1 t with
    | some k => .ok (.bl k, p.2)
    | none => .no
  | .me o k es, s, h => (ev o s h).bind fun p => match itemsL p.2 p.1 with
    | some _ => (evs es s p.2).bind fun q => meV k p.1 q.1 q.2
    | none => .no
  | .mat t m sk es, s, h => (evs es s h).bind fun p => match srcV sk p.1 p.2 with
    | some (xs, _) => matV t m xs p.2
    | none => .no
  | .lc m own tg sk es cs e, s, h => (evs es s h).bind fun p => match srcV sk p.1 p.2 with
    | some (xs, none) => if small xs.length then (lcL (fun x => tgS tg x (wipeE s own)) (evt cs) (ev e) xs p.2).bind fun r => mkL m r.1 r.2 else .no
    | some (xs, some l) => match isVar es && small xs.length with
      | true => (lcL (fun x => tgS tg x (wipeE s own)) (evt cs) (ev e) xs (p.2.lock l)).bind fun r => mkL m r.1 (r.2.unlock p.2.lk)
      | false => .no
    | none => .no
  | .lc2 m own tg sk es cs own1 tg1 sk1 es1 cs1 e, s, h => (evs es s h).bind fun p => match srcV sk p.1 p.2 with
    | some (xs, none) => (lcL2 (fun x => tgS tg x (wipeE s own)) (evt cs) (fun s1 h1 => (evs es1 s1 h1).bind fun p1 => match srcV sk1 p1.1 p1.2 with
      | some (ys, none) => lcL (fun y => tgS tg1 y (wipeE s1 own1)) (evt cs1) (ev e) ys p1.2
      | _ => .no) xs p.2).bind fun r => if small r.1.length then mkL m r.1 r.2 else .no
    | _ => .no
def evs : List E → Env → Hs → T (List Val × Hs)
  | [], _, h => .ok ([], h)
  | e :: es, s, h => (ev e s h).bind fun p => (evs es s p.2).bind fun q => .ok (p.1 :: q.1, q.2)
def evo : Option E → Env → Hs → T (Option Int × Hs)
  | none, _, h => .ok (none, h)
  | some e, s, h => (ev e s h).bind fun p => match p.1 with
    | .int i => .ok (some i, p.2)
    | _ => .no
/-- a comprehension's tests: at most one -/
def evt : List E → Env → Hs → T (Bool × Hs)
  | [], _, h => .ok (true, h)
  | e :: es, s, h => match es with
    | [] => (ev e s h).bind fun p => match truth p.2 p.1 with
      | some k => .ok (k, p.2)
      | none => .no
    | _ :: _ => .no
end
end
end Eng
namespace Eng
open PySem L2

abbrev Rs := Fl × Env × Hs
def forL (bd : Val → Env → Option Env) (body : Env → Hs → T Rs) : List Val → Env → Hs → T Rs
  | [], s, h => .ok (.nx, s, h)
  | x :: xs, s, h => match bd x s with
    | none => .no
    | some s1 => (body s1 h).bind fun r => match r.1 with
      | .nx => forL bd body xs r.2.1 r.2.2
      | .ct => forL bd body xs r.2.1 r.2.2
      | .bk => .ok (.nx, r.2.1, r.2.2)
      | .rt v => .ok (.rt v, r.2.1, r.2.2)
def whlL (tst : Env → Hs → T (Bool × Hs)) (body : Env → Hs → T Rs) : Nat → Env → Hs → T Rs
  | 0, _, _ => .no
  | n + 1, s, h => (tst s h).bind fun p => match p.1 with
    | true => (body s p.2).bind fun r => match r.1 with
      | .nx => whlL tst body n r.2.1 r.2.2
      | .ct => whlL tst body n r.2.1 r.2.2
      | .bk => .ok (.nx, r.2.1, r.2.2)
      | .rt v => .ok (.rt v, r.2.1, r.2.2)
    | false => .ok (.nx, s, p.2)

section
variable (cf : Nat → List Val → Hs → T (Val × Hs)) (fu : Nat)
def tst (e : E) (s : Env) (h : Hs) : T (Bool × Hs) := (ev cf e s h).bind fun p => match truth p.2 p.1 with
  | some k => .ok (k, p.2)
  | none => .no
mutual
def asg : At → Val → Env → Hs → T (Env × Hs)
  | .nm i, v, s, h => .ok (s.set i (some v), h)
  | .tp ts, v, s, h => match v with
    | .tup xs => if xs.length == ts.length then asgs ts xs s h else .no
    | _ => .no
  | .sb o i, v, s, h => (ev cf o s h).bind fun p => (ev cf i s p.2).bind fun q => (setV p.1 q.1 v q.2).bind fun h' => .ok (s, h')
def asgs : List At → List Val → Env → Hs → T (Env × Hs)
  | [], [], s, h => .ok (s, h)
  | t :: ts, x :: xs, s, h => (asg t x s h).bind fun r => asgs ts xs r.1 r.2
  | _, _, _, _ => .no
end
/-- x op= y, by values -/
def ipV (op : Bop) (v w : Val) (h : Hs) : T (Val × Hs) := match v with
  | .ref l => match op with
    | .add => match h.wl l, (match w with
      | .ref b => h.wl b
      | _ => none) with
      | some xs, some ys => if small (xs.length + ys.length) then .ok (.ref l, h.put l (.lst (xs ++ ys))) else .no
      | _, _ => .no
    | _ => .no
  | .int i => match w with
    | .int j => match op with
      | .add => .ok (.int (i + j), h)
      | .sub => .ok (.int (i - j), h)
      | _ => .no
    | _ => .no
  | .str x => match w with
    | .str y => match op with
      | .add => if small (x.length + y.length) then .ok (.str (x ++ y), h) else .no
      | _ => .no
    | _ => .no
  | _ => .no
mutual
def ex : S → Env → Hs → T Rs
  | .ex e, s, h => (ev cf e s h).bind fun p => .ok (.nx, s, p.2)
  | .asg t e, s, h => (ev cf e s h).bind fun p => (asg cf t p.1 s p.2).bind fun r => .ok (.nx, r.1, r.2)
  | .aug i op e, s, h => match s[i]? with
    | some (some x) => (ev cf e s h).bind fun p => (ipV op x p.1 p.2).bind fun q => .ok (.nx, s.set i (some q.1), q.2)
    | _ => .no
  | .augS o i op e, s, h => (ev cf o s h).bind fun p => (ev cf i s p.2).bind fun q => match subV p.1 q.1 q.2 with
    | some x => (ev cf e s q.2).bind fun r => (ipV op x r.1 r.2).bind fun z => (setV p.1 q.1 z.1 z.2).bind fun h' => .ok (.nx, s, h')
    | none => .no
  | .ret e, s, h => (ev cf e s h).bind fun p => .ok (.rt p.1, s, p.2)
  | .ite c a b, s, h => (tst cf c s h).bind fun p => match p.1 with
    | true => exs a s p.2
    | false => exs b s p.2
  | .whl c b, s, h => whlL (tst cf c) (exs b) fu s h
  | .for_ tg sk es b, s, h => (evs cf es s h).bind fun p => match srcV sk p.1 p.2 with
    | some (xs, none) => forL (tgS tg) (exs b) xs s p.2
    | some (xs, some l) => match isVar es with
      | true => (forL (tgS tg) (exs b) xs s (p.2.lock l)).bind fun r => .ok (r.1, r.2.1, r.2.2.unlock p.2.lk)
      | false => .no
    | none => .no
  | .brk, s, h => .ok (.bk, s, h)
  | .cnt, s, h => .ok (.ct, s, h)
  | .pass, s, h => .ok (.nx, s, h)
  | .never, _, _ => .no
def exs : List S → Env → Hs → T Rs
  | [], s, h => .ok (.nx, s, h)
  | t :: ts, s, h => (ex t s h).bind fun r => match r.1 with
    | .nx => exs ts r.2.1 r.2.2
    | _ => .ok r
end
end

/-- a value behind a call: what was made within becomes a value -/
def fzV (h : Hs) (n : Nat) : Nat → Val → Option Val
  | 0, _ => none
  | k + 1, .tup xs => (optAll (fzV h n k) xs).map .tup
  | k + 1, .tl xs => (optAll (fzV h n k) xs).map .tl
  | k + 1, .ref l => if Nat.blt l n then some (.ref l) else match h.get l with
    | some (.lst xs) => (optAll (fzV h n k) xs).map .tl
    | _ => none
  | _ + 1, .non => some .non
  | _ + 1, .bl b => some (.bl b)
  | _ + 1, .int i => some (.int i)
  | _ + 1, .str x => some (.str x)
  | _ + 1, .scr => some .scr
  | _ + 1, .sl a ns => some (.sl a ns)

inductive Fn where
  /-- parameters (the last one takes the rest, if va), names in all, the body; fz: what it makes and hands back is never written -/
  | code (np : Nat) (va : Bool) (nN : Nat) (body : List S) (fz : Bool)
  | start | pick

def pickV (vs : List Val) (h : Hs) : T (Val × Hs) := match vs with
  | [.ref l, .int n] => match h.get l with
    | some .tape => if decide (0 < n) && decide (n ≤ 1000000000000000000) then .dr n.toNat fun i => .ok (.int i, h) else .no
    | _ => .no
  | _ => .no
def runF (cf : Nat → List Val → Hs → T (Val × Hs)) (fu nN : Nat) (body : List S) (fz : Bool) (vs : List Val) (h : Hs) : T (Val × Hs) :=
  (exs cf fu body (vs.map some ++ List.replicate (nN - vs.length) none) ⟨h.os, h.n, h.n, h.lk⟩).bind fun r =>
    let go : Val → T (Val × Hs) := fun v => match fz && Nat.ble h.n r.2.2.lo, fzV r.2.2 h.n 12 v with
      | true, some v' => .ok (v', h)
      | _, _ => .ok (v, ⟨r.2.2.os, r.2.2.n, min h.lo r.2.2.lo, h.lk⟩)
    match r.1 with
    | .nx => go .non
    | .rt v => go v
    | _ => .no
def callN (tab : List Fn) (fu : Nat) : Nat → Nat → List Val → Hs → T (Val × Hs)
  | 0, _, _, _ => .no
  | d + 1, f, vs, h => match tab[f]? with
    | none => .no
    | some .start => match vs with
      | [.scr] => .ok (.ref h.n, h.new .tape)
      | _ => .no
    | some .pick => pickV vs h
    | some (.code np va nN body fz) => match va with
      | false => if vs.length == np then runF (callN tab fu d) fu nN body fz vs h else .no
      | true => if Nat.ble (np - 1) vs.length && small vs.length then runF (callN tab fu d) fu nN body fz (vs.take (np - 1) ++ [.tup (vs.drop (np - 1))]) h else .no
end Eng
/-! The relation between the evaluator's values and heaps and those of the hand layer. -/
namespace Eng
open PySem L2

/-- the module's part, and the places that no value may name (lists that are being made) -/
structure Cn where
  K : PySem.W.Frag
  fb : List Addr
section
variable (K : Cn)
/-- a tuple, a list that nobody writes -/
def StT (al : List Addr) (H : Hp) (a : Addr) (us : List V) : Prop :=
  (Rd H a (.tup us) ∧ a ∉ al ∧ a ∉ K.fb) ∨ ∃ (o : Obj) (its : Array Value) (n : Nat), K.K.lookup a = some o ∧ o.cls = .type "tuple" ∧ o.data = .seq its n ∧ its.size ≤ sizeLine ∧ Vals us its.toList
def StL (al : List Addr) (H : Hp) (a : Addr) (us : List V) : Prop :=
  (Rd H a (.lst us) ∧ a ∉ al ∧ a ∉ K.fb) ∨ ∃ (o : Obj) (its : Array Value) (n : Nat), K.K.lookup a = some o ∧ o.cls = .type "list" ∧ o.dict = none ∧ o.data = .seq its n ∧ its.size ≤ sizeLine ∧ Vals us its.toList
mutual
def RV (al : List Addr) (H : Hp) : Val → V → Prop
  | .non, u => u = .non
  | .bl b, u => u = .bl b
  | .int i, u => u = .int i
  | .str x, u => u = .str x
  | .tup xs, u => ∃ a us, u = .ref a ∧ StT K al H a us ∧ RVs al H xs us
  | .tl xs, u => ∃ a us, u = .ref a ∧ (H a = some (.lst us) ∧ a ∉ al ∧ a ∉ K.fb) ∧ RVs al H xs us
  | .ref l, u => ∃ a, u = .ref a ∧ al[l]? = some a
  | .scr, u => ∃ (a : Addr) (ns : List Int), u = .ref a ∧ StL K al H a (ns.map V.int) ∧ ns.length ≤ 63
  | .sl a ns, u => u = .ref a ∧ StL K al H a (ns.map V.int)
def RVs (al : List Addr) (H : Hp) : List Val → List V → Prop
  | [], us => us = []
  | x :: xs, us => ∃ u r, us = u :: r ∧ RV al H x u ∧ RVs al H xs r
end
/-- the next state keeps what nobody writes -/
structure Kp (al : List Addr) (H : Hp) (al' : List Addr) (H' : Hp) : Prop where
  pre : ∀ (l : Nat) a, al[l]? = some a → al'[l]? = some a
  keep : ∀ a o, a ∉ al → H a = some o → H' a = some o ∧ a ∉ al'
end
section
variable {K : Cn} {al al' al2 : List Addr} {H H' H2 : Hp}
theorem StT.sq {a us} (h : StT K al H a us) : SqT K.K H a us := h.elim (fun z => .inl z.1) .inr
theorem StL.sq {a us} (h : StL K al H a us) : SqL K.K H a us := h.elim (fun z => .inl z.1) .inr
theorem Rd.keep {a u} (k : Kp al H al' H') (h : Rd H a u) (n : a ∉ al) : Rd H' a u ∧ a ∉ al' := by
  rcases h with h | ⟨o, h⟩
  · obtain ⟨q, n'⟩ := k.keep a _ n h
    exact ⟨.inl q, n'⟩
  · obtain ⟨q, n'⟩ := k.keep a _ n h
    exact ⟨.inr ⟨o, q⟩, n'⟩
theorem StT.mono {a us} (k : Kp al H al' H') (h : StT K al H a us) : StT K al' H' a us := by
  rcases h with h | h
  · obtain ⟨z1, z2⟩ := Rd.keep k h.1 h.2.1
    exact .inl ⟨z1, z2, h.2.2⟩
  · exact .inr h
theorem StL.mono {a us} (k : Kp al H al' H') (h : StL K al H a us) : StL K al' H' a us := by
  rcases h with h | h
  · obtain ⟨z1, z2⟩ := Rd.keep k h.1 h.2.1
    exact .inl ⟨z1, z2, h.2.2⟩
  · exact .inr h
mutual
theorem RV.mono (k : Kp al H al' H') : ∀ {x : Val} {u : V}, RV K al H x u → RV K al' H' x u
  | .non, u, h => by simp only [RV] at h ⊢; exact h
  | .bl b, u, h => by simp only [RV] at h ⊢; exact h
  | .int i, u, h => by simp only [RV] at h ⊢; exact h
  | .str x, u, h => by simp only [RV] at h ⊢; exact h
  | .tup xs, u, h => by
    simp only [RV] at h ⊢
    obtain ⟨a, us, e, s, r⟩ := h
    exact ⟨a, us, e, s.mono k, RVs.mono k r⟩
  | .tl xs, u, h => by
    simp only [RV] at h ⊢
    obtain ⟨a, us, e, s, r⟩ := h
    exact ⟨a, us, e, ⟨(k.keep a _ s.2.1 s.1).1, (k.keep a _ s.2.1 s.1).2, s.2.2⟩, RVs.mono k r⟩
  | .ref l, u, h => by
    simp only [RV] at h ⊢
    obtain ⟨a, e, q⟩ := h
    exact ⟨a, e, k.pre l a q⟩
  | .scr, u, h => by
    simp only [RV] at h ⊢
    obtain ⟨a, ns, e, s, r⟩ := h
    exact ⟨a, ns, e, s.mono k, r⟩
  | .sl a ns, u, h => by
    simp only [RV] at h ⊢
    exact ⟨h.1, h.2.mono k⟩
theorem RVs.mono (k : Kp al H al' H') : ∀ {xs : List Val} {us : List V}, RVs K al H xs us → RVs K al' H' xs us
  | [], us, h => by simp only [RVs] at h ⊢; exact h
  | x :: xs, us, h => by
    simp only [RVs] at h ⊢
    obtain ⟨u, r, e, h1, h2⟩ := h
    exact ⟨u, r, e, RV.mono k h1, RVs.mono k h2⟩
end
theorem Kp.refl : Kp al H al H := ⟨fun _ _ h => h, fun _ _ n h => ⟨h, n⟩⟩
theorem Kp.trans (a : Kp al H al' H') (b : Kp al' H' al2 H2) : Kp al H al2 H2 :=
  ⟨fun l x h => b.pre l x (a.pre l x h), fun x o n h => let ⟨q, n'⟩ := a.keep x o n h; b.keep x o n' q⟩

/-! ### rows of values -/
theorem RVs.length : ∀ {xs : List Val} {us : List V}, RVs K al H xs us → xs.length = us.length
  | [], us, h => by simp only [RVs] at h; subst h; rfl
  | x :: xs, us, h => by
    simp only [RVs] at h
    obtain ⟨u, r, e, h1, h2⟩ := h
    subst e
    simp [RVs.length h2]
theorem RVs.get : ∀ {xs : List Val} {us : List V} {i : Nat} {x : Val}, RVs K al H xs us → xs[i]? = some x → ∃ u, us[i]? = some u ∧ RV K al H x u
  | [], us, i, x, h, e => by simp at e
  | y :: xs, us, i, x, h, e => by
    simp only [RVs] at h
    obtain ⟨u, r, e', h1, h2⟩ := h
    subst e'
    cases i with
    | zero =>
      simp at e
      subst e
      exact ⟨u, rfl, h1⟩
    | succ i =>
      simp at e
      obtain ⟨w, hw, rw'⟩ := RVs.get h2 e
      exact ⟨w, by simpa using hw, rw'⟩
theorem RVs.of : ∀ {xs : List Val} {us : List V}, xs.length = us.length → (∀ (i : Nat) x u, xs[i]? = some x → us[i]? = some u → RV K al H x u) → RVs K al H xs us
  | [], us, l, h => by
    simp only [RVs]
    cases us with
    | nil => rfl
    | cons _ _ => simp at l
  | x :: xs, us, l, h => by
    cases us with
    | nil => simp at l
    | cons u r =>
      simp only [RVs]
      exact ⟨u, r, rfl, h 0 x u rfl rfl, RVs.of (by simpa using l) fun i y w e1 e2 => h (i + 1) y w (by simpa using e1) (by simpa using e2)⟩
theorem RVs.at {xs : List Val} {us : List V} {i : Nat} {x : Val} {u : V} (h : RVs K al H xs us) (e1 : xs[i]? = some x) (e2 : us[i]? = some u) : RV K al H x u := by
  obtain ⟨w, hw, r⟩ := h.get e1
  rw [e2] at hw
  cases hw
  exact r
theorem RVs.nil : RVs K al H [] [] := by simp only [RVs]
theorem RVs.cons {x u xs us} (h1 : RV K al H x u) (h2 : RVs K al H xs us) : RVs K al H (x :: xs) (u :: us) := by
  simp only [RVs]
  exact ⟨u, us, rfl, h1, h2⟩
theorem RVs.append : ∀ {xs ys : List Val} {us ws : List V}, RVs K al H xs us → RVs K al H ys ws → RVs K al H (xs ++ ys) (us ++ ws)
  | [], ys, us, ws, h1, h2 => by
    simp only [RVs] at h1
    subst h1
    exact h2
  | x :: xs, ys, us, ws, h1, h2 => by
    simp only [RVs] at h1
    obtain ⟨u, r, e, a, b⟩ := h1
    subst e
    exact .cons a (RVs.append b h2)
theorem RVs.one {x u} (h : RV K al H x u) : RVs K al H [x] [u] := .cons h .nil
theorem RVs.drop {xs : List Val} {us : List V} (n : Nat) (h : RVs K al H xs us) : RVs K al H (xs.drop n) (us.drop n) := by
  refine .of (by simp [h.length]) fun i x u e1 e2 => ?_
  rw [List.getElem?_drop] at e1 e2
  exact h.at e1 e2
theorem RVs.take {xs : List Val} {us : List V} (n : Nat) (h : RVs K al H xs us) : RVs K al H (xs.take n) (us.take n) := by
  refine .of (by simp [h.length]) fun i x u e1 e2 => ?_
  rw [List.getElem?_take] at e1 e2
  split at e1
  · rename_i hlt
    rw [if_pos hlt] at e2
    exact h.at e1 e2
  · cases e1
theorem RVs.set {xs : List Val} {us : List V} {j : Nat} {x u} (h : RVs K al H xs us) (hx : RV K al H x u) : RVs K al H (xs.set j x) (us.set j u) := by
  refine .of (by simp [h.length]) fun i y w e1 e2 => ?_
  have hl := h.length
  rw [List.getElem?_set] at e1 e2
  by_cases e : j = i
  · subst e
    simp only [if_true] at e1 e2
    split at e1
    · rename_i h1
      rw [if_pos (by omega)] at e2
      cases e1; cases e2
      exact hx
    · cases e1
  · rw [if_neg e] at e1 e2
    exact h.at e1 e2
theorem RVs.reverse {xs : List Val} {us : List V} (h : RVs K al H xs us) : RVs K al H xs.reverse us.reverse := by
  have hl := h.length
  refine .of (by simp [hl]) fun i x u e1 e2 => ?_
  have h1 : i < xs.length := by
    have := (List.getElem?_eq_some_iff.mp e1).1
    simpa using this
  rw [List.getElem?_reverse h1] at e1
  rw [List.getElem?_reverse (by omega)] at e2
  rw [← hl] at e2
  exact h.at e1 e2
theorem RVs.dropLast {xs : List Val} {us : List V} (h : RVs K al H xs us) : RVs K al H xs.dropLast us.dropLast := by
  rw [List.dropLast_eq_take, List.dropLast_eq_take, ← h.length]
  exact h.take _
theorem RVs.rep {xs : List Val} {us : List V} (h : RVs K al H xs us) : ∀ n, RVs K al H (List.replicate n xs).flatten (List.replicate n us).flatten
  | 0 => .nil
  | n + 1 => by
    rw [List.replicate_succ, List.replicate_succ, List.flatten_cons, List.flatten_cons]
    exact h.append (RVs.rep h n)
theorem RVs.ints : ∀ (ns : List Int), RVs K al H (ns.map .int) (ns.map V.int)
  | [] => .nil
  | n :: ns => .cons (by simp only [RV]) (RVs.ints ns)
theorem RVs.isEmpty {xs : List Val} {us : List V} (h : RVs K al H xs us) : xs.isEmpty = us.isEmpty := by
  have := h.length
  cases xs <;> cases us <;> simp at this ⊢
theorem RVs.vints : ∀ {xs : List Val} {us : List V} {ns : List Int}, RVs K al H xs us → optAll vint xs = some ns → us = ns.map V.int ∧ xs = ns.map Val.int
  | [], us, ns, h, e => by
    simp only [RVs] at h
    subst h
    cases e
    exact ⟨rfl, rfl⟩
  | x :: xs, us, ns, h, e => by
    simp only [RVs] at h
    obtain ⟨u, r, e', h1, h2⟩ := h
    subst e'
    unfold optAll at e
    cases x with
    | int i =>
      simp only [vint] at e
      cases q : optAll vint xs with
      | none => rw [q] at e; cases e
      | some ys =>
        rw [q] at e
        simp only at e
        cases e
        obtain ⟨z1, z2⟩ := RVs.vints h2 q
        simp only [RV] at h1
        subst h1
        exact ⟨by rw [z1]; rfl, by rw [z2]; rfl⟩
    | _ => simp [vint] at e
theorem RVs.vbls : ∀ {xs : List Val} {us : List V} {bs : List Bool}, RVs K al H xs us → optAll vbl xs = some bs → us = bs.map V.bl
  | [], us, ns, h, e => by
    simp only [RVs] at h
    subst h
    cases e
    rfl
  | x :: xs, us, ns, h, e => by
    simp only [RVs] at h
    obtain ⟨u, r, e', h1, h2⟩ := h
    subst e'
    unfold optAll at e
    cases x with
    | bl i =>
      simp only [vbl] at e
      cases q : optAll vbl xs with
      | none => rw [q] at e; cases e
      | some ys =>
        rw [q] at e
        simp only at e
        cases e
        have z1 := RVs.vbls h2 q
        simp only [RV] at h1
        subst h1
        rw [z1]; rfl
    | _ => simp [vbl] at e
end

/-! ### the heap -/
/-- the list of a law's draws: the script, how far it is read, what is left of a great number, the seed -/
def TapeOk (K : Cn) (al : List Addr) (H : Hp) (a : Addr) : Prop := ∃ (sa : Addr) (ns : List Int) (p b s : Int), H a = some (.lst [.ref sa, .int p, .int b, .int s]) ∧ StL K al H sa (ns.map V.int) ∧ ns.length ≤ 63 ∧ 0 ≤ p ∧ p ≤ 63 ∧ 0 ≤ b ∧ 0 ≤ s ∧ s ≤ 2147483647
def RO (K : Cn) (al : List Addr) (lk : List Nat) (H : Hp) (l : Nat) (a : Addr) : Ob → Prop
  | .lst xs => ∃ us, (if lk.contains l then ∃ od, H a = some (.frz od (.lst us)) else H a = some (.lst us)) ∧ RVs K al H xs us
  | .tape => TapeOk K al H a
structure RH (K : Cn) (al : List Addr) (h : Hs) (H : Hp) : Prop where
  len : al.length = h.n
  os : h.os.length = h.n
  nd : al.Nodup
  lkb : ∀ l, h.lk.contains l = true → l < h.n
  fb : ∀ a ∈ K.fb, a ∉ al ∧ ∃ o, H a = some o
  ob : ∀ (l : Nat) a o, al[l]? = some a → h.get l = some o → RO K al h.lk H l a o
structure Ext (al : List Addr) (h : Hs) (H : Hp) (al' : List Addr) (h' : Hs) (H' : Hp) : Prop extends Kp al H al' H' where
  frz : ∀ a o u, H a = some (.frz o u) → H' a = some (.frz o u)
  lo : h'.lo ≤ h.lo
  sm : ∀ l, l < h'.lo → l < h.n → h'.get l = h.get l
  n : h.n ≤ h'.n
  lk : h'.lk = h.lk
section
variable {K : Cn} {al al' al2 : List Addr} {H H' H2 : Hp} {h h' h2 : Hs}
theorem Ext.refl : Ext al h H al h H := { Kp.refl with frz := fun _ _ _ e => e, lo := Nat.le_refl _, sm := fun _ _ _ => rfl, n := Nat.le_refl _, lk := rfl }
theorem Ext.trans (a : Ext al h H al' h' H') (b : Ext al' h' H' al2 h2 H2) : Ext al h H al2 h2 H2 :=
  { a.toKp.trans b.toKp with
    frz := fun x o u e => b.frz x o u (a.frz x o u e)
    lo := Nat.le_trans b.lo a.lo
    sm := fun l e1 e2 => (b.sm l e1 (Nat.lt_of_lt_of_le e2 a.n)).trans (a.sm l (Nat.lt_of_lt_of_le e1 b.lo) e2)
    n := Nat.le_trans a.n b.n
    lk := b.lk.trans a.lk }
theorem Hs.get_lt {l : Nat} {o : Ob} (e : h.get l = some o) : l < h.n := by
  unfold Hs.get at e
  split at e
  · rename_i q
    exact of_decide_eq_true (by simpa [Nat.blt_eq] using q)
  · cases e
theorem RH.mem (r : RH K al h H) {l : Nat} {a : Addr} (e : al[l]? = some a) : ∃ o, h.get l = some o ∧ RO K al h.lk H l a o := by
  have hl : l < h.n := by rw [← r.len]; exact (List.getElem?_eq_some_iff.mp e).1
  have q : h.get l = h.os[h.n - 1 - l]? := by
    unfold Hs.get
    rw [if_pos (by simpa [Nat.blt_eq] using hl)]
  have h1 : h.n - 1 - l < h.os.length := by rw [r.os]; omega
  rw [List.getElem?_eq_getElem h1] at q
  exact ⟨_, q, r.ob l a _ e q⟩
/-- a tracked place holds something -/
theorem RH.has (r : RH K al h H) {a : Addr} (m : a ∈ al) : ∃ o, H a = some o := by
  obtain ⟨l, e⟩ := List.getElem?_of_mem m
  obtain ⟨o, _, q⟩ := r.mem e
  cases o with
  | lst xs =>
    obtain ⟨us, q, _⟩ := q
    split at q
    · obtain ⟨od, q⟩ := q
      exact ⟨_, q⟩
    · exact ⟨_, q⟩
  | tape =>
    obtain ⟨sa, ns, p, b, s, q, _⟩ := q
    exact ⟨_, q⟩
theorem RH.free (r : RH K al h H) {p : Addr} (e : H p = none) : p ∉ al := fun m => by
  obtain ⟨o, q⟩ := r.has m
  rw [e] at q
  cases q
theorem RH.inj (r : RH K al h H) {l m : Nat} {a : Addr} (e1 : al[l]? = some a) (e2 : al[m]? = some a) : l = m := by
  have h1 := (List.getElem?_eq_some_iff.mp e1).1
  exact (List.getElem?_inj h1 r.nd).mp (e1.trans e2.symm)
theorem RO.mono {l : Nat} {a : Addr} {o : Ob} {lk : List Nat} (k : Kp al H al' H') (e : H' a = H a) (x : RO K al lk H l a o) : RO K al' lk H' l a o := by
  cases o with
  | lst xs =>
    obtain ⟨us, q, r⟩ := x
    refine ⟨us, ?_, r.mono k⟩
    rw [e]
    exact q
  | tape =>
    obtain ⟨sa, ns, p, b, s, q, sq, rest⟩ := x
    exact ⟨sa, ns, p, b, s, by rw [e]; exact q, sq.mono k, rest⟩
theorem RH.nfb (r : RH K al h H) {p : Addr} (e : H p = none) : p ∉ K.fb := fun m => by
  obtain ⟨_, o, q⟩ := r.fb p m
  rw [e] at q
  cases q
/-- a new object that nobody writes -/
theorem Kp.free (r : RH K al h H) {p : Addr} {o : HO} (e : H p = none) : Kp al H al (upd H p o) :=
  ⟨fun _ _ q => q, fun a u n q => ⟨by rw [upd_ne (ne_of_none q e)]; exact q, n⟩⟩
theorem RH.freeU (r : RH K al h H) {p : Addr} {o : HO} (e : H p = none) : RH K al h (upd H p o) :=
  ⟨r.len, r.os, r.nd, r.lkb, fun a m => ⟨(r.fb a m).1, let ⟨u, q⟩ := (r.fb a m).2; ⟨u, by rw [upd_ne (ne_of_none q e)]; exact q⟩⟩, fun l a ob e1 e2 => RO.mono (Kp.free r e) (by
    obtain ⟨u, q⟩ := r.has (List.mem_of_getElem? e1)
    rw [upd_ne (ne_of_none q e)]) (r.ob l a ob e1 e2)⟩
theorem Ext.freeU (r : RH K al h H) {p : Addr} {o : HO} (e : H p = none) : Ext al h H al h (upd H p o) :=
  { Kp.free r e with frz := fun a u w q => by rw [upd_ne (ne_of_none q e)]; exact q, lo := Nat.le_refl _, sm := fun _ _ _ => rfl, n := Nat.le_refl _, lk := rfl }
/-- a new object that is tracked -/
theorem Kp.new (r : RH K al h H) {p : Addr} {o : HO} (e : H p = none) : Kp al H (al ++ [p]) (upd H p o) :=
  ⟨fun l a q => by rw [List.getElem?_append_left (List.getElem?_eq_some_iff.mp q).1]; exact q, fun a u n q => by
    have ne := ne_of_none q e
    refine ⟨by rw [upd_ne ne]; exact q, ?_⟩
    simp only [List.mem_append, List.mem_singleton, not_or]
    exact ⟨n, ne⟩⟩
theorem Hs.get_new (h : Hs) (o : Ob) (hos : h.os.length = h.n) (l : Nat) : (h.new o).get l = if l = h.n then some o else h.get l := by
  unfold Hs.new Hs.get
  simp only
  by_cases e : l = h.n
  · subst e
    simp [Nat.blt_eq]
  · rw [if_neg e]
    by_cases q : l < h.n
    · have q1 : l < h.n + 1 := by omega
      simp only [Nat.blt_eq, q, q1, if_true, decide_true]
      have e2 : h.n + 1 - 1 - l = (h.n - 1 - l) + 1 := by omega
      rw [e2, List.getElem?_cons_succ]
    · have q1 : ¬ l < h.n + 1 := by omega
      simp [Nat.blt_eq, q, q1]
theorem RH.new (r : RH K al h H) {p : Addr} {o : HO} {ob : Ob} (e : H p = none) (x : RO K (al ++ [p]) h.lk (upd H p o) h.n p ob) : RH K (al ++ [p]) (h.new ob) (upd H p o) := by
  refine ⟨by simp [Hs.new, r.len], by simp [Hs.new, r.os], ?_, fun l e => Nat.lt_succ_of_lt (r.lkb l e), fun a m => ?_, fun l a u e1 e2 => ?_⟩
  · rw [List.nodup_append]
    refine ⟨r.nd, by simp, fun a ha b hb => ?_⟩
    rw [List.mem_singleton] at hb
    subst hb
    intro z
    subst z
    exact r.free e ha
  · obtain ⟨z, u, q⟩ := r.fb a m
    have ne := ne_of_none q e
    exact ⟨by simp only [List.mem_append, List.mem_singleton, not_or]; exact ⟨z, ne⟩, u, by rw [upd_ne ne]; exact q⟩
  · rw [Hs.get_new h ob r.os] at e2
    by_cases el : l = h.n
    · subst el
      rw [if_pos rfl] at e2
      cases e2
      rw [List.getElem?_append_right (by rw [r.len]; exact Nat.le_refl _)] at e1
      rw [r.len] at e1
      simp at e1
      subst e1
      exact x
    · rw [if_neg el] at e2
      have hl := Hs.get_lt e2
      rw [List.getElem?_append_left (by rw [r.len]; exact hl)] at e1
      refine RO.mono (Kp.new r e) ?_ (r.ob l a u e1 e2)
      obtain ⟨w, q⟩ := r.has (List.mem_of_getElem? e1)
      rw [upd_ne (ne_of_none q e)]
theorem Ext.new (r : RH K al h H) {p : Addr} {o : HO} {ob : Ob} (e : H p = none) : Ext al h H (al ++ [p]) (h.new ob) (upd H p o) :=
  { Kp.new r e with
    frz := fun a u w q => by rw [upd_ne (ne_of_none q e)]; exact q
    lo := Nat.le_refl _
    sm := fun l _ e2 => by rw [Hs.get_new h ob r.os, if_neg (by omega)]
    n := Nat.le_succ _
    lk := rfl }
/-- a tracked list is written -/
theorem Hs.get_put (h : Hs) (o : Ob) (hos : h.os.length = h.n) {l : Nat} (hl : l < h.n) (m : Nat) : (h.put l o).get m = if m = l then some o else h.get m := by
  unfold Hs.put Hs.get
  simp only
  by_cases q : m < h.n
  · simp only [Nat.blt_eq, q, if_true, decide_true]
    rw [List.getElem?_set]
    by_cases e : m = l
    · subst e
      rw [if_pos rfl, if_pos (by rw [hos]; omega), if_pos rfl]
    · rw [if_neg e, if_neg (by omega)]
  · have e : ¬ m = l := by omega
    simp [Nat.blt_eq, q, e]
theorem Kp.put (r : RH K al h H) {l : Nat} {a : Addr} {o : HO} (e : al[l]? = some a) : Kp al H al (upd H a o) :=
  ⟨fun _ _ q => q, fun b u n q => ⟨by rw [upd_ne (fun z => n (by rw [z]; exact List.mem_of_getElem? e))]; exact q, n⟩⟩
theorem RH.put (r : RH K al h H) {l : Nat} {a : Addr} {o : HO} {ob : Ob} (e : al[l]? = some a) (x : RO K al h.lk (upd H a o) l a ob) : RH K al (h.put l ob) (upd H a o) := by
  have hl : l < h.n := by rw [← r.len]; exact (List.getElem?_eq_some_iff.mp e).1
  refine ⟨r.len, by simp [Hs.put, r.os], r.nd, r.lkb, fun b m => ⟨(r.fb b m).1, let ⟨u, q⟩ := (r.fb b m).2; ⟨u, by rw [upd_ne fun z => (r.fb b m).1 (by rw [z]; exact List.mem_of_getElem? e)]; exact q⟩⟩, fun m b u e1 e2 => ?_⟩
  rw [Hs.get_put h ob r.os hl] at e2
  by_cases em : m = l
  · subst em
    rw [if_pos rfl] at e2
    cases e2
    rw [e] at e1
    cases e1
    exact x
  · rw [if_neg em] at e2
    refine RO.mono (Kp.put r e) ?_ (r.ob m b u e1 e2)
    rw [upd_ne fun z => em (r.inj (by rw [← z]; exact e1) e)]
theorem Ext.put (r : RH K al h H) {l : Nat} {a : Addr} {o : HO} {ob : Ob} (e : al[l]? = some a) (nf : ∀ od u, H a ≠ some (.frz od u)) : Ext al h H al (h.put l ob) (upd H a o) :=
  { Kp.put r e with
    frz := fun b u w q => by
      rw [upd_ne fun z => nf u w (by rw [← z]; exact q)]
      exact q
    lo := Nat.min_le_left _ _
    sm := fun m e1 e2 => by
      have hl : l < h.n := by rw [← r.len]; exact (List.getElem?_eq_some_iff.mp e).1
      rw [Hs.get_put h ob r.os hl, if_neg]
      have : (h.put l ob).lo = min h.lo l := rfl
      rw [this] at e1
      omega
    n := Nat.le_refl _
    lk := rfl }
theorem RH.wl (r : RH K al h H) {l : Nat} {a : Addr} {xs : List Val} (e : al[l]? = some a) (w : h.wl l = some xs) : ∃ us, H a = some (.lst us) ∧ RVs K al H xs us ∧ h.lk.contains l = false := by
  unfold Hs.wl at w
  cases q : h.get l with
  | none => rw [q] at w; cases w
  | some o =>
    rw [q] at w
    cases o with
    | tape => cases w
    | lst ys =>
      simp only at w
      obtain ⟨us, x, rv⟩ := r.ob l a _ e q
      cases c : h.lk.contains l with
      | true =>
        rw [c, if_pos rfl] at w
        cases w
      | false =>
        rw [c, if_neg Bool.false_ne_true] at w
        rw [c, if_neg Bool.false_ne_true] at x
        cases w
        exact ⟨us, x, rv, rfl⟩
/-- a tracked list that is read -/
theorem RH.rl (r : RH K al h H) {l : Nat} {a : Addr} {xs : List Val} (e : al[l]? = some a) (w : h.get l = some (.lst xs)) : ∃ us, Rd H a (.lst us) ∧ RVs K al H xs us := by
  obtain ⟨us, x, rv⟩ := r.ob l a _ e w
  split at x
  · obtain ⟨od, x⟩ := x
    exact ⟨us, .inr ⟨od, x⟩, rv⟩
  · exact ⟨us, .inl x, rv⟩
end
end Eng
/-! Operators, built-ins, methods, by values. -/
namespace Eng
open PySem L2

/-- what is wanted of a value and a heap behind a step -/
def Pt (K : Cn) (al : List Addr) (h : Hs) (H : Hp) (Q : V → Hp → Prop) : Val × Hs → Prop :=
  fun q => ∀ al' H' u, Ext al h H al' q.2 H' → RH K al' q.2 H' → RV K al' H' q.1 u → Q u H'
section
variable {K : Cn} {al al' : List Addr} {H H' : Hp} {h h' : Hs} {Q : V → Hp → Prop}
theorem Pt.trans {q : Val × Hs} (e : Ext al h H al' h' H') (p : Pt K al h H Q q) : Pt K al' h' H' Q q := fun al2 H2 u e2 r v => p al2 H2 u (e.trans e2) r v
theorem Pt.here {v : Val} {u : V} (p : Pt K al h H Q (v, h)) (r : RH K al h H) (rv : RV K al H v u) : Q u H := p al H u Ext.refl r rv
/-- a new tuple -/
theorem Pt.tup {xs : List Val} {us : List V} {p : Addr} (q : Pt K al h H Q (.tup xs, h)) (r : RH K al h H) (rv : RVs K al H xs us) (np : H p = none) : Q (.ref p) (upd H p (.tup us)) := by
  refine q al _ _ (Ext.freeU r np) (r.freeU np) ?_
  simp only [RV]
  exact ⟨p, us, rfl, .inl ⟨.inl upd_same, r.free np, r.nfb np⟩, rv.mono (Kp.free r np)⟩
/-- a new list -/
theorem Pt.mk {m : Bool} {xs : List Val} {us : List V} {p : Addr} (q : (mkL m xs h).All (Pt K al h H Q)) (r : RH K al h H) (rv : RVs K al H xs us) (np : H p = none) : Q (.ref p) (upd H p (.lst us)) := by
  cases m with
  | false =>
    refine q al _ _ (Ext.freeU r np) (r.freeU np) ?_
    simp only [RV]
    exact ⟨p, us, rfl, ⟨upd_same, r.free np, r.nfb np⟩, rv.mono (Kp.free r np)⟩
  | true =>
    refine q (al ++ [p]) _ _ (Ext.new r np) (r.new np ⟨us, ?_, rv.mono (Kp.new r np)⟩) ?_
    · split
      · rename_i z
        exact absurd (r.lkb _ z) (Nat.lt_irrefl _)
      · exact upd_same
    · simp only [RV]
      refine ⟨p, rfl, ?_⟩
      rw [List.getElem?_append_right (by rw [r.len]; exact Nat.le_refl _), r.len]
      simp

theorem RV.int_of {i : Int} {u : V} (r : RV K al H (.int i) u) : u = .int i := by simpa only [RV] using r
theorem RV.bl_of {b : Bool} {u : V} (r : RV K al H (.bl b) u) : u = .bl b := by simpa only [RV] using r
theorem RV.str_of {x : Str} {u : V} (r : RV K al H (.str x) u) : u = .str x := by simpa only [RV] using r
theorem RV.non_of {u : V} (r : RV K al H .non u) : u = .non := by simpa only [RV] using r
theorem RV.int (i : Int) : RV K al H (.int i) (.int i) := by simp only [RV]
theorem RV.bl (b : Bool) : RV K al H (.bl b) (.bl b) := by simp only [RV]
theorem RV.str (x : Str) : RV K al H (.str x) (.str x) := by simp only [RV]
theorem RV.non : RV K al H .non .non := by simp only [RV]
theorem RV.tup_of {xs : List Val} {u : V} (r : RV K al H (.tup xs) u) : ∃ a us, u = .ref a ∧ StT K al H a us ∧ RVs K al H xs us := by simpa only [RV] using r
theorem RV.tl_of {xs : List Val} {u : V} (r : RV K al H (.tl xs) u) : ∃ a us, u = .ref a ∧ (H a = some (.lst us) ∧ a ∉ al ∧ a ∉ K.fb) ∧ RVs K al H xs us := by simpa only [RV] using r
theorem RV.ref_of {l : Nat} {u : V} (r : RV K al H (.ref l) u) : ∃ a, u = .ref a ∧ al[l]? = some a := by simpa only [RV] using r
theorem RV.scr_of {u : V} (r : RV K al H .scr u) : ∃ (a : Addr) (ns : List Int), u = .ref a ∧ StL K al H a (ns.map V.int) ∧ ns.length ≤ 63 := by simpa only [RV] using r

theorem items_of {v : Val} {xs : List Val} {u : V} (r : RH K al h H) (e : items h v = some xs) (rv : RV K al H v u) : ∃ a us, u = .ref a ∧ (SqL K.K H a us ∨ SqT K.K H a us) ∧ RVs K al H xs us := by
  cases v with
  | tup ys =>
    cases e
    obtain ⟨a, us, e, s, q⟩ := rv.tup_of
    exact ⟨a, us, e, .inr s.sq, q⟩
  | tl ys =>
    cases e
    obtain ⟨a, us, e, s, q⟩ := rv.tl_of
    exact ⟨a, us, e, .inl (SqL.of s.1), q⟩
  | sl b ns =>
    cases e
    simp only [RV] at rv
    exact ⟨b, _, rv.1, .inl rv.2.sq, RVs.ints ns⟩
  | ref l =>
    obtain ⟨a, e1, e2⟩ := rv.ref_of
    unfold items at e
    simp only at e
    split at e
    · rename_i zs q
      cases e
      obtain ⟨us, rd, q'⟩ := r.rl e2 q
      exact ⟨a, us, e1, .inl (.inl rd), q'⟩
    · cases e
  | _ => cases e
theorem itemsL_of {v : Val} {xs : List Val} {u : V} (r : RH K al h H) (e : itemsL h v = some xs) (rv : RV K al H v u) : ∃ a us, u = .ref a ∧ SqL K.K H a us ∧ RVs K al H xs us := by
  cases v with
  | tl ys =>
    cases e
    obtain ⟨a, us, e, s, q⟩ := rv.tl_of
    exact ⟨a, us, e, SqL.of s.1, q⟩
  | ref l =>
    obtain ⟨a, e1, e2⟩ := rv.ref_of
    unfold itemsL at e
    simp only at e
    split at e
    · rename_i zs q
      cases e
      obtain ⟨us, rd, q'⟩ := r.rl e2 q
      exact ⟨a, us, e1, .inl rd, q'⟩
    · cases e
  | _ => cases e
theorem itemsW_of {v : Val} {xs : List Val} {u : V} (r : RH K al h H) (e : itemsW h v = some xs) (rv : RV K al H v u) : ∃ a us, u = .ref a ∧ H a = some (.lst us) ∧ RVs K al H xs us := by
  cases v with
  | tl ys =>
    cases e
    obtain ⟨a, us, e, s, q⟩ := rv.tl_of
    exact ⟨a, us, e, s.1, q⟩
  | ref l =>
    obtain ⟨a, e1, e2⟩ := rv.ref_of
    obtain ⟨us, q1, q2, _⟩ := r.wl e2 e
    exact ⟨a, us, e1, q1, q2⟩
  | _ => cases e

/-! ### data -/
theorem dpAll_of {f : Val → Option PyData} (hf : ∀ v d u, f v = some d → RV K al H v u → Dp K.K H u d) : ∀ {xs : List Val} {ds : List PyData} {us : List V}, optAll f xs = some ds → RVs K al H xs us → DpAll K.K H us ds
  | [], ds, us, e, r => by
    simp only [RVs] at r
    subst r
    cases e
    exact .nil
  | x :: xs, ds, us, e, r => by
    simp only [RVs] at r
    obtain ⟨u, rest, e', h1, h2⟩ := r
    subst e'
    unfold optAll at e
    cases q : f x with
    | none => rw [q] at e; cases e
    | some d =>
      rw [q] at e
      simp only at e
      cases q2 : optAll f xs with
      | none => rw [q2] at e; cases e
      | some ds' =>
        rw [q2] at e
        simp only at e
        cases e
        exact .cons (hf x d u q h1) (dpAll_of hf q2 h2)
theorem toD_of (r : RH K al h H) : ∀ (n : Nat) (v : Val) (d : PyData) (u : V), toD h n v = some d → RV K al H v u → Dp K.K H u d
  | 0, v, d, u, e, rv => by simp [toD] at e
  | n + 1, v, d, u, e, rv => by
    cases v with
    | non => simp only [toD, Option.some.injEq] at e; subst e; rw [rv.non_of]; exact .non
    | bl b => simp only [toD, Option.some.injEq] at e; subst e; rw [rv.bl_of]; exact .bl b
    | int i => simp only [toD, Option.some.injEq] at e; subst e; rw [rv.int_of]; exact .int i
    | str x =>
      simp only [toD] at e
      split at e
      · simp only [Option.some.injEq] at e; subst e; rw [rv.str_of]; exact .str x
      · cases e
    | tup xs =>
      simp only [toD, Option.map_eq_some_iff] at e
      obtain ⟨ds, q, e⟩ := e
      subst e
      obtain ⟨a, us, e1, s, rs⟩ := rv.tup_of
      subst e1
      exact .tup s.sq (dpAll_of (fun v d u e rv => toD_of r n v d u e rv) q rs)
    | tl xs =>
      simp only [toD, Option.map_eq_some_iff] at e
      obtain ⟨ds, q, e⟩ := e
      subst e
      obtain ⟨a, us, e1, s, rs⟩ := rv.tl_of
      subst e1
      exact .lst (SqL.of s.1) (dpAll_of (fun v d u e rv => toD_of r n v d u e rv) q rs)
    | ref l =>
      simp only [toD] at e
      split at e
      · rename_i xs q
        simp only [Option.map_eq_some_iff] at e
        obtain ⟨ds, q2, e⟩ := e
        subst e
        obtain ⟨a, e1, e2⟩ := rv.ref_of
        obtain ⟨us, rd, rs⟩ := r.rl e2 q
        subst e1
        exact .lst (.inl rd) (dpAll_of (fun v d u e rv => toD_of r n v d u e rv) q2 rs)
      · cases e
    | scr => simp [toD] at e
    | sl a ns => simp [toD] at e
theorem layAll_of {f : Val → Option PyData} {n : Nat} (hf : ∀ v d, f v = some d → d.canLay0 = true ∧ d.depth ≤ n) : ∀ {xs : List Val} {ds : List PyData}, optAll f xs = some ds → PyData.canLayAll0 ds = true ∧ PyData.depthAll ds ≤ n
  | [], ds, e => by cases e; exact ⟨by simp [PyData.canLayAll0], by simp [PyData.depthAll]⟩
  | x :: xs, ds, e => by
    unfold optAll at e
    cases q : f x with
    | none => rw [q] at e; cases e
    | some d =>
      rw [q] at e
      simp only at e
      cases q2 : optAll f xs with
      | none => rw [q2] at e; cases e
      | some ds' =>
        rw [q2] at e
        simp only at e
        cases e
        obtain ⟨a1, a2⟩ := hf x d q
        obtain ⟨b1, b2⟩ := layAll_of hf q2
        exact ⟨by simp [PyData.canLayAll0, a1, b1], by simp only [PyData.depthAll]; omega⟩
theorem toD_lay : ∀ (n : Nat) (v : Val) (d : PyData), toD h n v = some d → d.canLay0 = true ∧ d.depth ≤ n
  | 0, v, d, e => by simp [toD] at e
  | n + 1, v, d, e => by
    cases v with
    | non => simp only [toD, Option.some.injEq] at e; subst e; simp [PyData.canLay0, PyData.depth]
    | bl b => simp only [toD, Option.some.injEq] at e; subst e; simp [PyData.canLay0, PyData.depth]
    | int i => simp only [toD, Option.some.injEq] at e; subst e; simp [PyData.canLay0, PyData.depth]
    | str x =>
      simp only [toD] at e
      split at e
      · rename_i q
        simp only [Option.some.injEq] at e; subst e; simp [PyData.canLay0, PyData.depth, q]
      · cases e
    | tup xs =>
      simp only [toD, Option.map_eq_some_iff] at e
      obtain ⟨ds, q, e⟩ := e
      subst e
      obtain ⟨a, b⟩ := layAll_of (fun v d e => toD_lay n v d e) q
      exact ⟨by simpa [PyData.canLay0] using a, by simp only [PyData.depth]; omega⟩
    | tl xs =>
      simp only [toD, Option.map_eq_some_iff] at e
      obtain ⟨ds, q, e⟩ := e
      subst e
      obtain ⟨a, b⟩ := layAll_of (fun v d e => toD_lay n v d e) q
      exact ⟨by simpa [PyData.canLay0] using a, by simp only [PyData.depth]; omega⟩
    | ref l =>
      simp only [toD] at e
      split at e
      · simp only [Option.map_eq_some_iff] at e
        obtain ⟨ds, q, e⟩ := e
        subst e
        obtain ⟨a, b⟩ := layAll_of (fun v d e => toD_lay n v d e) q
        exact ⟨by simpa [PyData.canLay0] using a, by simp only [PyData.depth]; omega⟩
      · cases e
    | scr => simp [toD] at e
    | sl a ns => simp [toD] at e
theorem toD_shaped {v : Val} {d : PyData} (e : toD h 16 v = some d) : SeqAt.shaped d = true := by
  obtain ⟨a, b⟩ := toD_lay 16 v d e
  unfold SeqAt.shaped
  rw [a, decide_eq_true (by omega)]
  rfl
theorem veq_of {v w : Val} {b : Bool} {x y : V} (r : RH K al h H) (e : veq h v w = some b) (r1 : RV K al H v x) (r2 : RV K al H w y) : ∃ d e, Dp K.K H x d ∧ Dp K.K H y e ∧ SeqAt.shaped d = true ∧ SeqAt.shaped e = true ∧ b = PyData.eqv d e := by
  have gen : (match toD h 16 v, toD h 16 w with
    | some d, some e => some (PyData.eqv d e)
    | _, _ => none) = some b → ∃ d e, Dp K.K H x d ∧ Dp K.K H y e ∧ SeqAt.shaped d = true ∧ SeqAt.shaped e = true ∧ b = PyData.eqv d e := fun e => by
    split at e
    · rename_i d e' q1 q2
      cases e
      exact ⟨d, e', toD_of r _ _ _ _ q1 r1, toD_of r _ _ _ _ q2 r2, toD_shaped q1, toD_shaped q2, rfl⟩
    · cases e
  unfold veq at e
  split at e
  · cases e
    rw [r1.int_of, r2.int_of]
    exact ⟨_, _, .int _, .int _, rfl, rfl, by simp [PyData.eqv]; exact (Bool.beq_eq_decide_eq _ _).symm⟩
  · cases e
    rw [r1.bl_of, r2.bl_of]
    exact ⟨_, _, .bl _, .bl _, rfl, rfl, by simp [PyData.eqv]; exact (Bool.beq_eq_decide_eq _ _).symm⟩
  · exact gen e

end
/-! ### the rules by values -/
def pyB : Bop → Operator
  | .add => .Add | .sub => .Sub | .mul => .Mult | .fdiv => .FloorDiv | .mod => .Mod | .pow => .Pow | .band => .BitAnd | .bxor => .BitXor | .shl => .LShift | .shr => .RShift
def pyC : Cop → CmpOp
  | .eq => .Eq | .ne => .NotEq | .lt => .Lt | .le => .LtE | .gt => .Gt | .ge => .GtE | .is => .Is | .nis => .IsNot | .mem => .In | .nmem => .NotIn
def rO (F : PySem.W.Frag) (f : Val → Val → Hs → T (Val × Hs)) : R2 := fun x y H Q => ∃ K al h v w, K.K = F ∧ RH K al h H ∧ RV K al H v x ∧ RV K al H w y ∧ (f v w h).All (Pt K al h H Q)
def rC (F : PySem.W.Frag) (f : Val → Val → Hs → Option Bool) : R2 := fun x y H Q => ∃ K al h v w k, K.K = F ∧ RH K al h H ∧ RV K al H v x ∧ RV K al H w y ∧ f v w h = some k ∧ Q (.bl k) H
section
variable {X : Cx}
theorem small_lt {n : Nat} (h : small n = true) : n < sizeLine := by
  have h1 : n ≤ 1048576 := Nat.le_of_ble_eq_true h
  have h2 : sizeLine = 16777216 := by decide
  omega
theorem bop_int {op : Bop} {i j : Int} {k : Int} (e : bopI op i j = some k) {H : Hp} {Q : V → Hp → Prop} (q : Q (.int k) H) :
    ∀ (pins : List (Addr × Obj)) (s : Shared) (σ : St) (v u : Value), Inv X pins σ H s → RelV (.int i) v → RelV (.int j) u → wpAny (model X.prog X.w) X.A (binaryOp (pyB op) v u) (EP X pins σ Q) X.xe s := by
  intro pins s σ v u I r1 r2
  cases op with
  | add => cases e; exact op_add pins s σ H _ _ v u Q I r1 r2 ⟨i, j, rfl, rfl, q⟩
  | sub => cases e; exact op_sub pins s σ H _ _ v u Q I r1 r2 ⟨i, j, rfl, rfl, q⟩
  | mul =>
    simp only [bopI] at e
    split at e
    · rename_i z
      cases e
      rw [Bool.and_eq_true, Nat.blt_eq, Nat.blt_eq] at z
      refine op_mulW pins s σ H _ _ v u Q I r1 r2 ⟨i, j, rfl, rfl, ?_, q⟩
      unfold CMulW
      omega
    · cases e
  | fdiv =>
    simp only [bopI] at e
    split at e
    · rename_i z
      cases e
      rw [Bool.and_eq_true, Nat.blt_eq, decide_eq_true_eq] at z
      exact op_fdivW pins s σ H _ _ v u Q I r1 r2 ⟨i, j, rfl, rfl, z, q⟩
    · split at e
      · rename_i z
        cases e
        rw [Bool.and_eq_true, Nat.blt_eq, decide_eq_true_eq] at z
        exact op_fdivN pins s σ H _ _ v u Q I r1 r2 ⟨i, j, rfl, rfl, z, q⟩
      · cases e
  | mod =>
    simp only [bopI] at e
    split at e
    · rename_i z
      cases e
      exact op_mod pins s σ H _ _ v u Q I r1 r2 ⟨i, j, rfl, rfl, of_decide_eq_true z, q⟩
    · split at e
      · rename_i z
        cases e
        exact op_modN pins s σ H _ _ v u Q I r1 r2 ⟨i, j, rfl, rfl, of_decide_eq_true z, q⟩
      · cases e
  | pow =>
    simp only [bopI] at e
    split at e
    · rename_i z
      cases e
      rw [Bool.and_eq_true, Bool.and_eq_true, Nat.blt_eq, decide_eq_true_eq, decide_eq_true_eq] at z
      refine op_pow pins s σ H _ _ v u Q I r1 r2 ⟨i, j, rfl, rfl, ?_, q⟩
      unfold CPow
      omega
    · cases e
  | band => cases e; exact op_and pins s σ H _ _ v u Q I r1 r2 ⟨i, j, rfl, rfl, q⟩
  | bxor => cases e; exact op_xor pins s σ H _ _ v u Q I r1 r2 ⟨i, j, rfl, rfl, q⟩
  | shl =>
    simp only [bopI] at e
    split at e
    · rename_i z
      cases e
      rw [Bool.and_eq_true, Bool.and_eq_true, Nat.blt_eq, decide_eq_true_eq, decide_eq_true_eq] at z
      refine op_shl pins s σ H _ _ v u Q I r1 r2 ⟨i, j, rfl, rfl, ?_, q⟩
      unfold CPow
      omega
    · cases e
  | shr =>
    simp only [bopI] at e
    split at e
    · rename_i z
      cases e
      exact op_shr pins s σ H _ _ v u Q I r1 r2 ⟨i, j, rfl, rfl, of_decide_eq_true z, q⟩
    · cases e
theorem or_bin (op : Bop) (m : Bool) : OpR X (binaryOp (pyB op)) (rO X.K (bopV op m)) := by
  intro pins s σ H x y v u Q I r1 r2 hq
  obtain ⟨K, al, h, a, b, eK, rh, ra, rb, p⟩ := hq
  -- a list times a number
  have rep : ∀ k : Int, b = .int k → (match op with
      | .mul => match itemsW h a with
        | some xs => if decide (0 ≤ k) && decide (k ≤ 100000) && small (xs.length * k.toNat) then mkL m (List.replicate k.toNat xs).flatten h else .no
        | none => .no
      | _ => .no).All (Pt K al h H Q) → wpAny (model X.prog X.w) X.A (binaryOp (pyB op) v u) (EP X pins σ Q) X.xe s := fun k eb pq => by
    subst eb
    cases op with
    | mul =>
      simp only at pq
      split at pq
      · rename_i xs q
        split at pq
        · rename_i z
          rw [Bool.and_eq_true, Bool.and_eq_true, decide_eq_true_eq, decide_eq_true_eq] at z
          obtain ⟨a', us, e1, e2, rs⟩ := itemsW_of rh q ra
          subst e1
          have ey := rb.int_of
          subst ey
          refine op_rep pins s σ H _ _ v u Q I r1 r2 ⟨a', k, us, rfl, rfl, e2, by omega, by omega, ?_, fun p' np => Pt.mk pq rh (rs.rep _) np⟩
          rw [← rs.length]
          exact Nat.le_of_lt (small_lt z.2)
        · exact pq.elim
      · exact pq.elim
    | _ => exact pq.elim
  have cat : (match op with
      | .add => match itemsW h a, itemsW h b with
        | some xs, some ys => if small (xs.length + ys.length) then mkL m (xs ++ ys) h else .no
        | _, _ => .no
      | _ => .no).All (Pt K al h H Q) → wpAny (model X.prog X.w) X.A (binaryOp (pyB op) v u) (EP X pins σ Q) X.xe s := fun pq => by
    cases op with
    | add =>
      simp only at pq
      split at pq
      · rename_i xs ys q1 q2
        split at pq
        · rename_i z
          obtain ⟨a1, us, e1, e2, rs⟩ := itemsW_of rh q1 ra
          obtain ⟨a2, ws, e3, e4, rs2⟩ := itemsW_of rh q2 rb
          subst e1 e3
          refine op_cat pins s σ H _ _ v u Q I r1 r2 ⟨a1, a2, us, ws, rfl, rfl, e2, e4, ?_, fun p' np => Pt.mk pq rh (rs.append rs2) np⟩
          rw [← rs.length, ← rs2.length]
          exact Nat.le_of_lt (small_lt z)
        · exact pq.elim
      · exact pq.elim
    | _ => exact pq.elim
  unfold bopV at p
  split at p
  · rename_i i j
    have e1 := ra.int_of
    have e2 := rb.int_of
    subst e1 e2
    rw [T.all_bind] at p
    cases e : bopI op i j with
    | none => rw [e] at p; exact p.elim
    | some k =>
      rw [e] at p
      exact bop_int e (Pt.here p rh (.int k)) pins s σ v u I r1 r2
  · rename_i xs ys
    obtain ⟨a1, us, e1, s1, rs1⟩ := ra.tup_of
    obtain ⟨a2, ws, e2, s2, rs2⟩ := rb.tup_of
    subst e1 e2
    cases op with
    | add =>
      simp only at p
      split at p
      · rename_i z
        have hl : us.length + ws.length ≤ sizeLine := by
          rw [← rs1.length, ← rs2.length]
          exact Nat.le_of_lt (small_lt z)
        refine op_catA pins s σ H _ _ v u Q I r1 r2 ⟨a1, a2, us, ws, rfl, rfl, eK ▸ s1.sq, eK ▸ s2.sq, hl, fun e => ?_, fun _ e => ?_, fun _ _ p' np => Pt.tup p rh (rs1.append rs2) np⟩
        · subst e
          have e' : xs = [] := List.length_eq_zero_iff.mp (by rw [rs1.length]; rfl)
          subst e'
          exact Pt.here p rh rb
        · subst e
          have e' : ys = [] := List.length_eq_zero_iff.mp (by rw [rs2.length]; rfl)
          subst e'
          rw [List.append_nil] at p
          exact Pt.here p rh ra
      · exact p.elim
    | _ => exact p.elim
  · rename_i x' y'
    have e1 := ra.str_of
    have e2 := rb.str_of
    subst e1 e2
    cases op with
    | add =>
      simp only at p
      split at p
      · rename_i z
        exact op_add_str pins s σ H _ _ v u Q I r1 r2 ⟨x', y', rfl, rfl, Nat.le_of_lt (small_lt z), Pt.here p rh (.str _)⟩
      · exact p.elim
    | _ => exact p.elim
  · exact rep _ rfl p
  · exact cat p
theorem un_negR : UnR X (unaryOp .USub) (fun x H Q => ∃ i, x = V.int i ∧ Q (.int (-i)) H) := un_neg
end
end Eng
/-! Comparisons, subscripts, built-ins, methods, stores, by values. -/
namespace Eng
open PySem L2
section
variable {X : Cx}
theorem lt_units {k : Nat} {A : Around} (hr : Room k A) : A.units + 65 < cLine := by have := hr.un; omega
theorem toV_of {al : List Addr} {H : Hp} {K : Cn} {v : Val} {a x : V} (e : toV v = some a) (rv : RV K al H v x) : x = a ∧ flatV a = true := by
  cases v <;> simp only [toV, Option.some.injEq, reduceCtorEq] at e <;> subst e
  · exact ⟨rv.non_of, rfl⟩
  · exact ⟨rv.bl_of, rfl⟩
  · exact ⟨rv.int_of, rfl⟩
  · exact ⟨rv.str_of, rfl⟩
theorem toVs_of {al : List Addr} {H : Hp} {K : Cn} : ∀ {xs : List Val} {us ws : List V}, optAll toV xs = some us → RVs K al H xs ws → ws = us ∧ us.all flatV = true
  | [], us, ws, e, r => by
    simp only [RVs] at r
    subst r
    cases e
    exact ⟨rfl, rfl⟩
  | x :: xs, us, ws, e, r => by
    simp only [RVs] at r
    obtain ⟨u, rest, e', h1, h2⟩ := r
    subst e'
    unfold optAll at e
    cases q : toV x with
    | none => rw [q] at e; cases e
    | some d =>
      rw [q] at e
      simp only at e
      cases q2 : optAll toV xs with
      | none => rw [q2] at e; cases e
      | some ds' =>
        rw [q2] at e
        simp only at e
        cases e
        obtain ⟨a1, a2⟩ := toV_of q h1
        obtain ⟨b1, b2⟩ := toVs_of q2 h2
        exact ⟨by rw [a1, b1], by simp [a2, b2]⟩
/-- v in w: a tuple of flat things, or a list of data -/
theorem memV_of {al : List Addr} {H : Hp} {h : Hs} {K : Cn} {v w : Val} {b : Bool} {x y : V} (r : RH K al h H) (e : memV h v w = some b) (r1 : RV K al H v x) (r2 : RV K al H w y) :
    (∃ a us, y = .ref a ∧ SqT K.K H a us ∧ flatV x = true ∧ us.all flatV = true ∧ b = inV x us) ∨
    ∃ d ds, Dp K.K H x d ∧ Dp K.K H y (.list ds) ∧ SeqAt.shaped d = true ∧ SeqAt.shaped (.list ds) = true ∧ b = ds.any fun z => PyData.eqv z d := by
  unfold memV at e
  split at e
  · rename_i xs
    split at e
    · rename_i a us q1 q2
      cases e
      obtain ⟨c, ws, e1, s, rs⟩ := r2.tup_of
      obtain ⟨z1, z2⟩ := toV_of q1 r1
      obtain ⟨z3, z4⟩ := toVs_of q2 rs
      subst z1 z3
      exact .inl ⟨c, _, e1, s.sq, z2, z4, rfl⟩
    · cases e
  · split at e
    · rename_i xs d q1 q2
      split at e
      · rename_i ds q3
        cases e
        obtain ⟨a, us, e1, s, rs⟩ := itemsL_of r q1 r2
        subst e1
        refine .inr ⟨d, ds, toD_of r _ _ _ _ q2 r1, .lst s (dpAll_of (fun v d u e rv => toD_of r 15 v d u e rv) q3 rs), toD_shaped q2, ?_, rfl⟩
        obtain ⟨l1, l2⟩ := layAll_of (fun v d e => toD_lay 15 v d e) q3
        have e1 : PyData.canLay0 (.list ds) = true := by simpa [PyData.canLay0] using l1
        have e2 : PyData.depth (.list ds) ≤ 64 := by simp only [PyData.depth]; omega
        unfold SeqAt.shaped
        rw [e1, decide_eq_true e2]
        rfl
      · cases e
    · cases e
theorem or_cmp {k : Nat} (hr : Room k X.A) (op : Cop) : OpR X (compareOp (pyC op)) (rC X.K (copV op)) := by
  intro pins s σ H x y v u Q I r1 r2 hq
  obtain ⟨K, al, h, a, b, k, eK, rh, ra, rb, e, q⟩ := hq
  have hu := lt_units hr
  have hu0 : X.A.units + 64 < cLine := by omega
  unfold copV at e
  split at e
  · rename_i i j
    have e1 := ra.int_of
    have e2 := rb.int_of
    subst e1 e2
    cases op <;> simp only [copI, Option.some.injEq, reduceCtorEq] at e <;> subst e
    · exact op_eqD hu0 pins s σ H _ _ v u Q I r1 r2 ⟨_, _, .int i, .int j, rfl, rfl, by simp only [PyData.eqv, Bool.beq_eq_decide_eq]; exact q⟩
    · exact op_neD hu0 pins s σ H _ _ v u Q I r1 r2 ⟨_, _, .int i, .int j, rfl, rfl, by simp only [PyData.eqv, Bool.beq_eq_decide_eq]; exact q⟩
    · exact op_lt pins s σ H _ _ v u Q I r1 r2 ⟨i, j, rfl, rfl, q⟩
    · exact op_le pins s σ H _ _ v u Q I r1 r2 ⟨i, j, rfl, rfl, q⟩
    · exact op_gt pins s σ H _ _ v u Q I r1 r2 ⟨i, j, rfl, rfl, q⟩
    · exact op_ge pins s σ H _ _ v u Q I r1 r2 ⟨i, j, rfl, rfl, q⟩
  · have isN : ∀ c : Bool, (decide (x = V.non) = c) → b = .non → pyC op = .Is → Q (.bl c) H → wpAny (model X.prog X.w) X.A (compareOp (pyC op) v u) (EP X pins σ Q) X.xe s := fun c e1 e2 e3 q => by
      subst e2
      have e4 := rb.non_of
      subst e4
      rw [e3]
      exact op_isN pins s σ H _ _ v u Q I r1 r2 ⟨rfl, by rw [e1]; exact q⟩
    have isNN : ∀ c : Bool, (decide (x = V.non) = !c) → b = .non → pyC op = .IsNot → Q (.bl c) H → wpAny (model X.prog X.w) X.A (compareOp (pyC op) v u) (EP X pins σ Q) X.xe s := fun c e1 e2 e3 q => by
      subst e2
      have e4 := rb.non_of
      subst e4
      rw [e3]
      exact op_notN pins s σ H _ _ v u Q I r1 r2 ⟨rfl, by rw [e1, Bool.not_not]; exact q⟩
    cases op with
    | eq =>
      simp only at e
      obtain ⟨d, d', p1, p2, s1, s2, e⟩ := veq_of rh e ra rb
      subst e
      exact op_eqD hu0 pins s σ H _ _ v u Q I r1 r2 ⟨d, d', eK ▸ p1, eK ▸ p2, s1, s2, q⟩
    | ne =>
      simp only [Option.map_eq_some_iff] at e
      obtain ⟨c, e, e'⟩ := e
      subst e'
      obtain ⟨d, d', p1, p2, s1, s2, e⟩ := veq_of rh e ra rb
      subst e
      exact op_neD hu0 pins s σ H _ _ v u Q I r1 r2 ⟨d, d', eK ▸ p1, eK ▸ p2, s1, s2, q⟩
    | is =>
      simp only at e
      split at e
      · cases e
        rw [ra.bl_of] at r1
        rw [rb.bl_of] at r2
        exact op_isBl pins s σ H _ _ v u Q I r1 r2 ⟨_, _, rfl, rfl, q⟩
      · cases e
        exact isN true (by rw [ra.non_of]; rfl) rfl rfl q
      · cases e
        obtain ⟨a', e1, _⟩ := ra.ref_of
        exact isN false (by rw [e1]; rfl) rfl rfl q
      · cases e
        obtain ⟨a', _, e1, _⟩ := ra.tup_of
        exact isN false (by rw [e1]; rfl) rfl rfl q
      · cases e
        obtain ⟨a', _, e1, _⟩ := ra.tl_of
        exact isN false (by rw [e1]; rfl) rfl rfl q
      · cases e
        exact isN false (by rw [ra.int_of]; rfl) rfl rfl q
      · cases e
        exact isN false (by rw [ra.bl_of]; rfl) rfl rfl q
      · cases e
        exact isN false (by rw [ra.str_of]; rfl) rfl rfl q
      · cases e
    | nis =>
      simp only at e
      split at e
      · cases e
        rw [ra.bl_of] at r1
        rw [rb.bl_of] at r2
        exact op_notBl pins s σ H _ _ v u Q I r1 r2 ⟨_, _, rfl, rfl, q⟩
      · cases e
        exact isNN false (by rw [ra.non_of]; rfl) rfl rfl q
      · cases e
        obtain ⟨a', e1, _⟩ := ra.ref_of
        exact isNN true (by rw [e1]; rfl) rfl rfl q
      · cases e
        obtain ⟨a', _, e1, _⟩ := ra.tup_of
        exact isNN true (by rw [e1]; rfl) rfl rfl q
      · cases e
        obtain ⟨a', _, e1, _⟩ := ra.tl_of
        exact isNN true (by rw [e1]; rfl) rfl rfl q
      · cases e
        exact isNN true (by rw [ra.int_of]; rfl) rfl rfl q
      · cases e
        exact isNN true (by rw [ra.bl_of]; rfl) rfl rfl q
      · cases e
        exact isNN true (by rw [ra.str_of]; rfl) rfl rfl q
      · cases e
    | mem =>
      simp only at e
      rcases memV_of rh e ra rb with ⟨c, us, e1, s, f1, f2, e2⟩ | ⟨d, ds, p1, p2, s1, s2, e2⟩
      · subst e1 e2
        exact op_in_seq pins _ σ H _ _ v u Q I r1 r2 ⟨c, us, rfl, .inr (eK ▸ s), f1, f2, q⟩
      · subst e2
        exact op_inD hu pins _ σ H _ _ v u Q I r1 r2 ⟨d, ds, eK ▸ p1, eK ▸ p2, s1, s2, q⟩
    | nmem =>
      simp only [Option.map_eq_some_iff] at e
      obtain ⟨c', e, e'⟩ := e
      subst e'
      rcases memV_of rh e ra rb with ⟨c, us, e1, s, f1, f2, e2⟩ | ⟨d, ds, p1, p2, s1, s2, e2⟩
      · subst e1 e2
        exact op_notIn_seq pins _ σ H _ _ v u Q I r1 r2 ⟨c, us, rfl, .inr (eK ▸ s), f1, f2, q⟩
      · subst e2
        exact op_notInD hu pins _ σ H _ _ v u Q I r1 r2 ⟨d, ds, eK ▸ p1, eK ▸ p2, s1, s2, q⟩
    | _ => cases e

/-! ### subscripts -/
theorem ixI_eq (n : Nat) (i : Int) : ixI n i = ixN n i := by
  unfold ixI ixN
  by_cases h1 : 0 ≤ i
  · simp only [h1, decide_true, if_true]
    by_cases h2 : i < n <;> simp [h2]
  · simp only [h1, decide_false, if_false, Bool.false_eq_true]
    by_cases h2 : -(n : Int) ≤ i <;> simp [h2]
def rS (F : PySem.W.Frag) : R2 := fun x y H Q => ∃ K al h v w z, K.K = F ∧ RH K al h H ∧ RV K al H v x ∧ RV K al H w y ∧ subV v w h = some z ∧ ∀ u, RV K al H z u → Q u H
theorem ix_ok : IxR X (rS X.K) := by
  intro value slice pins s σ H x y v u Q I r1 r2 hq hs
  obtain ⟨K, al, h, a, b, z, eK, rh, ra, rb, e, q⟩ := hq
  unfold subV at e
  split at e
  · rename_i k
    have ey := rb.int_of
    subst ey
    split at e
    · rename_i xs q1
      split at e
      · rename_i j q2
        obtain ⟨c, us, e1, sq, rs⟩ := items_of rh q1 ra
        subst e1
        obtain ⟨w, hw, rw'⟩ := rs.get e
        have hat : atI us k = some w := by
          unfold atI
          rw [← ixI_eq, ← rs.length, q2]
          exact hw
        rcases sq with sq | sq
        · exact ix_list value slice pins s σ H _ _ v u Q I r1 r2 ⟨c, us, k, w, rfl, rfl, eK ▸ sq, hat, q w rw'⟩ hs
        · exact ix_tup value slice pins s σ H _ _ v u Q I r1 r2 ⟨c, us, k, w, rfl, rfl, eK ▸ sq, hat, q w rw'⟩ hs
      · cases e
    · cases e
  · cases e
theorem slX_eq (n d : Nat) (x : Option Int) : slX n d x = HT.sIx n d x := by
  unfold slX HT.sIx
  cases x with
  | none => rfl
  | some v =>
    simp only
    by_cases h : v < 0 <;> simp [h]
theorem cut_eq (xs : List V) (lo hi : Option Int) : cutL xs lo hi = cutV xs lo hi := by
  unfold cutL cutV
  rw [slX_eq, slX_eq]
theorem RVs.cut {K : Cn} {al : List Addr} {H : Hp} {xs : List Val} {us : List V} (r : RVs K al H xs us) (lo hi : Option Int) : RVs K al H (cutL xs lo hi) (cutV us lo hi) := by
  rw [← cut_eq]
  unfold cutL
  rw [r.length]
  exact (r.drop _).take _
def rSl (F : PySem.W.Frag) (m : Bool) : V → Option Int → Option Int → Hp → VK → Prop := fun x lo hi H Q => ∃ K al h v, K.K = F ∧ RH K al h H ∧ RV K al H v x ∧ (slcV m v lo hi h).All (Pt K al h H Q)
theorem sl_ok (m : Bool) : SlR X (rSl X.K m) := by
  intro pins s σ H x v vl vu lo hi sl Q I r1 hs p1 p2 hq
  obtain ⟨K, al, h, a, eK, rh, ra, p⟩ := hq
  unfold slcV at p
  split at p
  · rename_i xs
    obtain ⟨c, us, e1, st, rs⟩ := ra.tup_of
    subst e1
    refine sl_tupA pins s σ H _ v vl vu lo hi sl Q I r1 hs p1 p2 ⟨c, us, rfl, eK ▸ st.sq, fun ⟨z1, z2⟩ => ?_, fun _ q np => Pt.tup p rh (rs.cut lo hi) np⟩
    have e : cutL xs lo hi = xs := by
      unfold cutL
      rw [rs.length, slX_eq, slX_eq, z1, z2, List.drop_zero, Nat.sub_zero, ← rs.length, List.take_length]
    rw [e] at p
    exact Pt.here p rh ra
  · split at p
    · rename_i xs q1
      obtain ⟨c, us, e1, sq, rs⟩ := itemsL_of rh q1 ra
      subst e1
      exact sl_list pins s σ H _ v vl vu lo hi sl Q I r1 hs p1 p2 ⟨c, us, rfl, eK ▸ sq, fun q np => Pt.mk p rh (rs.cut lo hi) np⟩
    · exact p.elim

/-! ### o[i] = v -/
def rSet (F : PySem.W.Frag) : TSet := fun o i v H Q => ∃ K al h a b c, K.K = F ∧ RH K al h H ∧ RV K al H a o ∧ RV K al H b i ∧ RV K al H c v ∧ (setV a b c h).All fun h' => ∀ H', Ext al h H al h' H' → RH K al h' H' → Q H'
theorem set_ok : PSet X (rSet X.K) := by
  intro pins s σ H o i v ov iv u Q I r1 r2 r3 hq
  obtain ⟨K, al, h, a, b, c, eK, rh, ra, rb, rc, p⟩ := hq
  unfold setV at p
  split at p
  · rename_i l k
    split at p
    · rename_i xs q1
      split at p
      · rename_i j q2
        obtain ⟨d, e1, e2⟩ := ra.ref_of
        have ei := rb.int_of
        subst e1 ei
        obtain ⟨us, hd, rs, nk⟩ := rh.wl e2 q1
        refine set_list pins s σ H _ _ _ ov iv u Q I r1 r2 r3 ⟨d, us, k, j, rfl, rfl, hd, by rw [← ixI_eq, ← rs.length]; exact q2, ?_⟩
        refine p _ (Ext.put rh e2 fun od w z => by rw [hd] at z; cases z) (rh.put e2 ⟨us.set j v, ?_, (rs.mono (Kp.put rh e2)).set (rc.mono (Kp.put rh e2))⟩)
        rw [nk, if_neg Bool.false_ne_true]
        exact upd_same
      · exact p.elim
    · exact p.elim
  · exact p.elim
end
end Eng
/-! Built-ins and methods, by values. -/
namespace Eng
open PySem L2
section
variable {K : Cn} {al : List Addr} {H : Hp} {h : Hs}
theorem RVs.none_of {us : List V} (r : RVs K al H [] us) : us = [] := by simpa only [RVs] using r
theorem RVs.one_of {x : Val} {us : List V} (r : RVs K al H [x] us) : ∃ u, us = [u] ∧ RV K al H x u := by
  simp only [RVs] at r
  obtain ⟨u, r', e, h1, h2⟩ := r
  subst h2
  exact ⟨u, e, h1⟩
theorem RVs.two_of {x y : Val} {us : List V} (r : RVs K al H [x, y] us) : ∃ u w, us = [u, w] ∧ RV K al H x u ∧ RV K al H y w := by
  simp only [RVs] at r
  obtain ⟨u, r', e, h1, w, r2, e2, h2, h3⟩ := r
  subst h3 e2
  exact ⟨u, w, e, h1, h2⟩
theorem RVs.three_of {x y z : Val} {us : List V} (r : RVs K al H [x, y, z] us) : ∃ u w t, us = [u, w, t] ∧ RV K al H x u ∧ RV K al H y w ∧ RV K al H z t := by
  simp only [RVs] at r
  obtain ⟨u, r', e, h1, w, r2, e2, h2, t, r3, e3, h3, h4⟩ := r
  subst h4 e3 e2
  exact ⟨u, w, t, e, h1, h2, h3⟩
end

/-! ### sorting, the greatest, the least -/
theorem insI_perm (x : Int) : ∀ xs, (insI x xs).Perm (x :: xs)
  | [] => .refl _
  | y :: ys => by
    unfold insI
    split
    · exact .refl _
    · exact ((insI_perm x ys).cons y).trans (.swap x y ys)
theorem sortI_perm : ∀ xs, (sortI xs).Perm xs
  | [] => .refl _
  | x :: xs => (insI_perm x _).trans ((sortI_perm xs).cons x)
theorem insI_sorted (x : Int) : ∀ {xs : List Int}, xs.Pairwise (· ≤ ·) → (insI x xs).Pairwise (· ≤ ·)
  | [], _ => by simp [insI]
  | y :: ys, h => by
    unfold insI
    rw [List.pairwise_cons] at h
    split
    · rename_i q
      have q : x ≤ y := of_decide_eq_true q
      rw [List.pairwise_cons, List.pairwise_cons]
      refine ⟨fun z hz => ?_, h⟩
      rcases List.mem_cons.mp hz with e | e
      · rw [e]; exact q
      · exact Int.le_trans q (h.1 z e)
    · rename_i q
      have q : ¬ x ≤ y := fun z => q (decide_eq_true z)
      rw [List.pairwise_cons]
      refine ⟨fun z hz => ?_, insI_sorted x h.2⟩
      rcases List.mem_cons.mp ((insI_perm x ys).mem_iff.mp hz) with e | e
      · rw [e]; omega
      · exact h.1 z e
theorem sortI_sorted : ∀ xs, (sortI xs).Pairwise (· ≤ ·)
  | [] => .nil
  | x :: xs => insI_sorted x (sortI_sorted xs)
theorem sorted_one {xs ys : List Int} (p : xs.Perm ys) (h1 : xs.Pairwise (· ≤ ·)) (h2 : ys.Pairwise (· ≤ ·)) : xs = ys := by
  induction xs generalizing ys with
  | nil => exact (List.nil_perm.mp p).symm
  | cons x xs ih =>
    cases ys with
    | nil => exact absurd p.length_eq (by simp)
    | cons y ys =>
      rw [List.pairwise_cons] at h1 h2
      have e : x = y := by
        have m1 : x ∈ y :: ys := p.mem_iff.mp List.mem_cons_self
        have m2 : y ∈ x :: xs := p.mem_iff.mpr List.mem_cons_self
        rcases List.mem_cons.mp m1 with e | e
        · exact e
        · rcases List.mem_cons.mp m2 with e' | e'
          · exact e'.symm
          · have a := h1.1 y e'
            have b := h2.1 x e
            omega
      subst e
      rw [ih (List.Perm.cons_inv p) h1.2 h2.2]
theorem sortI_eq {xs ys : List Int} (p : ys.Perm xs) (h : ys.Pairwise (· ≤ ·)) : ys = sortI xs := sorted_one (p.trans (sortI_perm xs).symm) h (sortI_sorted xs)
theorem maxI_mem : ∀ (m : Int) (xs : List Int), maxI m xs ∈ m :: xs
  | m, [] => List.mem_cons_self
  | m, x :: xs => by
    unfold maxI
    have h := maxI_mem (if decide (m < x) then x else m) xs
    rcases List.mem_cons.mp h with e | e
    · rw [e]
      split
      · simp
      · simp
    · exact List.mem_cons_of_mem _ (List.mem_cons_of_mem _ e)
theorem maxI_le : ∀ (m : Int) (xs : List Int), ∀ y ∈ m :: xs, y ≤ maxI m xs
  | m, [], y, hy => by
    rw [List.mem_singleton] at hy
    rw [hy]
    exact Int.le_refl _
  | m, x :: xs, y, hy => by
    unfold maxI
    have h := maxI_le (if decide (m < x) then x else m) xs
    have h0 := h _ List.mem_cons_self
    rcases List.mem_cons.mp hy with e | hy
    · subst e
      split at h0 <;> rename_i q
      · have : y < x := of_decide_eq_true q
        simp only [q, if_true]
        omega
      · simp only [q, if_false, Bool.false_eq_true]
        exact h0
    · rcases List.mem_cons.mp hy with e | hy
      · subst e
        split at h0 <;> rename_i q
        · simp only [q, if_true]
          exact h0
        · have : ¬ m < y := fun z => q (decide_eq_true z)
          simp only [q, if_false, Bool.false_eq_true]
          omega
      · exact h y (List.mem_cons_of_mem _ hy)
theorem minI_mem : ∀ (m : Int) (xs : List Int), minI m xs ∈ m :: xs
  | m, [] => List.mem_cons_self
  | m, x :: xs => by
    unfold minI
    have h := minI_mem (if decide (x < m) then x else m) xs
    rcases List.mem_cons.mp h with e | e
    · rw [e]
      split
      · simp
      · simp
    · exact List.mem_cons_of_mem _ (List.mem_cons_of_mem _ e)
theorem minI_le : ∀ (m : Int) (xs : List Int), ∀ y ∈ m :: xs, minI m xs ≤ y
  | m, [], y, hy => by
    rw [List.mem_singleton] at hy
    rw [hy]
    exact Int.le_refl _
  | m, x :: xs, y, hy => by
    unfold minI
    have h := minI_le (if decide (x < m) then x else m) xs
    have h0 := h _ List.mem_cons_self
    rcases List.mem_cons.mp hy with e | hy
    · subst e
      split at h0 <;> rename_i q
      · have : x < y := of_decide_eq_true q
        simp only [q, if_true]
        omega
      · simp only [q, if_false, Bool.false_eq_true]
        exact h0
    · rcases List.mem_cons.mp hy with e | hy
      · subst e
        split at h0 <;> rename_i q
        · simp only [q, if_true]
          exact h0
        · have : ¬ y < m := fun z => q (decide_eq_true z)
          simp only [q, if_false, Bool.false_eq_true]
          omega
      · exact h y (List.mem_cons_of_mem _ hy)
theorem max_one {ns : List Int} {m m' : Int} (h1 : m ∈ ns) (h2 : ∀ y ∈ ns, y ≤ m) (h3 : m' ∈ ns) (h4 : ∀ y ∈ ns, y ≤ m') : m = m' := by
  have a := h2 _ h3
  have b := h4 _ h1
  omega
theorem min_one {ns : List Int} {m m' : Int} (h1 : m ∈ ns) (h2 : ∀ y ∈ ns, m ≤ y) (h3 : m' ∈ ns) (h4 : ∀ y ∈ ns, m' ≤ y) : m = m' := by
  have a := h2 _ h3
  have b := h4 _ h1
  omega

def rB (F : PySem.W.Frag) (b : Bi) (m : Bool) : List V → Hp → VK → Prop := fun xs H Q => ∃ K al h vs, K.K = F ∧ RH K al h H ∧ RVs K al H vs xs ∧ (biV b m vs h).All (Pt K al h H Q)
/-- the built-in behind a name -/
def pyBi : Bi → Value
  | .len => .builtin "len" | .abs => .builtin "abs" | .max2 => .builtin "max" | .min2 => .builtin "min" | .int => .type "int" | .bool => .type "bool" | .sum => .builtin "sum"
  | .maxl => .builtin "max" | .minl => .builtin "min" | .any => .builtin "any" | .all => .builtin "all" | .sorted => .builtin "sorted" | .tuple => .type "tuple" | .list => .type "list"
section
variable {X : Cx}
theorem bi_ok (hc : X.calm = true) (b : Bi) (m : Bool) : CallR X (pyBi b) (rB X.K b m) := by
  intro pins s σ H xs us Q I r1 hq
  obtain ⟨K, al, h, vs, eK, rh, rs, p⟩ := hq
  unfold biV at p
  split at p
  · -- len
    obtain ⟨u, e, ru⟩ := rs.one_of
    subst e
    split at p
    · rename_i q1
      obtain ⟨a, ws, e1, sq, rw'⟩ := items_of rh q1 ru
      subst e1
      rw [rw'.length] at p
      exact call_len_seq pins s σ H _ us Q I r1 ⟨a, ws, rfl, eK ▸ sq, Pt.here p rh (.int _)⟩
    · exact p.elim
  · obtain ⟨u, e, ru⟩ := rs.one_of
    rw [ru.int_of] at e
    subst e
    refine call_abs pins s σ H _ us Q I r1 ⟨_, rfl, ?_⟩
    have z := Pt.here p rh (.int _)
    simpa using z
  · obtain ⟨u, w, e, ru, rw'⟩ := rs.two_of
    rw [ru.int_of, rw'.int_of] at e
    subst e
    refine call_max2 hc pins s σ H _ us Q I r1 ⟨_, _, rfl, ?_⟩
    have z := Pt.here p rh (.int _)
    simpa using z
  · obtain ⟨u, w, e, ru, rw'⟩ := rs.two_of
    rw [ru.int_of, rw'.int_of] at e
    subst e
    refine call_min2 hc pins s σ H _ us Q I r1 ⟨_, _, rfl, ?_⟩
    have z := Pt.here p rh (.int _)
    simpa using z
  · obtain ⟨u, e, ru⟩ := rs.one_of
    rw [ru.int_of] at e
    subst e
    exact call_int1 pins s σ H _ us Q I r1 (.inl ⟨_, rfl, Pt.here p rh (.int _)⟩)
  · obtain ⟨u, e, ru⟩ := rs.one_of
    rw [ru.bl_of] at e
    subst e
    exact call_int1 pins s σ H _ us Q I r1 (.inr ⟨_, rfl, Pt.here p rh (.int _)⟩)
  · obtain ⟨u, e, ru⟩ := rs.one_of
    rw [ru.int_of] at e
    subst e
    exact call_bool1 pins s σ H _ us Q I r1 (.inl ⟨_, rfl, Pt.here p rh (.bl _)⟩)
  · obtain ⟨u, e, ru⟩ := rs.one_of
    rw [ru.bl_of] at e
    subst e
    exact call_bool1 pins s σ H _ us Q I r1 (.inr ⟨_, rfl, Pt.here p rh (.bl _)⟩)
  · -- sum
    obtain ⟨u, e, ru⟩ := rs.one_of
    subst e
    split at p
    · rename_i q1
      split at p
      · rename_i ns q2
        obtain ⟨a, ws, e1, sq, rw'⟩ := itemsL_of rh q1 ru
        subst e1
        obtain ⟨z1, z2⟩ := rw'.vints q2
        subst z1
        exact cr_sum hc pins s σ H _ us Q I r1 ⟨a, ns, rfl, eK ▸ sq, Pt.here p rh (.int _)⟩
      · exact p.elim
    · exact p.elim
  · -- max
    obtain ⟨u, e, ru⟩ := rs.one_of
    subst e
    split at p
    · rename_i q1
      split at p
      · rename_i n ns q2
        obtain ⟨a, ws, e1, sq, rw'⟩ := itemsL_of rh q1 ru
        subst e1
        obtain ⟨z1, z2⟩ := rw'.vints q2
        subst z1
        refine cr_max hc pins s σ H _ us Q I r1 ⟨a, n :: ns, rfl, eK ▸ sq, by simp, fun k h1 h2 => ?_⟩
        rw [max_one h1 h2 (maxI_mem n ns) (maxI_le n ns)]
        exact Pt.here p rh (.int _)
      · exact p.elim
    · exact p.elim
  · obtain ⟨u, e, ru⟩ := rs.one_of
    subst e
    split at p
    · rename_i q1
      split at p
      · rename_i n ns q2
        obtain ⟨a, ws, e1, sq, rw'⟩ := itemsL_of rh q1 ru
        subst e1
        obtain ⟨z1, z2⟩ := rw'.vints q2
        subst z1
        refine cr_min hc pins s σ H _ us Q I r1 ⟨a, n :: ns, rfl, eK ▸ sq, by simp, fun k h1 h2 => ?_⟩
        rw [min_one h1 h2 (minI_mem n ns) (minI_le n ns)]
        exact Pt.here p rh (.int _)
      · exact p.elim
    · exact p.elim
  · -- any
    obtain ⟨u, e, ru⟩ := rs.one_of
    subst e
    split at p
    · rename_i q1
      split at p
      · rename_i bs q2
        obtain ⟨a, ws, e1, sq, rw'⟩ := itemsL_of rh q1 ru
        subst e1
        have z1 := rw'.vbls q2
        subst z1
        exact cr_any hc pins s σ H _ us Q I r1 ⟨a, bs, rfl, eK ▸ sq, Pt.here p rh (.bl _)⟩
      · exact p.elim
    · exact p.elim
  · obtain ⟨u, e, ru⟩ := rs.one_of
    subst e
    split at p
    · rename_i q1
      split at p
      · rename_i bs q2
        obtain ⟨a, ws, e1, sq, rw'⟩ := itemsL_of rh q1 ru
        subst e1
        have z1 := rw'.vbls q2
        subst z1
        exact cr_all hc pins s σ H _ us Q I r1 ⟨a, bs, rfl, eK ▸ sq, Pt.here p rh (.bl _)⟩
      · exact p.elim
    · exact p.elim
  · -- sorted
    obtain ⟨u, e, ru⟩ := rs.one_of
    subst e
    split at p
    · rename_i q1
      split at p
      · rename_i ns q2
        obtain ⟨a, ws, e1, sq, rw'⟩ := itemsL_of rh q1 ru
        subst e1
        obtain ⟨z1, z2⟩ := rw'.vints q2
        subst z1
        refine cr_sortedI pins s σ H _ us Q I r1 ⟨a, ns, rfl, eK ▸ sq, fun ns' p' pm so np => ?_⟩
        rw [sortI_eq pm so]
        exact Pt.mk p rh (RVs.ints _) np
      · exact p.elim
    · exact p.elim
  · -- tuple
    obtain ⟨u, e, ru⟩ := rs.one_of
    subst e
    split at p
    · obtain ⟨a, ws, e1, st, rw'⟩ := ru.tup_of
      subst e1
      exact call_tuple_of pins s σ H _ us Q I r1 ⟨a, ws, rfl, .inr ⟨eK ▸ st.sq, Pt.here p rh ru⟩⟩
    · split at p
      · rename_i q1
        obtain ⟨a, ws, e1, sq, rw'⟩ := itemsL_of rh q1 ru
        subst e1
        exact call_tuple_of pins s σ H _ us Q I r1 ⟨a, ws, rfl, .inl ⟨eK ▸ sq, fun l np => Pt.tup p rh rw' np⟩⟩
      · exact p.elim
  · -- list
    obtain ⟨u, e, ru⟩ := rs.one_of
    subst e
    split at p
    · obtain ⟨a, ns, e1, st, hl⟩ := ru.scr_of
      subst e1
      refine call_list_of pins s σ H _ us Q I r1 ⟨a, _, rfl, .inl (eK ▸ st.sq), fun l np => ?_⟩
      refine p al _ _ (Ext.freeU rh np) (rh.freeU np) ?_
      simp only [RV]
      exact ⟨l, ns, rfl, .inl ⟨.inl upd_same, rh.free np, rh.nfb np⟩, hl⟩
    · split at p
      · rename_i q1
        obtain ⟨a, ws, e1, sq, rw'⟩ := items_of rh q1 ru
        subst e1
        exact call_list_of pins s σ H _ us Q I r1 ⟨a, ws, rfl, eK ▸ sq, fun l np => Pt.mk p rh rw' np⟩
      · exact p.elim
  · exact p.elim

/-! ### isinstance -/
def pyT : Ty → String
  | .bool => "bool" | .int => "int" | .str => "str" | .list => "list" | .tuple => "tuple" | .dict => "dict"
theorem tyX_of {K : Cn} {al : List Addr} {H : Hp} {h : Hs} {v : Val} {u : V} {t : Ty} (r : RH K al h H) (e : tyOf h v = some t) (rv : RV K al H v u) : TyX K.K H u (.type (pyT t)) := by
  cases v with
  | non => cases e
  | bl b => cases e; rw [rv.bl_of]; exact .base (.bl b)
  | int i => cases e; rw [rv.int_of]; exact .base (.int i)
  | str x => cases e; rw [rv.str_of]; exact .base (.str x)
  | tup xs =>
    cases e
    obtain ⟨a, us, e1, st, _⟩ := rv.tup_of
    subst e1
    rcases st with ⟨rd | ⟨o, rd⟩, _⟩ | ⟨o, its, n, hk, hcl, _⟩
    · exact .base (.tup rd)
    · exact .fTuple rd
    · exact .kTuple hk hcl
  | tl xs =>
    cases e
    obtain ⟨a, us, e1, st, _⟩ := rv.tl_of
    subst e1
    exact .base (.lst st.1)
  | ref l =>
    unfold tyOf at e
    simp only at e
    split at e
    · rename_i xs q
      cases e
      obtain ⟨a, e1, e2⟩ := rv.ref_of
      obtain ⟨us, rd, _⟩ := r.rl e2 q
      subst e1
      rcases rd with rd | ⟨o, rd⟩
      · exact .base (.lst rd)
      · exact .base (.frz rd)
    · cases e
  | scr =>
    cases e
    obtain ⟨a, ns, e1, st, _⟩ := rv.scr_of
    subst e1
    rcases st with ⟨rd | ⟨o, rd⟩, _⟩ | ⟨o, its, n, hk, hcl, _⟩
    · exact .base (.lst rd)
    · exact .base (.frz rd)
    · exact .kList hk hcl
  | sl a ns =>
    cases e
    simp only [RV] at rv
    obtain ⟨e1, st⟩ := rv
    subst e1
    rcases st with ⟨rd | ⟨o, rd⟩, _⟩ | ⟨o, its, n, hk, hcl, _⟩
    · exact .base (.lst rd)
    · exact .base (.frz rd)
    · exact .kList hk hcl
def rIs (F : PySem.W.Frag) (t : Ty) : List V → Hp → VK → Prop := fun xs H Q => ∃ K al h v x k, xs = [x, .ty (pyT t)] ∧ K.K = F ∧ RH K al h H ∧ RV K al H v x ∧ isiV h v t = some k ∧ Q (.bl k) H
theorem isi_ok (t : Ty) : CallR X (.builtin "isinstance") (rIs X.K t) := by
  intro pins s σ H xs us Q I r1 hq
  obtain ⟨K, al, h, v, x, k, e, eK, rh, rv, e2, q⟩ := hq
  subst e
  unfold isiV at e2
  split at e2
  · cases e2
    rw [rv.non_of] at r1
    refine call_isi pins s σ H _ us Q I r1 ⟨_, _, .type "NoneType", .type (pyT t), false, rfl, .ty _, .base .non, ?_, q⟩
    cases t <;> exact kit_ty (by decide +kernel)
  · split at e2
    · cases e2
    · rename_i t' q1
      refine call_isi pins s σ H _ us Q I r1 ⟨_, _, .type (pyT t'), .type (pyT t), k, rfl, .ty _, eK ▸ tyX_of rh q1 rv, ?_, q⟩
      cases t' <;> cases t <;> (simp only [Option.some.injEq] at e2; subst e2; exact kit_ty (by decide +kernel))

/-! ### methods of lists -/
def rM (F : PySem.W.Frag) (k : Me) : V → List V → Hp → VK → Prop := fun x xs H Q => ∃ K al h v vs, K.K = F ∧ RH K al h H ∧ RV K al H v x ∧ RVs K al H vs xs ∧ (meV k v vs h).All (Pt K al h H Q)
def pyM : Me → String
  | .append => "list.append" | .pop => "list.pop" | .popAt => "list.pop" | .extend => "list.extend" | .index => "list.index" | .remove => "list.remove" | .insert => "list.insert"
theorem me_ok (k : Me) : MtR X (pyM k) (rM X.K k) := by
  intro pins s σ H x xs v us Q I r0 r1 hq
  obtain ⟨K, al, h, o, vs, eK, rh, ro, rs, p⟩ := hq
  unfold meV at p
  split at p
  · rename_i l
    obtain ⟨a, e1, e2⟩ := ro.ref_of
    subst e1
    split at p
    · exact p.elim
    · rename_i ys q1
      obtain ⟨ws, hd, rw', nk⟩ := rh.wl e2 q1
      have nf : ∀ od u, H a ≠ some (.frz od u) := fun od u z => by rw [hd] at z; cases z
      have put : ∀ (zs : List Val) (ts : List V), RVs K al H zs ts → RH K al (h.put l (.lst zs)) (upd H a (.lst ts)) := fun zs ts rz => rh.put e2 ⟨ts, by rw [nk, if_neg Bool.false_ne_true]; exact upd_same, rz.mono (Kp.put rh e2)⟩
      split at p
      · obtain ⟨u, e, ru⟩ := rs.one_of
        subst e
        split at p
        · rename_i z
          refine mt_append pins s σ H _ _ v us Q I r0 r1 ⟨a, ws, u, rfl, rfl, hd, by rw [← rw'.length]; exact small_lt z, ?_⟩
          exact p al _ _ (Ext.put rh e2 nf) (put _ _ (rw'.append (.one ru))) .non
        · exact p.elim
      · have e := rs.none_of
        subst e
        split at p
        · rename_i y q2
          rw [rw'.length] at q2
          have hlt := (List.getElem?_eq_some_iff.mp q2).1
          obtain ⟨w, hw, rv⟩ := rw'.get q2
          refine mt_pop pins s σ H _ _ v us Q I r0 r1 ⟨a, ws, w, rfl, rfl, hd, hw, ?_⟩
          exact p al _ _ (Ext.put rh e2 nf) (put _ _ rw'.dropLast) (rv.mono (Kp.put rh e2))
        · exact p.elim
      · obtain ⟨u, e, ru⟩ := rs.one_of
        subst e
        split at p
        · rename_i b
          obtain ⟨c, e3, e4⟩ := ru.ref_of
          subst e3
          split at p
          · rename_i zs q2
            obtain ⟨ts, hd2, rz, _⟩ := rh.wl e4 q2
            split at p
            · rename_i z
              refine mt_extend pins s σ H _ _ v us Q I r0 r1 ⟨a, c, ws, ts, rfl, rfl, hd, hd2, by rw [← rw'.length, ← rz.length]; exact Nat.le_of_lt (small_lt z), ?_⟩
              exact p al _ _ (Ext.put rh e2 nf) (put _ _ (rw'.append rz)) .non
            · exact p.elim
          · exact p.elim
        · exact p.elim
      · exact p.elim
  · exact p.elim

/-! ### x op= y -/
def rIp (F : PySem.W.Frag) (op : Bop) : TIp := fun x y H Q => ∃ K al h v w, K.K = F ∧ RH K al h H ∧ RV K al H v x ∧ RV K al H w y ∧ (ipV op v w h).All (Pt K al h H Q)
theorem ip_ok (op : Bop) : PIp X (pyB op) (rIp X.K op) := by
  intro pins s σ H x y v u Q I r1 r2 hq
  obtain ⟨K, al, h, a, b, eK, rh, ra, rb, p⟩ := hq
  unfold ipV at p
  split at p
  · rename_i l
    obtain ⟨c, e1, e2⟩ := ra.ref_of
    subst e1
    split at p
    · split at p
      · rename_i xs ys q1 q2
        split at p
        · rename_i z
          obtain ⟨us, hd, rs, nk⟩ := rh.wl e2 q1
          have nf : ∀ od u, H c ≠ some (.frz od u) := fun od u z => by rw [hd] at z; cases z
          split at q2
          · rename_i l2
            obtain ⟨c2, e3, e4⟩ := rb.ref_of
            subst e3
            obtain ⟨ws, hd2, rs2, _⟩ := rh.wl e4 q2
            refine iop_ext pins s σ H _ _ v u Q I r1 r2 ⟨c, c2, us, ws, rfl, rfl, hd, hd2, by rw [← rs.length, ← rs2.length]; exact Nat.le_of_lt (small_lt z), ?_⟩
            refine p al _ _ (Ext.put rh e2 nf) (rh.put e2 ⟨us ++ ws, by rw [nk, if_neg Bool.false_ne_true]; exact upd_same, (rs.append rs2).mono (Kp.put rh e2)⟩) ?_
            simp only [RV]
            exact ⟨c, rfl, e2⟩
          · cases q2
        · exact p.elim
      · exact p.elim
    · exact p.elim
  · rename_i i
    have e1 := ra.int_of
    subst e1
    split at p
    · rename_i j
      have e2 := rb.int_of
      subst e2
      split at p
      · exact iop_add pins s σ H _ _ v u Q I r1 r2 ⟨i, j, rfl, rfl, Pt.here p rh (.int _)⟩
      · exact iop_sub pins s σ H _ _ v u Q I r1 r2 ⟨i, j, rfl, rfl, Pt.here p rh (.int _)⟩
      · exact p.elim
    · exact p.elim
  · rename_i i
    have e1 := ra.str_of
    subst e1
    split at p
    · rename_i j
      have e2 := rb.str_of
      subst e2
      split at p
      · split at p
        · rename_i z
          exact iop_add_str pins s σ H _ _ v u Q I r1 r2 ⟨i, j, rfl, rfl, Nat.le_of_lt (small_lt z), Pt.here p rh (.str _)⟩
        · exact p.elim
      · exact p.elim
    · exact p.elim
  · exact p.elim
end
end Eng
/-! Readings made of runs. -/
namespace Eng
open PySem L2
theorem PE.imp {X : Cx} {e : Expr} {t t' : TE} (h : PE X e t) (i : ∀ σ H Q, t' σ H Q → t σ H Q) : PE X e t' := ⟨fun pins s σ H Q I w => h.run pins s σ H Q I (i σ H Q w)⟩
theorem PT.imp {X : Cx} {e : Expr} {t t' : TT} (h : PT X e t) (i : ∀ σ H Q, t' σ H Q → t σ H Q) : PT X e t' := ⟨fun pins s σ H Q I w => h.run pins s σ H Q I (i σ H Q w)⟩
theorem PTs.imp {X : Cx} {e : List Expr} {t t' : TT} (h : PTs X e t) (i : ∀ σ H Q, t' σ H Q → t σ H Q) : PTs X e t' := ⟨fun pins s σ H Q I w => h.run pins s σ H Q I (i σ H Q w)⟩
theorem PW.imp {X : Cx} {e : Expr} {t t' : TT} (h : PW X e t) (i : ∀ σ H Q, t' σ H Q → t σ H Q) : PW X e t' := ⟨fun wh pins s σ H Q I w => h.run wh pins s σ H Q I (i σ H Q w)⟩
theorem PA.imp {X : Cx} {e : List Expr} {t t' : TA} (h : PA X e t) (i : ∀ σ H Q, t' σ H Q → t σ H Q) : PA X e t' := ⟨fun pos pins s σ H Q I w => h.run pos pins s σ H Q I (i σ H Q w)⟩
theorem PS.imp {X : Cx} {e : Stmt} {t t' : TS} (h : PS X e t) (i : ∀ D σ H, t' D σ H → t D σ H) : PS X e t' := ⟨fun pins s σ H D I w => h.run pins s σ H D I (i D σ H w)⟩
theorem PSs.imp {X : Cx} {e : List Stmt} {t t' : TS} (h : PSs X e t) (i : ∀ D σ H, t' D σ H → t D σ H) : PSs X e t' := ⟨fun pins s σ H D I w => h.run pins s σ H D I (i D σ H w)⟩
theorem PG.imp {X : Cx} {e : Expr} {t t' : TG} (h : PG X e t) (i : ∀ v σ H Q, t' v σ H Q → t v σ H Q) : PG X e t' := ⟨fun pins s σ H v u Q I r w => h.run pins s σ H v u Q I r (i v σ H Q w)⟩
theorem PGs.imp {X : Cx} {e : List Expr} {t t' : TGs} (h : PGs X e t) (i : ∀ v σ H Q, t' v σ H Q → t v σ H Q) : PGs X e t' := ⟨fun pins s σ H v u Q I r w => h.run pins s σ H v u Q I r (i v σ H Q w)⟩
theorem PI.imp {X : Cx} {tg e : Expr} {t t' : TI} (h : PI X tg e t) (i : ∀ σ H Q, t' σ H Q → t σ H Q) : PI X tg e t' := ⟨fun pins s σ H Q I w => h.run pins s σ H Q I (i σ H Q w)⟩
theorem PE.orr {X : Cx} {e : Expr} {t t' : TE} (h : PE X e t) (h' : PE X e t') : PE X e (fun σ H Q => t σ H Q ∨ t' σ H Q) := ⟨fun pins s σ H Q I w => w.elim (h.run pins s σ H Q I) (h'.run pins s σ H Q I)⟩
theorem PS.orr {X : Cx} {e : Stmt} {t t' : TS} (h : PS X e t) (h' : PS X e t') : PS X e (fun D σ H => t D σ H ∨ t' D σ H) := ⟨fun pins s σ H D I w => w.elim (h.run pins s σ H D I) (h'.run pins s σ H D I)⟩
theorem PI.orr {X : Cx} {tg e : Expr} {t t' : TI} (h : PI X tg e t) (h' : PI X tg e t') : PI X tg e (fun σ H Q => t σ H Q ∨ t' σ H Q) := ⟨fun pins s σ H Q I w => w.elim (h.run pins s σ H Q I) (h'.run pins s σ H Q I)⟩

/-- the slots -/
structure RE (K : Cn) (al : List Addr) (H : Hp) (s : Env) (σ : St) : Prop where
  len : s.length = σ.length
  get : ∀ (i : Nat) v, s[i]? = some (some v) → ∃ u, σ[i]? = some (some u) ∧ RV K al H v u
section
variable {K : Cn} {al al' : List Addr} {H H' : Hp} {s : Env} {σ : St}
theorem RE.mono (k : Kp al H al' H') (r : RE K al H s σ) : RE K al' H' s σ := ⟨r.len, fun i v e => let ⟨u, e1, e2⟩ := r.get i v e; ⟨u, e1, e2.mono k⟩⟩
theorem RE.set (r : RE K al H s σ) {i : Nat} {v : Val} {u : V} (rv : RV K al H v u) : RE K al H (s.set i (some v)) (σ.set i (some u)) := by
  refine ⟨by simp [r.len], fun j w e => ?_⟩
  rw [List.getElem?_set] at e
  by_cases q : i = j
  · subst q
    rw [if_pos rfl] at e
    split at e
    · rename_i hl
      cases e
      exact ⟨u, by rw [List.getElem?_set_self (by rw [← r.len]; exact hl)], rv⟩
    · cases e
  · rw [if_neg q] at e
    obtain ⟨u', e1, e2⟩ := r.get j w e
    exact ⟨u', by rw [List.getElem?_set_ne q]; exact e1, e2⟩
theorem RE.unset (r : RE K al H s σ) {i : Nat} : RE K al H (s.set i none) (σ.set i none) := by
  refine ⟨by simp [r.len], fun j w e => ?_⟩
  rw [List.getElem?_set] at e
  by_cases q : i = j
  · subst q
    rw [if_pos rfl] at e
    split at e
    · cases e
    · cases e
  · rw [if_neg q] at e
    obtain ⟨u', e1, e2⟩ := r.get j w e
    exact ⟨u', by rw [List.getElem?_set_ne q]; exact e1, e2⟩
theorem RE.wipe (r : RE K al H s σ) : ∀ vs : List Nat, RE K al H (wipeE s vs) (wipe σ vs)
  | [] => r
  | v :: vs => (RE.wipe r vs).unset
end

/-! ### what is wanted -/
def Ps (K : Cn) (al : List Addr) (h : Hs) (H : Hp) (Q : List V → Hp → Prop) : List Val × Hs → Prop :=
  fun q => ∀ al' H' us, Ext al h H al' q.2 H' → RH K al' q.2 H' → RVs K al' H' q.1 us → Q us H'
def Pb (K : Cn) (al : List Addr) (h : Hs) (H : Hp) (Q : Bool → Hp → Prop) : Bool × Hs → Prop :=
  fun q => ∀ al' H', Ext al h H al' q.2 H' → RH K al' q.2 H' → Q q.1 H'
def Po (K : Cn) (al : List Addr) (h : Hs) (H : Hp) (Q : Option Int → Hp → Prop) : Option Int × Hs → Prop :=
  fun q => ∀ al' H', Ext al h H al' q.2 H' → RH K al' q.2 H' → Q q.1 H'
theorem Ps.trans {K : Cn} {al al' : List Addr} {H H' : Hp} {h h' : Hs} {Q : List V → Hp → Prop} {q : List Val × Hs} (e : Ext al h H al' h' H') (p : Ps K al h H Q q) : Ps K al' h' H' Q q := fun al2 H2 u e2 r v => p al2 H2 u (e.trans e2) r v
theorem Pb.trans {K : Cn} {al al' : List Addr} {H H' : Hp} {h h' : Hs} {Q : Bool → Hp → Prop} {q : Bool × Hs} (e : Ext al h H al' h' H') (p : Pb K al h H Q q) : Pb K al' h' H' Q q := fun al2 H2 e2 r => p al2 H2 (e.trans e2) r
theorem Po.trans {K : Cn} {al al' : List Addr} {H H' : Hp} {h h' : Hs} {Q : Option Int → Hp → Prop} {q : Option Int × Hs} (e : Ext al h H al' h' H') (p : Po K al h H Q q) : Po K al' h' H' Q q := fun al2 H2 e2 r => p al2 H2 (e.trans e2) r

section
variable (F : PySem.W.Frag)
def tE (c : Env → Hs → T (Val × Hs)) : TE := fun σ H Q => ∃ K al s h, K.K = F ∧ RH K al h H ∧ RE K al H s σ ∧ (c s h).All (Pt K al h H Q)
def tA (c : Env → Hs → T (List Val × Hs)) : TA := fun σ H Q => ∃ K al s h, K.K = F ∧ RH K al h H ∧ RE K al H s σ ∧ (c s h).All (Ps K al h H Q)
def tT (c : Env → Hs → T (Bool × Hs)) : TT := fun σ H Q => ∃ K al s h, K.K = F ∧ RH K al h H ∧ RE K al H s σ ∧ (c s h).All (Pb K al h H Q)
def tO (c : Env → Hs → T (Option Int × Hs)) : TO := fun σ H Q => ∃ K al s h, K.K = F ∧ RH K al h H ∧ RE K al H s σ ∧ (c s h).All (Po K al h H Q)
end
section
variable {K : Cn} {al : List Addr} {s : Env} {h : Hs} {σ : St} {H : Hp}
/-- one step, then the rest -/
theorem tE.seq {c : Env → Hs → T (Val × Hs)} {Q : V → Hp → Prop} (rh : RH K al h H) (re : RE K al H s σ)
    (p : (c s h).All fun q => ∀ al' H' u, Ext al h H al' q.2 H' → RH K al' q.2 H' → RE K al' H' s σ → RV K al' H' q.1 u → Q u H') : tE K.K c σ H Q :=
  ⟨K, al, s, h, rfl, rh, re, T.all_mono (fun q z al' H' u e r v => z al' H' u e r (re.mono e.toKp) v) p⟩
theorem tA.seq {c : Env → Hs → T (List Val × Hs)} {Q : List V → Hp → Prop} (rh : RH K al h H) (re : RE K al H s σ)
    (p : (c s h).All fun q => ∀ al' H' u, Ext al h H al' q.2 H' → RH K al' q.2 H' → RE K al' H' s σ → RVs K al' H' q.1 u → Q u H') : tA K.K c σ H Q :=
  ⟨K, al, s, h, rfl, rh, re, T.all_mono (fun q z al' H' u e r v => z al' H' u e r (re.mono e.toKp) v) p⟩
theorem tT.seq {c : Env → Hs → T (Bool × Hs)} {Q : Bool → Hp → Prop} (rh : RH K al h H) (re : RE K al H s σ)
    (p : (c s h).All fun q => ∀ al' H', Ext al h H al' q.2 H' → RH K al' q.2 H' → RE K al' H' s σ → Q q.1 H') : tT K.K c σ H Q :=
  ⟨K, al, s, h, rfl, rh, re, T.all_mono (fun q z al' H' e r => z al' H' e r (re.mono e.toKp)) p⟩
theorem tO.seq {c : Env → Hs → T (Option Int × Hs)} {Q : Option Int → Hp → Prop} (rh : RH K al h H) (re : RE K al H s σ)
    (p : (c s h).All fun q => ∀ al' H', Ext al h H al' q.2 H' → RH K al' q.2 H' → RE K al' H' s σ → Q q.1 H') : tO K.K c σ H Q :=
  ⟨K, al, s, h, rfl, rh, re, T.all_mono (fun q z al' H' e r => z al' H' e r (re.mono e.toKp)) p⟩
theorem T.of_all {A : Type} {P : A → Prop} {o : Option A} (h : (T.of o).All P) : ∃ a, o = some a ∧ P a := by
  cases o with
  | none => exact h.elim
  | some a => exact ⟨a, rfl, h⟩
theorem truth_of {v : Val} {u : V} {k : Bool} (r : RH K al h H) (e : truth h v = some k) (rv : RV K al H v u) : TruV K.K u H k := by
  cases v with
  | non => cases e; rw [rv.non_of]; rfl
  | bl b => cases e; rw [rv.bl_of]; rfl
  | int i => cases e; rw [rv.int_of]; rfl
  | str x => cases e
  | tup xs =>
    cases e
    obtain ⟨a, us, e1, st, rs⟩ := rv.tup_of
    subst e1
    exact .inr (.inl ⟨us, st.sq, by rw [rs.isEmpty]⟩)
  | tl xs =>
    cases e
    obtain ⟨a, us, e1, st, rs⟩ := rv.tl_of
    subst e1
    exact .inl ⟨us, SqL.of st.1, by rw [rs.isEmpty]⟩
  | ref l =>
    unfold truth at e
    simp only at e
    split at e
    · rename_i xs q
      cases e
      obtain ⟨a, e1, e2⟩ := rv.ref_of
      obtain ⟨us, rd, rs⟩ := r.rl e2 q
      subst e1
      exact .inl ⟨us, .inl rd, by rw [rs.isEmpty]⟩
    · cases e
  | scr => cases e
  | sl a ns => cases e
end

section
variable {F : PySem.W.Frag} {σ : St} {H : Hp}
/-- two in a row -/
theorem imp_two {ca cb : Env → Hs → T (Val × Hs)} {f : Val → Val → Hs → T (Val × Hs)} {Q : V → Hp → Prop}
    (w : tE F (fun s h => (ca s h).bind fun p => (cb s p.2).bind fun q => f p.1 q.1 q.2) σ H Q) : tOp (rO F f) (tE F ca) (tE F cb) σ H Q := by
  obtain ⟨K, al, s, h, rfl, rh, re, p⟩ := w
  refine tE.seq rh re (T.all_mono (fun q z al1 H1 x e1 rh1 re1 rx => ?_) (T.all_bind.mp p))
  refine tE.seq rh1 re1 (T.all_mono (fun q2 z2 al2 H2 y e2 rh2 re2 ry => ?_) (T.all_bind.mp z))
  exact ⟨K, al2, q2.2, q.1, q2.1, rfl, rh2, rx.mono e2.toKp, ry, T.all_mono (fun _ z3 => z3.trans (e1.trans e2)) z2⟩
theorem imp_two_c {ca cb : Env → Hs → T (Val × Hs)} {f : Val → Val → Hs → Option Bool} {Q : V → Hp → Prop}
    (w : tE F (fun s h => (ca s h).bind fun p => (cb s p.2).bind fun q => match f p.1 q.1 q.2 with
      | some k => .ok (.bl k, q.2)
      | none => .no) σ H Q) : tOp (rC F f) (tE F ca) (tE F cb) σ H Q := by
  obtain ⟨K, al, s, h, rfl, rh, re, p⟩ := w
  refine tE.seq rh re (T.all_mono (fun q z al1 H1 x e1 rh1 re1 rx => ?_) (T.all_bind.mp p))
  refine tE.seq rh1 re1 (T.all_mono (fun q2 z2 al2 H2 y e2 rh2 re2 ry => ?_) (T.all_bind.mp z))
  split at z2
  · rename_i k ek
    exact ⟨K, al2, q2.2, q.1, q2.1, k, rfl, rh2, rx.mono e2.toKp, ry, ek, Pt.here (z2.trans (e1.trans e2)) rh2 (.bl k)⟩
  · exact z2.elim
theorem imp_sub {ca cb : Env → Hs → T (Val × Hs)} {Q : V → Hp → Prop}
    (w : tE F (fun s h => (ca s h).bind fun p => (cb s p.2).bind fun q => match subV p.1 q.1 q.2 with
      | some v => .ok (v, q.2)
      | none => .no) σ H Q) : tOp (rS F) (tE F ca) (tE F cb) σ H Q := by
  obtain ⟨K, al, s, h, rfl, rh, re, p⟩ := w
  refine tE.seq rh re (T.all_mono (fun q z al1 H1 x e1 rh1 re1 rx => ?_) (T.all_bind.mp p))
  refine tE.seq rh1 re1 (T.all_mono (fun q2 z2 al2 H2 y e2 rh2 re2 ry => ?_) (T.all_bind.mp z))
  split at z2
  · rename_i v ev
    exact ⟨K, al2, q2.2, q.1, q2.1, v, rfl, rh2, rx.mono e2.toKp, ry, ev, fun u ru => Pt.here (z2.trans (e1.trans e2)) rh2 ru⟩
  · exact z2.elim
theorem imp_neg {ca : Env → Hs → T (Val × Hs)} {Q : V → Hp → Prop}
    (w : tE F (fun s h => (ca s h).bind fun p => match p.1 with
      | .int i => .ok (.int (-i), p.2)
      | _ => .no) σ H Q) : tUn (fun x H Q => ∃ i, x = V.int i ∧ Q (.int (-i)) H) (tE F ca) σ H Q := by
  obtain ⟨K, al, s, h, rfl, rh, re, p⟩ := w
  refine tE.seq rh re (T.all_mono (fun q z al1 H1 x e1 rh1 re1 rx => ?_) (T.all_bind.mp p))
  split at z
  · rename_i i ei
    rw [ei] at rx
    exact ⟨i, rx.int_of, Pt.here (z.trans e1) rh1 (.int _)⟩
  · exact z.elim
theorem imp_not {ca : Env → Hs → T (Val × Hs)} {Q : V → Hp → Prop}
    (w : tE F (fun s h => (ca s h).bind fun p => match p.1 with
      | .bl k => .ok (.bl (!k), p.2)
      | _ => .no) σ H Q) : tNotV (tE F ca) σ H Q := by
  obtain ⟨K, al, s, h, rfl, rh, re, p⟩ := w
  refine tE.seq rh re (T.all_mono (fun q z al1 H1 x e1 rh1 re1 rx => ?_) (T.all_bind.mp p))
  split at z
  · rename_i i ei
    rw [ei] at rx
    exact ⟨i, rx.bl_of, Pt.here (z.trans e1) rh1 (.bl _)⟩
  · exact z.elim
theorem imp_and {ca cb : Env → Hs → T (Val × Hs)} {Q : V → Hp → Prop}
    (w : tE F (fun s h => (ca s h).bind fun p => match p.1 with
      | .bl true => cb s p.2
      | .bl false => .ok (.bl false, p.2)
      | _ => .no) σ H Q) : tAndV (tE F ca) (tE F cb) σ H Q := by
  obtain ⟨K, al, s, h, rfl, rh, re, p⟩ := w
  refine tE.seq rh re (T.all_mono (fun q z al1 H1 x e1 rh1 re1 rx => ?_) (T.all_bind.mp p))
  split at z
  · rename_i ei
    rw [ei] at rx
    exact ⟨true, rx.bl_of, iteT ⟨K, al1, s, q.2, rfl, rh1, re1, T.all_mono (fun _ z3 => z3.trans e1) z⟩⟩
  · rename_i ei
    rw [ei] at rx
    exact ⟨false, rx.bl_of, iteF (Pt.here (z.trans e1) rh1 (.bl _))⟩
  · exact z.elim
theorem imp_or {ca cb : Env → Hs → T (Val × Hs)} {Q : V → Hp → Prop}
    (w : tE F (fun s h => (ca s h).bind fun p => match p.1 with
      | .bl true => .ok (.bl true, p.2)
      | .bl false => cb s p.2
      | _ => .no) σ H Q) : tOrV (tE F ca) (tE F cb) σ H Q := by
  obtain ⟨K, al, s, h, rfl, rh, re, p⟩ := w
  refine tE.seq rh re (T.all_mono (fun q z al1 H1 x e1 rh1 re1 rx => ?_) (T.all_bind.mp p))
  split at z
  · rename_i ei
    rw [ei] at rx
    exact ⟨true, rx.bl_of, iteT (Pt.here (z.trans e1) rh1 (.bl _))⟩
  · rename_i ei
    rw [ei] at rx
    exact ⟨false, rx.bl_of, iteF ⟨K, al1, s, q.2, rfl, rh1, re1, T.all_mono (fun _ z3 => z3.trans e1) z⟩⟩
  · exact z.elim
theorem imp_ite {cc : Env → Hs → T (Bool × Hs)} {ca cb : Env → Hs → T (Val × Hs)} {Q : V → Hp → Prop}
    (w : tE F (fun s h => (cc s h).bind fun p => match p.1 with
      | true => ca s p.2
      | false => cb s p.2) σ H Q) : tIf (tT F cc) (tE F ca) (tE F cb) σ H Q := by
  obtain ⟨K, al, s, h, rfl, rh, re, p⟩ := w
  refine tT.seq rh re (T.all_mono (fun q z al1 H1 e1 rh1 re1 => ?_) (T.all_bind.mp p))
  split at z
  · rename_i ei
    rw [ei]
    exact iteT ⟨K, al1, s, q.2, rfl, rh1, re1, T.all_mono (fun _ z3 => z3.trans e1) z⟩
  · rename_i ei
    rw [ei]
    exact iteF ⟨K, al1, s, q.2, rfl, rh1, re1, T.all_mono (fun _ z3 => z3.trans e1) z⟩
theorem imp_cons {ca : Env → Hs → T (Val × Hs)} {cr : Env → Hs → T (List Val × Hs)} {Q : List V → Hp → Prop}
    (w : tA F (fun s h => (ca s h).bind fun p => (cr s p.2).bind fun q => .ok (p.1 :: q.1, q.2)) σ H Q) : tCons (tE F ca) (tA F cr) σ H Q := by
  obtain ⟨K, al, s, h, rfl, rh, re, p⟩ := w
  refine tE.seq rh re (T.all_mono (fun q z al1 H1 x e1 rh1 re1 rx => ?_) (T.all_bind.mp p))
  refine tA.seq rh1 re1 (T.all_mono (fun q2 z2 al2 H2 y e2 rh2 re2 ry => ?_) (T.all_bind.mp z))
  exact z2 al2 H2 _ (e1.trans e2) rh2 (.cons (rx.mono e2.toKp) ry)
theorem imp_tup {cr : Env → Hs → T (List Val × Hs)} {Q : V → Hp → Prop} (w : tE F (fun s h => (cr s h).bind fun p => if small p.1.length then .ok (.tup p.1, p.2) else .no) σ H Q) : tTup (tA F cr) σ H Q := by
  obtain ⟨K, al, s, h, rfl, rh, re, p⟩ := w
  refine tA.seq rh re (T.all_mono (fun q z al1 H1 x e1 rh1 re1 rx => ?_) (T.all_bind.mp p))
  split at z
  · rename_i sm
    exact ⟨by rw [← rx.length]; exact Nat.le_of_lt (small_lt sm), fun p' np => Pt.tup (z.trans e1) rh1 rx np⟩
  · exact z.elim
theorem imp_lst {m : Bool} {cr : Env → Hs → T (List Val × Hs)} {Q : V → Hp → Prop} (w : tE F (fun s h => (cr s h).bind fun p => if small p.1.length then mkL m p.1 p.2 else .no) σ H Q) : tLst (tA F cr) σ H Q := by
  obtain ⟨K, al, s, h, rfl, rh, re, p⟩ := w
  refine tA.seq rh re (T.all_mono (fun q z al1 H1 x e1 rh1 re1 rx => ?_) (T.all_bind.mp p))
  split at z
  · rename_i sm
    exact ⟨by rw [← rx.length]; exact Nat.le_of_lt (small_lt sm), fun p' np => Pt.mk (T.all_mono (fun _ z3 => z3.trans e1) z) rh1 rx np⟩
  · exact z.elim
theorem imp_args {f : List Val → Hs → T (Val × Hs)} {r : List V → Hp → VK → Prop} {cr : Env → Hs → T (List Val × Hs)} {Q : V → Hp → Prop}
    (hr : ∀ K al h vs xs H Q, K.K = F → RH K al h H → RVs K al H vs xs → (f vs h).All (Pt K al h H Q) → r xs H Q)
    (w : tE F (fun s h => (cr s h).bind fun p => f p.1 p.2) σ H Q) : tCB r (tA F cr) σ H Q := by
  obtain ⟨K, al, s, h, rfl, rh, re, p⟩ := w
  refine tA.seq rh re (T.all_mono (fun q z al1 H1 x e1 rh1 re1 rx => ?_) (T.all_bind.mp p))
  exact hr K al1 q.2 q.1 x H1 Q rfl rh1 rx (T.all_mono (fun _ z3 => z3.trans e1) z)
theorem imp_test {c : Env → Hs → T (Val × Hs)} {Q : Bool → Hp → Prop} (w : tT F (fun s h => (c s h).bind fun p => match truth p.2 p.1 with
      | some k => .ok (k, p.2)
      | none => .no) σ H Q) : tE F c σ H fun x H' => ∃ k, TruV F x H' k ∧ Q k H' := by
  obtain ⟨K, al, s, h, rfl, rh, re, p⟩ := w
  refine tE.seq rh re (T.all_mono (fun q z al1 H1 x e1 rh1 re1 rx => ?_) (T.all_bind.mp p))
  split at z
  · rename_i k ek
    exact ⟨k, truth_of rh1 ek rx, z al1 H1 e1 rh1⟩
  · exact z.elim
end
end Eng
/-! What is walked; comprehensions; loops. -/
namespace Eng
open PySem L2

/-- J walks the items us, whatever stands later -/
def Wk (al : List Addr) (h : Hs) (H : Hp) (J : It) (us : List V) : Prop :=
  ∀ al' h' H', Ext al h H al' h' H' → (∀ (i : Nat) u, us[i]? = some u → J.go i H' ∧ ∀ v H2, J.yld i H' v H2 → v = u ∧ H2 = H') ∧ J.stop us.length H'
section
variable {K : Cn} {al : List Addr} {h : Hs} {H : Hp}
theorem wk_tup {a : Addr} {us : List V} (s : StT K al H a us) : Wk al h H (Itt K.K a) us := fun al' h' H' e => by
  have q := (s.mono e.toKp).sq
  exact ⟨fun i u hu => ⟨⟨us, u, q, hu⟩, fun v H2 y => ⟨Option.some.inj ((y.2 us q).symm.trans hu), y.1⟩⟩, ⟨us, q, Nat.le_refl _⟩⟩
theorem wk_lst {a : Addr} {us : List V} (s : ∀ al' h' H', Ext al h H al' h' H' → SqL K.K H' a us) : Wk al h H (Itl K.K a) us := fun al' h' H' e => by
  have q := s al' h' H' e
  exact ⟨fun i u hu => ⟨⟨us, u, q, hu⟩, fun v H2 y => ⟨Option.some.inj ((y.2 us q).symm.trans hu), y.1⟩⟩, ⟨us, q, Nat.le_refl _⟩⟩
theorem rev_at {us : List V} {i : Nat} {u : V} (e : us.reverse[i]? = some u) : i < us.length ∧ us[us.length - 1 - i]? = some u := by
  have h1 : i < us.length := by
    have := (List.getElem?_eq_some_iff.mp e).1
    simpa using this
  rw [List.getElem?_reverse h1] at e
  exact ⟨h1, e⟩
theorem wk_revT {a : Addr} {us : List V} (s : StT K al H a us) : Wk al h H (RT.ItvT K.K a us.length) us.reverse := fun al' h' H' e => by
  have q := (s.mono e.toKp).sq
  refine ⟨fun i u hu => ?_, by rw [List.length_reverse]; exact Nat.le_refl _⟩
  obtain ⟨h1, h2⟩ := rev_at hu
  exact ⟨⟨h1, us, u, q, h2⟩, fun v H2 y => ⟨Option.some.inj ((y.2 us q).symm.trans h2), y.1⟩⟩
theorem wk_revL {a : Addr} {us : List V} (s : ∀ al' h' H', Ext al h H al' h' H' → SqL K.K H' a us) : Wk al h H (Itv K.K a us.length) us.reverse := fun al' h' H' e => by
  have q := s al' h' H' e
  refine ⟨fun i u hu => ?_, by rw [List.length_reverse]; exact Nat.le_refl _⟩
  obtain ⟨h1, h2⟩ := rev_at hu
  exact ⟨⟨h1, us, u, q, h2⟩, fun v H2 y => ⟨Option.some.inj ((y.2 us q).symm.trans h2), y.1⟩⟩
/-- whole numbers from lo on, by c -/
def rngU (lo c : Int) (n : Nat) : List V := (List.range n).map fun i => .int (lo + (i : Nat) * c)
theorem rngC_of (c : Int) : ∀ (n : Nat) (lo : Int), rngC lo c n = (List.range n).map fun i => Val.int (lo + (i : Nat) * c)
  | 0, lo => rfl
  | n + 1, lo => by
    unfold rngC
    rw [rngC_of c n, List.range_succ_eq_map, List.map_cons, List.map_map]
    congr 1
    · simp
    · apply List.map_congr_left
      intro i _
      simp only [Function.comp]
      congr 1
      rw [Int.natCast_succ, Int.add_mul]
      omega
theorem rngL_of : ∀ (n : Nat) (lo : Int), rngL lo n = rngC lo 1 n
  | 0, lo => rfl
  | n + 1, lo => by
    unfold rngL rngC
    rw [rngL_of n]
theorem rvs_map {A : Type} {f : A → Val} {g : A → V} (hfg : ∀ x, RV K al H (f x) (g x)) : ∀ (xs : List A), RVs K al H (xs.map f) (xs.map g)
  | [] => .nil
  | x :: xs => .cons (hfg x) (rvs_map hfg xs)
theorem rngC_rv (lo c : Int) (n : Nat) : RVs K al H (rngC lo c n) (rngU lo c n) := by
  rw [rngC_of]
  exact rvs_map (fun i => .int _) _
theorem rngL_rv (lo : Int) (n : Nat) : RVs K al H (rngL lo n) (rngU lo 1 n) := by
  rw [rngL_of]
  exact rngC_rv lo 1 n
theorem rngU_at {lo c : Int} {n i : Nat} {u : V} (e : (rngU lo c n)[i]? = some u) : i < n ∧ u = .int (lo + (i : Nat) * c) := by
  unfold rngU at e
  rw [List.getElem?_map] at e
  have h1 : i < n := by
    refine Nat.lt_of_not_le fun z => ?_
    rw [List.getElem?_eq_none (by simpa using z)] at e
    cases e
  rw [List.getElem?_range h1] at e
  exact ⟨h1, (Option.some.inj e).symm⟩
theorem wk_rng (lo : Int) (n : Nat) : Wk al h H (Itr lo n) (rngU lo 1 n) := fun al' h' H' e => by
  refine ⟨fun i u hu => ?_, by unfold rngU; simp [Itr]⟩
  obtain ⟨h1, h2⟩ := rngU_at hu
  rw [Int.mul_one] at h2
  exact ⟨h1, fun v H2 y => ⟨by rw [h2]; exact y.2, y.1⟩⟩
theorem wk_rngC (lo c : Int) (n : Nat) : Wk al h H (Itc lo c n) (rngU lo c n) := fun al' h' H' e => by
  refine ⟨fun i u hu => ?_, by unfold rngU; simp [Itc]⟩
  obtain ⟨h1, h2⟩ := rngU_at hu
  exact ⟨h1, fun v H2 y => ⟨by rw [h2]; exact y.2, y.1⟩⟩
theorem RVs.inj_len {xs : List Val} {us ws : List V} (a : RVs K al H xs us) (b : RVs K al H xs ws) : us.length = ws.length := by rw [← a.length, ← b.length]
end

/-- what is walked: evaluated, then as told -/
def tI (F : PySem.W.Frag) (sk : Sk) (c : Env → Hs → T (List Val × Hs)) : TI := fun σ H R => ∃ K al s h, K.K = F ∧ RH K al h H ∧ RE K al H s σ ∧ (c s h).All fun p => ∃ xs l, srcV sk p.1 p.2 = some (xs, l) ∧ (∀ l', l = some l' → p.2.lk.contains l' = true) ∧
  ∀ al' H' us J, Ext al h H al' p.2 H' → RH K al' p.2 H' → RVs K al' H' xs us → Wk al' p.2 H' J us → R J H'
section
variable {X : Cx} {tg : Expr}
/-- a list or a tuple is walked -/
theorem pi_seq {l : Expr} {tl : TE} (hl : PE X l tl) : PI X tg l (fun σ H R => tl σ H fun x H1 => ∃ a, x = .ref a ∧ (((∃ xs, SqL X.K H1 a xs) ∧ R (Itl X.K a) H1) ∨ ((∃ xs, SqT X.K H1 a xs) ∧ R (Itt X.K a) H1))) := by
  constructor
  intro pins s σ H R I hw
  refine thn (hl.run pins s σ H _ I hw) ?_
  rintro v s1 ⟨x, H1, I1, r1, a, ex, q⟩
  subst ex
  cases r1
  have fpo : ∀ b ∈ [s1.heap.objs.size], FpOk X pins H1 b := fun b hb => by
    rw [List.mem_singleton.mp hb]
    exact I1.fpOk (Nat.le_refl _) (I1.hok.fresh (Nat.le_refl _))
  rcases q with ⟨⟨xs, sq⟩, q⟩ | ⟨⟨xs, sq⟩, q⟩
  · obtain ⟨its, rv, pl, hz⟩ := I1.list sq
    apply wpAny_pyIter_list pl.isList
    exact ⟨_, _, _, _, H1, rfl, I1.kept (t' := s1.toks) (fun b o e => Heap.get?_push_of_some _ e), turn_list a _, ⟨_, Heap.get?_push_size _ rfl, rfl, rfl⟩, fpo, q⟩
  · obtain ⟨its, rv, pt, hz⟩ := I1.tuple sq
    apply wpAny_pyIter_tuple (show s1.heap.IsTuple a its.toArray from pt)
    exact ⟨_, _, _, _, H1, rfl, I1.kept (t' := s1.toks) (fun b o e => Heap.get?_push_of_some _ e), turn_tuple a _, ⟨_, Heap.get?_push_size _ rfl, rfl, rfl⟩, fpo, q⟩
end
section
variable {F : PySem.W.Frag} {σ : St} {H : Hp}
/-- a tracked list that stands still -/
theorem frz_sq {K : Cn} {al : List Addr} {h : Hs} {H : Hp} {l : Nat} {a : Addr} {xs : List Val} (rh : RH K al h H) (e : al[l]? = some a) (g : h.get l = some (.lst xs)) (lk : h.lk.contains l = true) :
    ∃ us, RVs K al H xs us ∧ SqL K.K H a us ∧ ∀ al' h' H', Ext al h H al' h' H' → SqL K.K H' a us := by
  obtain ⟨us, q, rs⟩ := rh.ob l a _ e g
  rw [lk, if_pos rfl] at q
  obtain ⟨od, q⟩ := q
  exact ⟨us, rs, .inl (.inr ⟨od, q⟩), fun al' h' H' x => .inl (.inr ⟨od, x.frz _ _ _ q⟩)⟩
theorem imp_val {c : Env → Hs → T (Val × Hs)} {R : It → Hp → Prop} (w : tI F .val (fun s h => (c s h).bind fun p => .ok ([p.1], p.2)) σ H R) :
    tE F c σ H fun x H1 => ∃ a, x = .ref a ∧ (((∃ xs, SqL F H1 a xs) ∧ R (Itl F a) H1) ∨ ((∃ xs, SqT F H1 a xs) ∧ R (Itt F a) H1)) := by
  obtain ⟨K, al, s, h, rfl, rh, re, p⟩ := w
  refine tE.seq rh re (T.all_mono (fun q z al1 H1 x e1 rh1 re1 rx => ?_) (T.all_bind.mp p))
  obtain ⟨xs, l, es, hl, z⟩ := z
  unfold srcV at es
  simp only at es
  split at es <;> try cases es
  · rename_i ys ey
    rw [ey] at rx
    obtain ⟨a, us, ea, st, rs⟩ := rx.tup_of
    exact ⟨a, ea, .inr ⟨⟨us, st.sq⟩, z al1 H1 us _ e1 rh1 rs (wk_tup st)⟩⟩
  · rename_i ys ey
    rw [ey] at rx
    obtain ⟨a, us, ea, st, rs⟩ := rx.tl_of
    exact ⟨a, ea, .inl ⟨⟨us, SqL.of st.1⟩, z al1 H1 us _ e1 rh1 rs (wk_lst fun al' h' H' e => SqL.of (e.keep a _ st.2.1 st.1).1)⟩⟩
  · rename_i l0 el
    split at es
    · rename_i ys g
      cases es
      rw [el] at rx
      obtain ⟨a, ea, e2⟩ := rx.ref_of
      obtain ⟨us, rs, s1, s2⟩ := frz_sq rh1 e2 g (hl l0 rfl)
      exact ⟨a, ea, .inl ⟨⟨us, s1⟩, z al1 H1 us _ e1 rh1 rs (wk_lst s2)⟩⟩
    · cases es
theorem imp_rev {c : Env → Hs → T (Val × Hs)} {R : It → Hp → Prop} (w : tI F .rev (fun s h => (c s h).bind fun p => .ok ([p.1], p.2)) σ H R) : RT.iRevA F (tE F c) σ H R := by
  obtain ⟨K, al, s, h, rfl, rh, re, p⟩ := w
  refine tE.seq rh re (T.all_mono (fun q z al1 H1 x e1 rh1 re1 rx => ?_) (T.all_bind.mp p))
  obtain ⟨xs, l, es, hl, z⟩ := z
  unfold srcV at es
  simp only at es
  split at es <;> try cases es
  · rename_i ys ey
    rw [ey] at rx
    obtain ⟨a, us, ea, st, rs⟩ := rx.tup_of
    exact ⟨a, us, ea, .inr ⟨st.sq, z al1 H1 us.reverse _ e1 rh1 rs.reverse (wk_revT st)⟩⟩
  · rename_i ys ey
    rw [ey] at rx
    obtain ⟨a, us, ea, st, rs⟩ := rx.tl_of
    exact ⟨a, us, ea, .inl ⟨SqL.of st.1, z al1 H1 us.reverse _ e1 rh1 rs.reverse (wk_revL fun al' h' H' e => SqL.of (e.keep a _ st.2.1 st.1).1)⟩⟩
  · rename_i l0 el
    split at es
    · rename_i ys g
      cases es
      rw [el] at rx
      obtain ⟨a, ea, e2⟩ := rx.ref_of
      obtain ⟨us, rs, s1, s2⟩ := frz_sq rh1 e2 g (hl l0 rfl)
      exact ⟨a, us, ea, .inl ⟨s1, z al1 H1 us.reverse _ e1 rh1 rs.reverse (wk_revL s2)⟩⟩
    · cases es
theorem bd62_of {i : Int} (h : bd62 i = true) : -(2 ^ 62) ≤ i ∧ i < 2 ^ 62 := by
  unfold bd62 at h
  rw [Bool.and_eq_true, decide_eq_true_eq, decide_eq_true_eq] at h
  omega
theorem imp_rng1 {ca : Env → Hs → T (Val × Hs)} {R : It → Hp → Prop} (w : tI F .rng (fun s h => (ca s h).bind fun p => .ok ([p.1], p.2)) σ H R) : iRng1 (tA F fun s h => (ca s h).bind fun p => .ok ([p.1], p.2)) σ H R := by
  obtain ⟨K, al, s, h, rfl, rh, re, p⟩ := w
  refine tA.seq rh re (T.all_bind.mpr (T.all_mono (fun q z al1 H1 x e1 rh1 re1 rx => ?_) (T.all_bind.mp p)))
  obtain ⟨xs, l, es, hl, z⟩ := z
  obtain ⟨v, ld, lkd⟩ : ∃ v, q.1 = v ∧ True := ⟨_, rfl, trivial⟩
  simp only at es rx e1 rh1 z
  rw [ld] at es rx
  cases v with
  | int j =>
    simp only [srcV] at es
    split at es
    · rename_i b
      cases es
      rw [Bool.and_eq_true] at b
      obtain ⟨b1, b2⟩ := bd62_of b.1
      obtain ⟨u, ex, ru⟩ := rx.one_of
      rw [ru.int_of] at ex
      exact ⟨j, ex, b1, b2, z al1 H1 _ _ e1 rh1 (rngL_rv 0 _) (wk_rng 0 _)⟩
    · cases es
  | _ => simp only [srcV] at es; cases es
theorem imp_rng2 {ca cb : Env → Hs → T (Val × Hs)} {R : It → Hp → Prop} (w : tI F .rng (fun s h => (ca s h).bind fun p => (cb s p.2).bind fun q => .ok ([p.1, q.1], q.2)) σ H R) :
    iRng2 (tA F fun s h => (ca s h).bind fun p => (cb s p.2).bind fun q => .ok ([p.1, q.1], q.2)) σ H R := by
  obtain ⟨K, al, s, h, rfl, rh, re, p⟩ := w
  refine tA.seq rh re (T.all_bind.mpr (T.all_mono (fun q z => T.all_bind.mpr (T.all_mono (fun q2 z al1 H1 x e1 rh1 re1 rx => ?_) (T.all_bind.mp z))) (T.all_bind.mp p)))
  obtain ⟨xs, l, es, hl, z⟩ := z
  obtain ⟨v, ld⟩ : ∃ v, q.1 = v := ⟨_, rfl⟩
  obtain ⟨v2, ld2⟩ : ∃ v, q2.1 = v := ⟨_, rfl⟩
  simp only at es rx e1 rh1 z
  rw [ld, ld2] at es rx
  cases v with
  | int i =>
    cases v2 with
    | int j =>
      simp only [srcV] at es
      split at es
      · rename_i b
        cases es
        rw [Bool.and_eq_true, Bool.and_eq_true] at b
        obtain ⟨b1, b2⟩ := bd62_of b.1.1
        obtain ⟨b3, b4⟩ := bd62_of b.1.2
        obtain ⟨u, u2, ex, ru, ru2⟩ := rx.two_of
        rw [ru.int_of, ru2.int_of] at ex
        exact ⟨i, j, ex, ⟨b1, b2, b3, b4⟩, z al1 H1 _ _ e1 rh1 (rngL_rv i _) (wk_rng i _)⟩
      · cases es
    | _ => simp only [srcV] at es; cases es
  | _ => simp only [srcV] at es; cases es
theorem rgN_size {i j c : Int} (hc : c ≠ 0) : Builtin.Range.rangeSize i j c = (rgN i j c : Nat) := by
  unfold Builtin.Range.rangeSize rgN
  by_cases h : 0 < c
  · simp only [h, decide_true, if_true, gt_iff_lt]
    split
    · rename_i q
      have e : j - i + c - 1 = (j - i - 1) + 1 * c := by omega
      rw [e, Int.add_mul_ediv_right _ _ (by omega)]
      have : 0 ≤ (j - i - 1) / c := Int.ediv_nonneg (by omega) (by omega)
      omega
    · rename_i q
      have : (j - i + c - 1) / c ≤ 0 := by
        have h1 : (j - i + c - 1) / c < 1 := Int.ediv_lt_of_lt_mul h (by omega)
        omega
      omega
  · have h2 : ¬ c > 0 := h
    simp only [h, h2, decide_false, if_false, Bool.false_eq_true]
    have hn : 0 < -c := by omega
    split
    · rename_i q
      have e : i - j + -c - 1 = (i - j - 1) + 1 * (-c) := by omega
      rw [e, Int.add_mul_ediv_right _ _ (by omega)]
      have : 0 ≤ (i - j - 1) / -c := Int.ediv_nonneg (by omega) (by omega)
      omega
    · rename_i q
      have : (i - j + -c - 1) / -c ≤ 0 := by
        have h1 : (i - j + -c - 1) / -c < 1 := Int.ediv_lt_of_lt_mul hn (by omega)
        omega
      omega
theorem rg_small {i j c : Int} (h1 : -(2 ^ 62) ≤ i) (h2 : i < 2 ^ 62) (h3 : -(2 ^ 62) ≤ j) (h4 : j < 2 ^ 62) (hc : c ≠ 0) (h5 : c.natAbs < 1000000) (h6 : rgN i j c ≤ 1000000) : Builtin.Range.small i j c = true := by
  unfold Builtin.Range.small
  rw [rgN_size hc]
  generalize rgN i j c = n at h6
  simp only [Builtin.Range.rangeFitsLong, Bool.and_eq_true, decide_eq_true_eq, Bool.or_eq_true]
  refine ⟨⟨⟨⟨by omega, by omega⟩, by omega⟩, by omega⟩, .inr ?_⟩
  split <;> (rw [Bool.and_eq_true, decide_eq_true_eq, decide_eq_true_eq]; omega)
theorem imp_rng3 {ca cb cc : Env → Hs → T (Val × Hs)} {R : It → Hp → Prop} (w : tI F .rng (fun s h => (ca s h).bind fun p => (cb s p.2).bind fun q => (cc s q.2).bind fun r => .ok ([p.1, q.1, r.1], r.2)) σ H R) :
    iRng3 (tA F fun s h => (ca s h).bind fun p => (cb s p.2).bind fun q => (cc s q.2).bind fun r => .ok ([p.1, q.1, r.1], r.2)) σ H R := by
  obtain ⟨K, al, s, h, rfl, rh, re, p⟩ := w
  refine tA.seq rh re (T.all_bind.mpr (T.all_mono (fun q z => T.all_bind.mpr (T.all_mono (fun q2 z => T.all_bind.mpr (T.all_mono (fun q3 z al1 H1 x e1 rh1 re1 rx => ?_) (T.all_bind.mp z))) (T.all_bind.mp z))) (T.all_bind.mp p)))
  obtain ⟨xs, l, es, hl, z⟩ := z
  obtain ⟨v, ld⟩ : ∃ v, q.1 = v := ⟨_, rfl⟩
  obtain ⟨v2, ld2⟩ : ∃ v, q2.1 = v := ⟨_, rfl⟩
  obtain ⟨v3, ld3⟩ : ∃ v, q3.1 = v := ⟨_, rfl⟩
  simp only at es rx e1 rh1 z
  rw [ld, ld2, ld3] at es rx
  cases v with
  | int i =>
    cases v2 with
    | int j =>
      cases v3 with
      | int c =>
        simp only [srcV] at es
        split at es
        · rename_i b
          cases es
          simp only [Bool.and_eq_true, Nat.blt_eq, decide_eq_true_eq] at b
          obtain ⟨⟨⟨⟨b1, b2⟩, b3⟩, b4⟩, b5⟩ := b
          obtain ⟨c1, c2⟩ := bd62_of b1
          obtain ⟨c3, c4⟩ := bd62_of b2
          obtain ⟨u, u2, u3, ex, ru, ru2, ru3⟩ := rx.three_of
          rw [ru.int_of, ru2.int_of, ru3.int_of] at ex
          exact ⟨i, j, c, rgN i j c, ex, ⟨b3, by omega, rg_small c1 c2 c3 c4 b3 b4 (Nat.le_of_ble_eq_true b5), rgN_size b3⟩, z al1 H1 _ _ e1 rh1 (rngC_rv i c _) (wk_rngC i c _)⟩
        · cases es
      | _ => simp only [srcV] at es; cases es
    | _ => simp only [srcV] at es; cases es
  | _ => simp only [srcV] at es; cases es
end
end Eng
/-! Loops and comprehensions, from runs. -/
namespace Eng
open PySem L2

mutual
def slots : Tg → List Nat
  | .nm i => [i]
  | .tp ts => slotsL ts
def slotsL : List Tg → List Nat
  | [] => []
  | t :: ts => slots t ++ slotsL ts
end
/-- what is wanted behind a statement -/
def Pd (K : Cn) (al : List Addr) (h : Hs) (H : Hp) (D : Ends) : Rs → Prop := fun r => ∀ al' H' σ', Ext al h H al' r.2.2 H' → RH K al' r.2.2 H' → RE K al' H' r.2.1 σ' → match r.1 with
  | .nx => D.nx σ' H'
  | .bk => D.bk σ' H'
  | .ct => D.ct σ' H'
  | .rt v => ∀ u, RV K al' H' v u → D.rt u H'
def tS (F : PySem.W.Frag) (c : Env → Hs → T Rs) : TS := fun D σ H => ∃ K al s h, K.K = F ∧ RH K al h H ∧ RE K al H s σ ∧ (c s h).All (Pd K al h H D)
def tG (F : PySem.W.Frag) (tg : Tg) : TG := fun v σ H Q => ∃ K al s h x s', K.K = F ∧ RH K al h H ∧ RE K al H s σ ∧ RV K al H x v ∧ tgS tg x s = some s' ∧
  ∀ σ', RE K al H s' σ' → σ'.length = σ.length → (∀ j : Nat, j ∉ slots tg → σ'[j]? = σ[j]?) → Q σ' H
theorem Pd.trans {K : Cn} {al al' : List Addr} {H H' : Hp} {h h' : Hs} {D : Ends} {q : Rs} (e : Ext al h H al' h' H') (p : Pd K al h H D q) : Pd K al' h' H' D q := fun al2 H2 σ' e2 r v => p al2 H2 σ' (e.trans e2) r v

section
variable {F : PySem.W.Frag} {σ : St} {H : Hp}
theorem imp_for {c : Env → Hs → T (List Val × Hs)} {sk : Sk} {tg : Tg} {body : Env → Hs → T Rs} {D : Ends}
    (w : ∃ K al s h, K.K = F ∧ RH K al h H ∧ RE K al H s σ ∧ (c s h).All fun p => ∃ xs l, srcV sk p.1 p.2 = some (xs, l) ∧ (∀ l', l = some l' → p.2.lk.contains l' = true) ∧ (forL (tgS tg) body xs s p.2).All (Pd K al h H D)) :
    tFor (tI F sk c) (tG F tg) (tS F body) D σ H := by
  obtain ⟨K, al, s, h, rfl, rh, re, p⟩ := w
  refine ⟨K, al, s, h, rfl, rh, re, T.all_mono (fun q z => ?_) p⟩
  obtain ⟨xs, l, es, hl, z⟩ := z
  refine ⟨xs, l, es, hl, fun al1 H1 us J e1 rh1 rs wk => ?_⟩
  have hlen := rs.length
  refine ⟨fun i m σ' H' => m = us.length - i ∧ i ≤ us.length ∧ ∃ al' s' h', Ext al1 q.2 H1 al' h' H' ∧ RH K al' h' H' ∧ RE K al' H' s' σ' ∧ (forL (tgS tg) body (xs.drop i) s' h').All (Pd K al h H D),
    ⟨us.length, by simp, Nat.zero_le _, al1, s, q.2, Ext.refl, rh1, re.mono e1.toKp, by rw [List.drop_zero]; exact z⟩, ?_⟩
  rintro i m σ' H' ⟨rfl, hi, al', s', h', e2, rh2, re2, p2⟩
  obtain ⟨wk1, wk2⟩ := wk al' h' H' e2
  by_cases hlt : i < us.length
  · obtain ⟨u, hu⟩ : ∃ u, us[i]? = some u := ⟨_, List.getElem?_eq_getElem hlt⟩
    obtain ⟨go, yl⟩ := wk1 i u hu
    have hx : xs[i]? = some xs[i] := List.getElem?_eq_getElem (by omega)
    have hd : xs.drop i = xs[i] :: xs.drop (i + 1) := List.drop_eq_getElem_cons (by omega)
    rw [hd] at p2
    unfold forL at p2
    have ru : RV K al' H' xs[i] u := (rs.mono e2.toKp).at hx hu
    split at p2
    · exact p2.elim
    · rename_i s1 hs1
      refine .inr ⟨go, fun σ'' H'' => ∃ al'' s'' h'', Ext al1 q.2 H1 al'' h'' H'' ∧ RH K al'' h'' H'' ∧ RE K al'' H'' s'' σ'' ∧ (forL (tgS tg) body (xs.drop (i + 1)) s'' h'').All (Pd K al h H D),
        fun σ'' H'' ⟨al'', s'', h'', z1, z2, z3, z4⟩ => ⟨us.length - (i + 1), by omega, rfl, hlt, al'', s'', h'', z1, z2, z3, z4⟩, fun v H2 y => ?_⟩
      obtain ⟨ev, eH⟩ := yl v H2 y
      subst ev eH
      refine ⟨K, al', s', h', xs[i], s1, rfl, rh2, re2, ru, hs1, fun σ2 re3 _ _ => ?_⟩
      refine ⟨K, al', s1, h', rfl, rh2, re3, T.all_mono (fun r z al3 H3 σ3 e3 rh3 re4 => ?_) (T.all_bind.mp p2)⟩
      have ee := e2.trans e3
      split <;> rename_i ef <;> rw [ef] at z
      · exact ⟨al3, _, _, ee, rh3, re4, z⟩
      · exact z al3 H3 σ3 (e1.trans ee) rh3 re4
      · exact ⟨al3, _, _, ee, rh3, re4, z⟩
      · exact fun u' ru' => z al3 H3 σ3 (e1.trans ee) rh3 re4 u' ru'
  · have ei : i = us.length := by omega
    subst ei
    rw [List.drop_of_length_le (by omega)] at p2
    exact .inl ⟨wk2, p2 al' H' σ' (e1.trans e2) rh2 re2⟩

/-! ### a list that is being made -/
theorem Cn.eta (K : Cn) : (⟨K.K, K.fb⟩ : Cn) = K := rfl
section
variable {K : Cn} {al : List Addr} {D : Addr} {h : Hs}
theorem StT.forbid {H : Hp} {a : Addr} {us : List V} (n : H D = none) (s : StT K al H a us) : StT ⟨K.K, D :: K.fb⟩ al H a us := by
  rcases s with ⟨rd, z1, z2⟩ | s
  · refine .inl ⟨rd, z1, ?_⟩
    simp only [List.mem_cons, not_or]
    refine ⟨fun e => ?_, z2⟩
    subst e
    rcases rd with rd | ⟨o, rd⟩ <;> (rw [n] at rd; cases rd)
  · exact .inr s
theorem StL.forbid {H : Hp} {a : Addr} {us : List V} (n : H D = none) (s : StL K al H a us) : StL ⟨K.K, D :: K.fb⟩ al H a us := by
  rcases s with ⟨rd, z1, z2⟩ | s
  · refine .inl ⟨rd, z1, ?_⟩
    simp only [List.mem_cons, not_or]
    refine ⟨fun e => ?_, z2⟩
    subst e
    rcases rd with rd | ⟨o, rd⟩ <;> (rw [n] at rd; cases rd)
  · exact .inr s
theorem StT.upd {H : Hp} {a : Addr} {us : List V} {o : HO} (m : D ∈ K.fb) (s : StT K al H a us) : StT K al (upd H D o) a us := by
  rcases s with ⟨rd, z1, z2⟩ | s
  · have ne : a ≠ D := fun e => z2 (by rw [e]; exact m)
    refine .inl ⟨?_, z1, z2⟩
    unfold Rd
    rw [upd_ne ne]
    exact rd
  · exact .inr s
theorem StL.upd {H : Hp} {a : Addr} {us : List V} {o : HO} (m : D ∈ K.fb) (s : StL K al H a us) : StL K al (upd H D o) a us := by
  rcases s with ⟨rd, z1, z2⟩ | s
  · have ne : a ≠ D := fun e => z2 (by rw [e]; exact m)
    refine .inl ⟨?_, z1, z2⟩
    unfold Rd
    rw [upd_ne ne]
    exact rd
  · exact .inr s
/-- D is taken on, or given back as a value -/
theorem StT.adopt {H : Hp} {a : Addr} {us : List V} {ds : List Addr} (hd : ∀ d ∈ ds, d = D) (s : StT ⟨K.K, D :: K.fb⟩ al H a us) : StT K (al ++ ds) H a us := by
  rcases s with ⟨rd, z1, z2⟩ | s
  · simp only [List.mem_cons, not_or] at z2
    refine .inl ⟨rd, ?_, z2.2⟩
    simp only [List.mem_append, not_or]
    exact ⟨z1, fun m => z2.1 (hd a m)⟩
  · exact .inr s
theorem StL.adopt {H : Hp} {a : Addr} {us : List V} {ds : List Addr} (hd : ∀ d ∈ ds, d = D) (s : StL ⟨K.K, D :: K.fb⟩ al H a us) : StL K (al ++ ds) H a us := by
  rcases s with ⟨rd, z1, z2⟩ | s
  · simp only [List.mem_cons, not_or] at z2
    refine .inl ⟨rd, ?_, z2.2⟩
    simp only [List.mem_append, not_or]
    exact ⟨z1, fun m => z2.1 (hd a m)⟩
  · exact .inr s
mutual
theorem RV.forbid {H : Hp} (n : H D = none) : ∀ {x : Val} {u : V}, RV K al H x u → RV ⟨K.K, D :: K.fb⟩ al H x u
  | .non, u, h => by simp only [RV] at h ⊢; exact h
  | .bl b, u, h => by simp only [RV] at h ⊢; exact h
  | .int i, u, h => by simp only [RV] at h ⊢; exact h
  | .str x, u, h => by simp only [RV] at h ⊢; exact h
  | .tup xs, u, h => by
    simp only [RV] at h ⊢
    obtain ⟨a, us, e, s, r⟩ := h
    exact ⟨a, us, e, s.forbid n, RVs.forbid n r⟩
  | .tl xs, u, h => by
    simp only [RV] at h ⊢
    obtain ⟨a, us, e, ⟨s1, s2, s3⟩, r⟩ := h
    refine ⟨a, us, e, ⟨s1, s2, ?_⟩, RVs.forbid n r⟩
    simp only [List.mem_cons, not_or]
    exact ⟨fun z => (by rw [z, n] at s1; cases s1), s3⟩
  | .ref l, u, h => by simp only [RV] at h ⊢; exact h
  | .scr, u, h => by
    simp only [RV] at h ⊢
    obtain ⟨a, ns, e, s, r⟩ := h
    exact ⟨a, ns, e, s.forbid n, r⟩
  | .sl a ns, u, h => by
    simp only [RV] at h ⊢
    exact ⟨h.1, h.2.forbid n⟩
theorem RVs.forbid {H : Hp} (n : H D = none) : ∀ {xs : List Val} {us : List V}, RVs K al H xs us → RVs ⟨K.K, D :: K.fb⟩ al H xs us
  | [], us, h => by simp only [RVs] at h ⊢; exact h
  | x :: xs, us, h => by
    simp only [RVs] at h ⊢
    obtain ⟨u, r, e, h1, h2⟩ := h
    exact ⟨u, r, e, RV.forbid n h1, RVs.forbid n h2⟩
end
mutual
theorem RV.updD {H : Hp} {o : HO} (m : D ∈ K.fb) : ∀ {x : Val} {u : V}, RV K al H x u → RV K al (upd H D o) x u
  | .non, u, h => by simp only [RV] at h ⊢; exact h
  | .bl b, u, h => by simp only [RV] at h ⊢; exact h
  | .int i, u, h => by simp only [RV] at h ⊢; exact h
  | .str x, u, h => by simp only [RV] at h ⊢; exact h
  | .tup xs, u, h => by
    simp only [RV] at h ⊢
    obtain ⟨a, us, e, s, r⟩ := h
    exact ⟨a, us, e, s.upd m, RVs.updD m r⟩
  | .tl xs, u, h => by
    simp only [RV] at h ⊢
    obtain ⟨a, us, e, ⟨s1, s2, s3⟩, r⟩ := h
    exact ⟨a, us, e, ⟨by rw [upd_ne fun z => s3 (by rw [z]; exact m)]; exact s1, s2, s3⟩, RVs.updD m r⟩
  | .ref l, u, h => by simp only [RV] at h ⊢; exact h
  | .scr, u, h => by
    simp only [RV] at h ⊢
    obtain ⟨a, ns, e, s, r⟩ := h
    exact ⟨a, ns, e, s.upd m, r⟩
  | .sl a ns, u, h => by
    simp only [RV] at h ⊢
    exact ⟨h.1, h.2.upd m⟩
theorem RVs.updD {H : Hp} {o : HO} (m : D ∈ K.fb) : ∀ {xs : List Val} {us : List V}, RVs K al H xs us → RVs K al (upd H D o) xs us
  | [], us, h => by simp only [RVs] at h ⊢; exact h
  | x :: xs, us, h => by
    simp only [RVs] at h ⊢
    obtain ⟨u, r, e, h1, h2⟩ := h
    exact ⟨u, r, e, RV.updD m h1, RVs.updD m h2⟩
end
mutual
theorem RV.adopt {H : Hp} {ds : List Addr} (hd : ∀ d ∈ ds, d = D) : ∀ {x : Val} {u : V}, RV ⟨K.K, D :: K.fb⟩ al H x u → RV K (al ++ ds) H x u
  | .non, u, h => by simp only [RV] at h ⊢; exact h
  | .bl b, u, h => by simp only [RV] at h ⊢; exact h
  | .int i, u, h => by simp only [RV] at h ⊢; exact h
  | .str x, u, h => by simp only [RV] at h ⊢; exact h
  | .tup xs, u, h => by
    simp only [RV] at h ⊢
    obtain ⟨a, us, e, s, r⟩ := h
    exact ⟨a, us, e, s.adopt hd, RVs.adopt hd r⟩
  | .tl xs, u, h => by
    simp only [RV] at h ⊢
    obtain ⟨a, us, e, ⟨s1, s2, s3⟩, r⟩ := h
    simp only [List.mem_cons, not_or] at s3
    refine ⟨a, us, e, ⟨s1, ?_, s3.2⟩, RVs.adopt hd r⟩
    simp only [List.mem_append, not_or]
    exact ⟨s2, fun m => s3.1 (hd a m)⟩
  | .ref l, u, h => by
    simp only [RV] at h ⊢
    obtain ⟨a, e, q⟩ := h
    exact ⟨a, e, by rw [List.getElem?_append_left (List.getElem?_eq_some_iff.mp q).1]; exact q⟩
  | .scr, u, h => by
    simp only [RV] at h ⊢
    obtain ⟨a, ns, e, s, r⟩ := h
    exact ⟨a, ns, e, s.adopt hd, r⟩
  | .sl a ns, u, h => by
    simp only [RV] at h ⊢
    exact ⟨h.1, h.2.adopt hd⟩
theorem RVs.adopt {H : Hp} {ds : List Addr} (hd : ∀ d ∈ ds, d = D) : ∀ {xs : List Val} {us : List V}, RVs ⟨K.K, D :: K.fb⟩ al H xs us → RVs K (al ++ ds) H xs us
  | [], us, h => by simp only [RVs] at h ⊢; exact h
  | x :: xs, us, h => by
    simp only [RVs] at h ⊢
    obtain ⟨u, r, e, h1, h2⟩ := h
    exact ⟨u, r, e, RV.adopt hd h1, RVs.adopt hd h2⟩
end
theorem RO.forbid {H : Hp} {l : Nat} {a : Addr} {ob : Ob} {lk : List Nat} (n : H D = none) (x : RO K al lk H l a ob) : RO ⟨K.K, D :: K.fb⟩ al lk H l a ob := by
  cases ob with
  | lst xs => obtain ⟨us, q, r⟩ := x; exact ⟨us, q, r.forbid n⟩
  | tape => obtain ⟨sa, ns, p, b, s, q, sq, rest⟩ := x; exact ⟨sa, ns, p, b, s, q, sq.forbid n, rest⟩
theorem RO.updD {H : Hp} {l : Nat} {a : Addr} {ob : Ob} {lk : List Nat} {o : HO} (m : D ∈ K.fb) (na : a ≠ D) (x : RO K al lk H l a ob) : RO K al lk (upd H D o) l a ob := by
  cases ob with
  | lst xs => obtain ⟨us, q, r⟩ := x; exact ⟨us, by rw [upd_ne na]; exact q, r.updD m⟩
  | tape => obtain ⟨sa, ns, p, b, s, q, sq, rest⟩ := x; exact ⟨sa, ns, p, b, s, by rw [upd_ne na]; exact q, sq.upd m, rest⟩
theorem RO.adopt {H : Hp} {l : Nat} {a : Addr} {ob : Ob} {lk : List Nat} {ds : List Addr} (hd : ∀ d ∈ ds, d = D) (x : RO ⟨K.K, D :: K.fb⟩ al lk H l a ob) : RO K (al ++ ds) lk H l a ob := by
  cases ob with
  | lst xs => obtain ⟨us, q, r⟩ := x; exact ⟨us, q, r.adopt hd⟩
  | tape => obtain ⟨sa, ns, p, b, s, q, sq, rest⟩ := x; exact ⟨sa, ns, p, b, s, q, sq.adopt hd, rest⟩
/-- D is laid and forbidden -/
theorem RH.forbid {H : Hp} {o : HO} (r : RH K al h H) (n : H D = none) : RH ⟨K.K, D :: K.fb⟩ al h (upd H D o) := by
  have nd := r.free n
  refine ⟨r.len, r.os, r.nd, r.lkb, fun a m => ?_, fun l a ob e1 e2 => ?_⟩
  · rcases List.mem_cons.mp m with e | m
    · subst e
      exact ⟨nd, _, upd_same⟩
    · obtain ⟨z1, u, q⟩ := r.fb a m
      exact ⟨z1, u, by rw [upd_ne (ne_of_none q n)]; exact q⟩
  · have na : a ≠ D := fun z => nd (by rw [← z]; exact List.mem_of_getElem? e1)
    exact RO.updD (K := ⟨K.K, D :: K.fb⟩) List.mem_cons_self na (RO.forbid n (r.ob l a ob e1 e2))
theorem RH.updD {H : Hp} {o : HO} (r : RH K al h H) (m : D ∈ K.fb) : RH K al h (upd H D o) := by
  refine ⟨r.len, r.os, r.nd, r.lkb, fun a ma => ?_, fun l a ob e1 e2 => ?_⟩
  · obtain ⟨z1, u, q⟩ := r.fb a ma
    refine ⟨z1, ?_⟩
    by_cases e : a = D
    · subst e
      exact ⟨_, upd_same⟩
    · exact ⟨u, by rw [upd_ne e]; exact q⟩
  · have na : a ≠ D := fun z => (r.fb D m).1 (by rw [← z]; exact List.mem_of_getElem? e1)
    exact RO.updD m na (r.ob l a ob e1 e2)
theorem RH.back {H : Hp} (r : RH ⟨K.K, D :: K.fb⟩ al h H) : RH K al h H :=
  ⟨r.len, r.os, r.nd, r.lkb, fun a m => r.fb a (List.mem_cons_of_mem _ m), fun l a ob e1 e2 => by
    have := RO.adopt (ds := []) (fun _ z => absurd z (List.not_mem_nil)) (r.ob l a ob e1 e2)
    rw [List.append_nil] at this
    exact this⟩
/-- D is taken on as the newest object -/
theorem RH.take {H : Hp} {xs : List Val} {us : List V} (r : RH ⟨K.K, D :: K.fb⟩ al h H) (nk : D ∉ K.fb) (e : H D = some (.lst us)) (rs : RVs ⟨K.K, D :: K.fb⟩ al H xs us) : RH K (al ++ [D]) (h.new (.lst xs)) H := by
  have nd : D ∉ al := (r.fb D List.mem_cons_self).1
  have one : ∀ d ∈ [D], d = D := fun d m => List.mem_singleton.mp m
  refine ⟨by simp [Hs.new, r.len], by simp [Hs.new, r.os], ?_, fun l z => Nat.lt_succ_of_lt (r.lkb l z), fun a m => ?_, fun l a u e1 e2 => ?_⟩
  · rw [List.nodup_append]
    refine ⟨r.nd, by simp, fun a ha b hb => ?_⟩
    rw [List.mem_singleton] at hb
    subst hb
    exact fun z => nd (by rw [← z]; exact ha)
  · obtain ⟨z1, z2⟩ := r.fb a (List.mem_cons_of_mem _ m)
    refine ⟨?_, z2⟩
    simp only [List.mem_append, List.mem_singleton, not_or]
    exact ⟨z1, fun z => nk (by rw [← z]; exact m)⟩
  · rw [Hs.get_new h _ r.os] at e2
    by_cases el : l = h.n
    · subst el
      rw [if_pos rfl] at e2
      cases e2
      rw [List.getElem?_append_right (by rw [r.len]; exact Nat.le_refl _), r.len] at e1
      simp at e1
      subst e1
      refine ⟨us, ?_, rs.adopt one⟩
      split
      · rename_i z
        exact absurd (r.lkb _ z) (Nat.lt_irrefl _)
      · exact e
    · rw [if_neg el] at e2
      rw [List.getElem?_append_left (by rw [r.len]; exact Hs.get_lt e2)] at e1
      exact (r.ob l a u e1 e2).adopt one
theorem Ext.updD {al1 : List Addr} {h1 : Hs} {H H1 : Hp} {o : HO} (e : Ext al h H al1 h1 H1) (n : H D = none) : Ext al h H al1 h1 (upd H1 D o) :=
  { pre := e.pre, keep := fun a u na q => ⟨by rw [upd_ne (ne_of_none q n)]; exact (e.keep a u na q).1, (e.keep a u na q).2⟩, frz := fun a u w q => by rw [upd_ne (ne_of_none q n)]; exact e.frz a u w q, lo := e.lo, sm := e.sm, n := e.n, lk := e.lk }
theorem Ext.take {al1 : List Addr} {h1 : Hs} {H H1 : Hp} {ob : Ob} (e : Ext al h H al1 h1 H1) (n : H D = none) (os : h1.os.length = h1.n) : Ext al h H (al1 ++ [D]) (h1.new ob) H1 :=
  { pre := fun l a q => by have := e.pre l a q; rw [List.getElem?_append_left (List.getElem?_eq_some_iff.mp this).1]; exact this
    keep := fun a u na q => ⟨(e.keep a u na q).1, by
      simp only [List.mem_append, List.mem_singleton, not_or]
      exact ⟨(e.keep a u na q).2, ne_of_none q n⟩⟩
    frz := e.frz
    lo := e.lo
    sm := fun l z1 z2 => by
      have h2 := e.n
      rw [Hs.get_new h1 ob os, if_neg (by omega)]
      exact e.sm l z1 z2
    n := Nat.le_trans e.n (Nat.le_succ _)
    lk := e.lk }
end

/-! ### comprehensions -/
theorem wipe_ext {σ σ' : St} {vs : List Nat} (hl : σ'.length = σ.length) (h : ∀ j : Nat, j ∉ vs → σ'[j]? = σ[j]?) : L2.wipe σ' vs = L2.wipe σ vs := by
  apply List.ext_getElem?
  intro j
  by_cases m : j ∈ vs
  · have key : ∀ (τ : St) (ws : List Nat), j ∈ ws → (L2.wipe τ ws)[j]? = if j < τ.length then some none else none := by
      intro τ ws
      induction ws with
      | nil => intro z; exact absurd z (List.not_mem_nil)
      | cons v ws ih =>
        intro z
        unfold L2.wipe
        rw [List.getElem?_set]
        by_cases e : v = j
        · subst e
          rw [if_pos rfl, wipe_length]
        · rw [if_neg e]
          exact ih ((List.mem_cons.mp z).resolve_left fun q => e q.symm)
    rw [key σ' vs m, key σ vs m, hl]
  · rw [wipe_out m, wipe_out m]
    exact h j m
theorem wipe_wipe {σ : St} {vs : List Nat} : L2.wipe (L2.wipe σ vs) vs = L2.wipe σ vs := wipe_ext (wipe_length σ vs) fun j m => wipe_out m
theorem imp_lc {c : Env → Hs → T (List Val × Hs)} {sk : Sk} {tg : Tg} {own : List Nat} {ct : Env → Hs → T (Bool × Hs)} {ce : Env → Hs → T (Val × Hs)} {m : Bool} {Q : V → Hp → Prop} (hs : ∀ j ∈ slots tg, j ∈ own)
    (w : ∃ K al s h, K.K = F ∧ RH K al h H ∧ RE K al H s σ ∧ (c s h).All fun p => ∃ xs l, srcV sk p.1 p.2 = some (xs, l) ∧ (∀ l', l = some l' → p.2.lk.contains l' = true) ∧ small xs.length = true ∧
      ((lcL (fun x => tgS tg x (wipeE s own)) ct ce xs p.2).bind fun r => mkL m r.1 r.2).All (Pt K al h H Q)) :
    tLc (tI F sk c) (tG F tg) (tT F ct) (tE F ce) own σ H Q := by
  obtain ⟨K, al, s, h, rfl, rh, re, p⟩ := w
  refine ⟨K, al, s, h, rfl, rh, re, T.all_mono (fun q z => ?_) p⟩
  obtain ⟨xs, l, es, hl, hsm, z⟩ := z
  refine ⟨xs, l, es, hl, fun al1 H1 us J e1 rh1 rs wk => ?_⟩
  intro D nD
  have hlen := rs.length
  have nH : H D = none := by
    cases e : H D with
    | none => rfl
    | some o =>
      by_cases mD : D ∈ al
      · obtain ⟨i, hi⟩ := List.getElem?_of_mem mD
        obtain ⟨o', q'⟩ := rh1.has (List.mem_of_getElem? (e1.pre i D hi))
        rw [nD] at q'
        cases q'
      · have := (e1.keep D o mD e).1
        rw [nD] at this
        cases this
  have nfb := rh1.nfb nD
  -- the state that a turn begins with
  let K' : Cn := ⟨K.K, D :: K.fb⟩
  have mD : D ∈ K'.fb := List.mem_cons_self
  have reD : RE K' al1 (upd H1 D (.lst [])) s σ := by
    have r1 := re.mono e1.toKp
    exact ⟨r1.len, fun i v e => let ⟨u, z1, z2⟩ := r1.get i v e; ⟨u, z1, RV.updD (K := K') mD (z2.forbid nD)⟩⟩
  have rsD : RVs K' al1 H1 xs us := rs.forbid nD
  let St1 : Nat → Hp → Prop := fun i H' => ∃ al' h' acc ws, Ext al1 q.2 H1 al' h' H' ∧ RH K' al' h' H' ∧ H' D = some (.lst ws) ∧ RVs K' al' H' acc ws ∧ acc.length ≤ i ∧
    ((lcL (fun x => tgS tg x (wipeE s own)) ct ce (xs.drop i) h').bind fun r => mkL m (acc ++ r.1) r.2).All (Pt K al h H Q)
  have reAt : ∀ {al' h' H'}, Ext al1 q.2 H1 al' h' H' → RE K' al' H' s σ := fun {al' h' H'} e => by
    have r1 := re.mono e1.toKp
    have r2 : RE K' al1 H1 s σ := ⟨r1.len, fun i v e => let ⟨u, z1, z2⟩ := r1.get i v e; ⟨u, z1, z2.forbid nD⟩⟩
    exact r2.mono e.toKp
  refine ⟨fun i mm H' => mm = us.length - i ∧ i ≤ us.length ∧ St1 i H', ⟨us.length, by simp, Nat.zero_le _, al1, q.2, [], [], ?_, rh1.forbid nD, upd_same, .nil, Nat.le_refl _, ?_⟩, ?_⟩
  · exact Ext.updD Ext.refl nD
  · rw [List.drop_zero]
    exact z
  rintro i mm H' ⟨rfl, hi, al', h', acc, ws, e2, rh2, hD, ra, hacc, p2⟩
  obtain ⟨wk1, wk2⟩ := wk al' h' H' e2
  by_cases hlt : i < us.length
  · obtain ⟨u, hu⟩ : ∃ u, us[i]? = some u := ⟨_, List.getElem?_eq_getElem hlt⟩
    obtain ⟨go, yl⟩ := wk1 i u hu
    have hx : xs[i]? = some xs[i] := List.getElem?_eq_getElem (by omega)
    have hd : xs.drop i = xs[i] :: xs.drop (i + 1) := List.drop_eq_getElem_cons (by omega)
    rw [hd] at p2
    unfold lcL at p2
    have ru : RV K' al' H' xs[i] u := (rsD.mono e2.toKp).at hx hu
    split at p2
    · exact p2.elim
    · rename_i s1 hs1
      refine .inr ⟨go, St1 (i + 1), fun H'' q'' => ⟨us.length - (i + 1), by omega, rfl, hlt, q''⟩, fun v H2 y => ?_⟩
      obtain ⟨ev, eH⟩ := yl v H2 y
      subst ev eH
      refine ⟨K', al', wipeE s own, h', xs[i], s1, rfl, rh2, (reAt e2).wipe own, ru, hs1, fun σ2 re3 hl3 hag => ?_⟩
      refine ⟨?_, ?_⟩
      · rw [← wipe_wipe (σ := σ)]
        exact wipe_ext hl3 fun j mj => hag j fun z => mj (hs j z)
      · rw [T.all_bind, T.all_bind] at p2
        refine ⟨K', al', s1, h', rfl, rh2, re3, T.all_mono (fun r z2 al2 H2 e3 rh3 => ?_) p2⟩
        cases hb : r.1 with
        | false =>
          rw [if_neg Bool.false_ne_true]
          rw [hb] at z2
          simp only at z2
          exact ⟨al2, r.2, acc, ws, e2.trans e3, rh3, (e3.keep D _ (rh2.fb D mD).1 hD).1, ra.mono e3.toKp, by omega, T.all_bind.mpr z2⟩
        | true =>
          rw [if_pos rfl]
          rw [hb] at z2
          simp only at z2
          rw [T.all_bind] at z2
          refine ⟨K', al2, s1, r.2, rfl, rh3, re3.mono e3.toKp, T.all_mono (fun r2 z3 al3 H3 u3 e4 rh4 rv3 => ?_) z2⟩
          rw [T.all_bind] at z3
          have hD2 := (e3.keep D _ (rh2.fb D mD).1 hD).1
          have hD3 := (e4.keep D _ (rh3.fb D mD).1 hD2).1
          have hwl : ws.length < sizeLine := by
            have h1 := small_lt hsm
            have h2 := ra.length
            omega
          refine ⟨ws, hD3, hwl, al3, r2.2, acc ++ [r2.1], ws ++ [u3], Ext.updD (e2.trans (e3.trans e4)) nD, rh4.updD mD, upd_same, ?_, by simp; omega, ?_⟩
          · exact RVs.updD mD ((ra.mono (e3.trans e4).toKp).append (.one rv3))
          · rw [T.all_bind]
            refine T.all_mono (fun r3 z4 => ?_) z3
            have ea : acc ++ [r2.1] ++ r3.1 = acc ++ r2.1 :: r3.1 := by simp
            rw [ea]
            exact z4
  · have ei : i = us.length := by omega
    subst ei
    rw [List.drop_of_length_le (by omega)] at p2
    refine .inl ⟨wk2, ?_⟩
    have p3 : (mkL m (acc ++ []) h').All (Pt K al h H Q) := p2
    rw [List.append_nil] at p3
    cases m with
    | false =>
      refine p3 al' H' _ (e1.trans e2) rh2.back ?_
      simp only [RV]
      have ra' := ra.adopt (ds := []) (fun _ z => absurd z (List.not_mem_nil))
      rw [List.append_nil] at ra'
      exact ⟨D, ws, rfl, ⟨hD, (rh2.fb D mD).1, nfb⟩, ra'⟩
    | true =>
      refine p3 (al' ++ [D]) H' _ (Ext.take (e1.trans e2) nH rh2.os) (rh2.take nfb hD ra) ?_
      simp only [RV]
      refine ⟨D, rfl, ?_⟩
      show (al' ++ [D])[h'.n]? = some D
      rw [List.getElem?_append_right (by rw [rh2.len]; exact Nat.le_refl _), rh2.len]
      simp
end
end Eng
/-! Statements from runs; a list that stands still while it is walked. -/
namespace Eng
open PySem L2
section
variable {K : Cn} {al al' : List Addr} {h h1 : Hs} {H H' : Hp} {l : Nat} {a : Addr} {us : List V} {xs : List Val} {od : Obj}
theorem has_cons (l m : Nat) (lk : List Nat) : (l :: lk).contains m = (m == l || lk.contains m) := by
  rw [List.contains_cons]
theorem RO.lk {lk lk' : List Nat} {ob : Ob} (e : lk.contains l = lk'.contains l) (x : RO K al lk H l a ob) : RO K al lk' H l a ob := by
  cases ob with
  | lst ys =>
    obtain ⟨ws, q, r⟩ := x
    rw [e] at q
    exact ⟨ws, q, r⟩
  | tape => exact x
theorem RH.relk {lk : List Nat} (r : RH K al h H) (e : ∀ m, h.lk.contains m = lk.contains m) : RH K al (h.unlock lk) H :=
  ⟨r.len, r.os, r.nd, fun m z => r.lkb m (by rw [e]; exact z), r.fb, fun m b ob e1 e2 => (r.ob m b ob e1 e2).lk (e m)⟩
theorem RH.lock (r : RH K al h H) (e : al[l]? = some a) (g : h.get l = some (.lst xs)) (ea : H a = some (.lst us)) (nk : h.lk.contains l = false) : RH K al (h.lock l) (upd H a (.frz od (.lst us))) := by
  have kp : Kp al H al (upd H a (.frz od (.lst us))) := Kp.put r e
  have hl : l < h.n := by rw [← r.len]; exact (List.getElem?_eq_some_iff.mp e).1
  refine ⟨r.len, r.os, r.nd, fun m z => ?_, fun b m => ?_, fun m b ob e1 e2 => ?_⟩
  · have z : (l :: h.lk).contains m = true := z
    rw [has_cons, Bool.or_eq_true, beq_iff_eq] at z
    rcases z with z | z
    · rw [z]; exact hl
    · exact r.lkb m z
  · obtain ⟨z1, o, q⟩ := r.fb b m
    exact ⟨z1, o, by rw [upd_ne fun z => z1 (by rw [z]; exact List.mem_of_getElem? e)]; exact q⟩
  · have x := r.ob m b ob e1 e2
    show RO K al (l :: h.lk) _ m b ob
    by_cases em : m = l
    · subst em
      rw [e] at e1
      cases e1
      have e2' : h.get m = some ob := e2
      rw [g] at e2'
      cases e2'
      · obtain ⟨ws, q, rs⟩ := x
        rw [nk, if_neg Bool.false_ne_true] at q
        refine ⟨us, ?_, ?_⟩
        · rw [has_cons, beq_self_eq_true, Bool.true_or, if_pos rfl]
          exact ⟨od, upd_same⟩
        · rw [ea] at q
          cases q
          exact rs.mono kp
    · refine RO.lk (lk := h.lk) ?_ (RO.mono kp ?_ x)
      · rw [has_cons, beq_eq_false_iff_ne.mpr em, Bool.false_or]
      · rw [upd_ne fun z => em (r.inj (by rw [← z]; exact e1) e)]

theorem Ext.unlock (r : RH K al h H) (e : al[l]? = some a) (ea : H a = some (.lst us)) (x : Ext al (h.lock l) (upd H a (.frz od (.lst us))) al' h1 H') : Ext al h H al' (h1.unlock h.lk) (upd H' a (.lst us)) := by
  have ma : a ∈ al := List.mem_of_getElem? e
  refine { pre := x.pre, keep := fun b o nb q => ?_, frz := fun b o u q => ?_, lo := x.lo, sm := x.sm, n := x.n, lk := rfl }
  · have ne : b ≠ a := fun z => nb (by rw [z]; exact ma)
    obtain ⟨z1, z2⟩ := x.keep b o nb (by rw [upd_ne ne]; exact q)
    exact ⟨by rw [upd_ne ne]; exact z1, z2⟩
  · have ne : b ≠ a := fun z => by rw [z, ea] at q; cases q
    rw [upd_ne ne]
    exact x.frz b o u (by rw [upd_ne ne]; exact q)
theorem RH.unlock (r' : RH K al' h1 H') (e : al'[l]? = some a) (nk : h.lk.contains l = false) (hk : h1.lk = l :: h.lk) (ea : H' a = some (.frz od (.lst us))) : RH K al' (h1.unlock h.lk) (upd H' a (.lst us)) := by
  have kp : Kp al' H' al' (upd H' a (.lst us)) := Kp.put r' e
  refine ⟨r'.len, r'.os, r'.nd, fun m z => r'.lkb m ?_, fun b m => ?_, fun m b ob e1 e2 => ?_⟩
  · rw [hk, has_cons]
    have z : h.lk.contains m = true := z
    rw [z, Bool.or_true]
  · obtain ⟨z1, o, q⟩ := r'.fb b m
    exact ⟨z1, o, by rw [upd_ne fun z => z1 (by rw [z]; exact List.mem_of_getElem? e)]; exact q⟩
  · have x := r'.ob m b ob e1 e2
    rw [hk] at x
    show RO K al' h.lk _ m b ob
    by_cases em : m = l
    · subst em
      rw [e] at e1
      cases e1
      cases ob with
      | lst ys =>
        obtain ⟨ws, q, rs⟩ := x
        rw [has_cons, beq_self_eq_true, Bool.true_or, if_pos rfl] at q
        obtain ⟨od', q⟩ := q
        rw [ea] at q
        cases q
        refine ⟨us, ?_, rs.mono kp⟩
        rw [nk, if_neg Bool.false_ne_true]
        exact upd_same
      | tape =>
        obtain ⟨sa, ns, p, b, s, q, sq, rest⟩ := x
        rw [ea] at q
        cases q
    · refine RO.lk (lk := l :: h.lk) ?_ (RO.mono kp ?_ x)
      · rw [has_cons, beq_eq_false_iff_ne.mpr em, Bool.false_or]
      · rw [upd_ne fun z => em (r'.inj (by rw [← z]; exact e1) e)]
end
section
variable {F : PySem.W.Frag} {σ : St} {H : Hp}
/-- a list that stands still already, or comes to -/
theorem imp_forL {i : Nat} {sk : Sk} {tg : Tg} {c : Env → Hs → T (List Val × Hs)} {body : Env → Hs → T Rs} {D : Ends} {K : Cn} {al : List Addr} {s : Env} {h : Hs} {l : Nat} {ys xs : List Val} (eF : K.K = F) (rh : RH K al h H) (re : RE K al H s σ)
    (hc : ∀ h, c s h = .ok ([.ref l], h)) (hs : s[i]? = some (some (.ref l))) (g : h.get l = some (.lst ys)) (es : ∀ h' : Hs, h'.get l = some (.lst ys) → srcV sk [.ref l] h' = some (xs, some l))
    (p : ((forL (tgS tg) body xs s (h.lock l)).bind fun r => .ok (r.1, r.2.1, r.2.2.unlock h.lk)).All (Pd K al h H D)) :
    tFor (tI F sk c) (tG F tg) (tS F body) D σ H ∨ tLock (tFor (tI F sk c) (tG F tg) (tS F body)) D σ H := by
  subst eF
  rw [T.all_bind] at p
  obtain ⟨u, _, ru⟩ := re.get i _ hs
  obtain ⟨a, eu, ea⟩ := ru.ref_of
  have lself : (h.lock l).lk.contains l = true := by
    show (l :: h.lk).contains l = true
    rw [has_cons, beq_self_eq_true, Bool.true_or]
  cases nk : h.lk.contains l with
  | true =>
    left
    have same : ∀ m, h.lk.contains m = (l :: h.lk).contains m := fun m => by
      rw [has_cons]
      by_cases e : m = l
      · subst e
        rw [nk, Bool.or_true]
      · rw [beq_eq_false_iff_ne.mpr e, Bool.false_or]
    have rhl : RH K al (h.lock l) H := rh.relk same
    refine imp_for ⟨K, al, s, h.lock l, rfl, rhl, re, ?_⟩
    rw [hc]
    refine ⟨xs, some l, es _ g, fun l' e => by cases e; exact lself, ?_⟩
    refine T.all_mono (fun r z al' H' σ' e rh' re' => ?_) p
    have hk : r.2.2.lk = l :: h.lk := e.lk
    exact z al' H' σ' { e with lo := e.lo, sm := e.sm, n := e.n, lk := rfl } (rh'.relk fun m => by rw [hk, ← same]) re'
  | false =>
    right
    obtain ⟨us, hq, rs⟩ := rh.ob l a _ ea g
    rw [nk, if_neg Bool.false_ne_true] at hq
    have ma : a ∈ al := List.mem_of_getElem? ea
    refine ⟨a, .lst us, hq, True.intro, fun od => ?_⟩
    have rhl : RH K al (h.lock l) (upd H a (.frz od (.lst us))) := rh.lock ea g hq nk
    refine imp_for ⟨K, al, s, h.lock l, rfl, rhl, re.mono (Kp.put rh ea), ?_⟩
    rw [hc]
    refine ⟨xs, some l, es _ g, fun l' e => by cases e; exact lself, ?_⟩
    refine T.all_mono (fun r z al' H' σ' e rh' re' => ?_) p
    have hk : r.2.2.lk = l :: h.lk := e.lk
    have ea' : al'[l]? = some a := e.pre l a ea
    have hz : H' a = some (.frz od (.lst us)) := e.frz a od _ upd_same
    have kp : Kp al' H' al' (upd H' a (.lst us)) := Kp.put rh' ea'
    have z2 := z al' (upd H' a (.lst us)) σ' (Ext.unlock rh ea hq e) (RH.unlock rh' ea' nk hk hz) (re'.mono kp)
    split <;> rename_i ef <;> rw [ef] at z2
    · exact ⟨hz, z2⟩
    · exact ⟨hz, z2⟩
    · exact ⟨hz, z2⟩
    · exact fun u ru => ⟨hz, z2 u (ru.mono kp)⟩
theorem imp_lcL {i : Nat} {sk : Sk} {tg : Tg} {own : List Nat} {c : Env → Hs → T (List Val × Hs)} {ct : Env → Hs → T (Bool × Hs)} {ce : Env → Hs → T (Val × Hs)} {m : Bool} {Q : V → Hp → Prop} (hsl : ∀ j ∈ slots tg, j ∈ own)
    {K : Cn} {al : List Addr} {s : Env} {h : Hs} {l : Nat} {ys xs : List Val} (eF : K.K = F) (rh : RH K al h H) (re : RE K al H s σ)
    (hc : ∀ h, c s h = .ok ([.ref l], h)) (hs : s[i]? = some (some (.ref l))) (g : h.get l = some (.lst ys)) (es : ∀ h' : Hs, h'.get l = some (.lst ys) → srcV sk [.ref l] h' = some (xs, some l)) (hsm : small xs.length = true)
    (p : ((lcL (fun x => tgS tg x (wipeE s own)) ct ce xs (h.lock l)).bind fun r => mkL m r.1 (r.2.unlock h.lk)).All (Pt K al h H Q)) :
    tLc (tI F sk c) (tG F tg) (tT F ct) (tE F ce) own σ H Q ∨ tLockE (tLc (tI F sk c) (tG F tg) (tT F ct) (tE F ce) own) σ H Q := by
  subst eF
  obtain ⟨u, _, ru⟩ := re.get i _ hs
  obtain ⟨a, eu, ea⟩ := ru.ref_of
  have lself : (h.lock l).lk.contains l = true := by
    show (l :: h.lk).contains l = true
    rw [has_cons, beq_self_eq_true, Bool.true_or]
  have mk : ∀ {xs : List Val} {h1 : Hs}, ∃ v : Val, ∃ h2 : Hs, mkL m xs h1 = .ok (v, h2) ∧ mkL m xs (h1.unlock h.lk) = .ok (v, h2.unlock h.lk) := fun {xs h1} => by
    cases m with
    | false => exact ⟨_, _, rfl, rfl⟩
    | true => exact ⟨_, _, rfl, rfl⟩
  have pp : ((lcL (fun x => tgS tg x (wipeE s own)) ct ce xs (h.lock l)).bind fun r => mkL m r.1 r.2).All fun q => Pt K al h H Q (q.1, q.2.unlock h.lk) := by
    rw [T.all_bind] at p ⊢
    refine T.all_mono (fun r z => ?_) p
    obtain ⟨v, h2, e1, e2⟩ := mk (xs := r.1) (h1 := r.2)
    rw [e2] at z
    rw [e1]
    exact z
  cases nk : h.lk.contains l with
  | true =>
    left
    have same : ∀ m, h.lk.contains m = (l :: h.lk).contains m := fun m => by
      rw [has_cons]
      by_cases e : m = l
      · subst e
        rw [nk, Bool.or_true]
      · rw [beq_eq_false_iff_ne.mpr e, Bool.false_or]
    have rhl : RH K al (h.lock l) H := rh.relk same
    refine imp_lc (m := m) hsl ⟨K, al, s, h.lock l, rfl, rhl, re, ?_⟩
    rw [hc]
    refine ⟨xs, some l, es _ g, fun l' e => by cases e; exact lself, hsm, ?_⟩
    refine T.all_mono (fun r z al' H' u e rh' ru' => ?_) pp
    have hk : r.2.lk = l :: h.lk := e.lk
    exact z al' H' u { e with lo := e.lo, sm := e.sm, n := e.n, lk := rfl } (rh'.relk fun m => by rw [hk, ← same]) ru'
  | false =>
    right
    obtain ⟨us, hq, rs⟩ := rh.ob l a _ ea g
    rw [nk, if_neg Bool.false_ne_true] at hq
    refine ⟨a, .lst us, hq, True.intro, fun od => ?_⟩
    have rhl : RH K al (h.lock l) (upd H a (.frz od (.lst us))) := rh.lock ea g hq nk
    refine imp_lc (m := m) hsl ⟨K, al, s, h.lock l, rfl, rhl, re.mono (Kp.put rh ea), ?_⟩
    rw [hc]
    refine ⟨xs, some l, es _ g, fun l' e => by cases e; exact lself, hsm, ?_⟩
    refine T.all_mono (fun r z al' H' u e rh' ru' => ?_) pp
    have hk : r.2.lk = l :: h.lk := e.lk
    have ea' : al'[l]? = some a := e.pre l a ea
    have hz : H' a = some (.frz od (.lst us)) := e.frz a od _ upd_same
    have kp : Kp al' H' al' (upd H' a (.lst us)) := Kp.put rh' ea'
    exact ⟨hz, z al' (upd H' a (.lst us)) u (Ext.unlock rh ea hq e) (RH.unlock rh' ea' nk hk hz) (ru'.mono kp)⟩
end

/-! ### statements -/
section
variable {F : PySem.W.Frag} {σ : St} {H : Hp} {D : Ends}
theorem imp_ex {c : Env → Hs → T (Val × Hs)} (w : tS F (fun s h => (c s h).bind fun p => .ok (.nx, s, p.2)) D σ H) : tDrop (tE F c) D σ H := by
  obtain ⟨K, al, s, h, rfl, rh, re, p⟩ := w
  refine tE.seq rh re (T.all_mono (fun q z al1 H1 x e1 rh1 re1 rx => ?_) (T.all_bind.mp p))
  exact z al1 H1 σ e1 rh1 re1
theorem imp_ret {c : Env → Hs → T (Val × Hs)} (w : tS F (fun s h => (c s h).bind fun p => .ok (.rt p.1, s, p.2)) D σ H) : tRet (tE F c) D σ H := by
  obtain ⟨K, al, s, h, rfl, rh, re, p⟩ := w
  refine tE.seq rh re (T.all_mono (fun q z al1 H1 x e1 rh1 re1 rx => ?_) (T.all_bind.mp p))
  exact z al1 H1 σ e1 rh1 re1 x rx
theorem imp_ifs {cc : Env → Hs → T (Bool × Hs)} {ca cb : Env → Hs → T Rs} (w : tS F (fun s h => (cc s h).bind fun p => match p.1 with
      | true => ca s p.2
      | false => cb s p.2) D σ H) : tIfS (tT F cc) (tS F ca) (tS F cb) D σ H := by
  obtain ⟨K, al, s, h, rfl, rh, re, p⟩ := w
  refine tT.seq rh re (T.all_mono (fun q z al1 H1 e1 rh1 re1 => ?_) (T.all_bind.mp p))
  split at z <;> rename_i ei <;> rw [ei]
  · exact iteT ⟨K, al1, s, q.2, rfl, rh1, re1, T.all_mono (fun _ z3 => z3.trans e1) z⟩
  · exact iteF ⟨K, al1, s, q.2, rfl, rh1, re1, T.all_mono (fun _ z3 => z3.trans e1) z⟩
theorem imp_seq {ca cb : Env → Hs → T Rs} (w : tS F (fun s h => (ca s h).bind fun r => match r.1 with
      | .nx => cb r.2.1 r.2.2
      | _ => .ok r) D σ H) : tSeq (tS F ca) (tS F cb) D σ H := by
  obtain ⟨K, al, s, h, rfl, rh, re, p⟩ := w
  refine ⟨K, al, s, h, rfl, rh, re, T.all_mono (fun r z al1 H1 σ1 e1 rh1 re1 => ?_) (T.all_bind.mp p)⟩
  obtain ⟨fl, s1, h1⟩ := r
  cases fl with
  | nx => exact ⟨K, al1, s1, h1, rfl, rh1, re1, T.all_mono (fun _ z3 => z3.trans e1) z⟩
  | bk => exact z al1 H1 σ1 e1 rh1 re1
  | ct => exact z al1 H1 σ1 e1 rh1 re1
  | rt v => exact z al1 H1 σ1 e1 rh1 re1
theorem imp_whl {ct : Env → Hs → T (Bool × Hs)} {body : Env → Hs → T Rs} {n : Nat} (w : tS F (whlL ct body n) D σ H) : tWhile (tT F ct) (tS F body) D σ H := by
  obtain ⟨K, al, s, h, rfl, rh, re, p⟩ := w
  refine ⟨fun m σ' H' => ∃ al' s' h', Ext al h H al' h' H' ∧ RH K al' h' H' ∧ RE K al' H' s' σ' ∧ (whlL ct body m s' h').All (Pd K al h H D), ⟨n, al, s, h, Ext.refl, rh, re, p⟩, ?_⟩
  rintro m σ' H' ⟨al', s', h', e1, rh1, re1, p1⟩
  cases m with
  | zero => exact p1.elim
  | succ m =>
    unfold whlL at p1
    refine tT.seq rh1 re1 (T.all_mono (fun q z al2 H2 e2 rh2 re2 => ?_) (T.all_bind.mp p1))
    split at z <;> rename_i ei <;> rw [ei]
    · refine iteT ⟨fun σ'' H'' => ∃ al'' s'' h'', Ext al h H al'' h'' H'' ∧ RH K al'' h'' H'' ∧ RE K al'' H'' s'' σ'' ∧ (whlL ct body m s'' h'').All (Pd K al h H D), fun σ'' H'' q' => ⟨m, by omega, q'⟩, ?_⟩
      refine ⟨K, al2, s', q.2, rfl, rh2, re2, T.all_mono (fun r z al3 H3 σ3 e3 rh3 re3 => ?_) (T.all_bind.mp z)⟩
      have ee := e1.trans (e2.trans e3)
      split <;> rename_i ef <;> rw [ef] at z
      · exact ⟨al3, _, _, ee, rh3, re3, z⟩
      · exact z al3 H3 σ3 ee rh3 re3
      · exact ⟨al3, _, _, ee, rh3, re3, z⟩
      · exact fun u' ru' => z al3 H3 σ3 ee rh3 re3 u' ru'
    · exact iteF (z al2 H2 σ' (e1.trans e2) rh2 re2)
/-- a target takes a value -/
def tAt (F : PySem.W.Frag) (c : Val → Env → Hs → T (Env × Hs)) : TG := fun v σ H Q => ∃ K al s h x, K.K = F ∧ RH K al h H ∧ RE K al H s σ ∧ RV K al H x v ∧
  (c x s h).All fun r => ∀ al' H' σ', Ext al h H al' r.2 H' → RH K al' r.2 H' → RE K al' H' r.1 σ' → Q σ' H'
def tAts (F : PySem.W.Frag) (c : List Val → Env → Hs → T (Env × Hs)) : TGs := fun v σ H Q => ∃ K al s h x, K.K = F ∧ RH K al h H ∧ RE K al H s σ ∧ RVs K al H x v ∧
  (c x s h).All fun r => ∀ al' H' σ', Ext al h H al' r.2 H' → RH K al' r.2 H' → RE K al' H' r.1 σ' → Q σ' H'
theorem imp_asg {ce : Env → Hs → T (Val × Hs)} {ct : Val → Env → Hs → T (Env × Hs)} (w : tS F (fun s h => (ce s h).bind fun p => (ct p.1 s p.2).bind fun r => .ok (.nx, r.1, r.2)) D σ H) : tAsg (tE F ce) (tAt F ct) D σ H := by
  obtain ⟨K, al, s, h, rfl, rh, re, p⟩ := w
  refine tE.seq rh re (T.all_mono (fun q z al1 H1 x e1 rh1 re1 rx => ?_) (T.all_bind.mp p))
  exact ⟨K, al1, s, q.2, q.1, rfl, rh1, re1, rx, T.all_mono (fun r z al2 H2 σ2 e2 rh2 re2 => z al2 H2 σ2 (e1.trans e2) rh2 re2) (T.all_bind.mp z)⟩
theorem imp_at_nm {i : Nat} {v : V} {Q : St → Hp → Prop} (w : tAt F (fun v s h => .ok (s.set i (some v), h)) v σ H Q) : gName i v σ H Q := by
  obtain ⟨K, al, s, h, x, rfl, rh, re, rx, p⟩ := w
  exact p al H _ Ext.refl rh (re.set rx)
theorem imp_at_tp {c : List Val → Env → Hs → T (Env × Hs)} {n : Nat} {v : V} {Q : St → Hp → Prop} (w : tAt F (fun v s h => match v with
      | .tup xs => if xs.length == n then c xs s h else .no
      | _ => .no) v σ H Q) : gTup F n (tAts F c) v σ H Q := by
  obtain ⟨K, al, s, h, x, rfl, rh, re, rx, p⟩ := w
  cases x with
  | tup xs =>
    obtain ⟨a, us, e, st, rs⟩ := rx.tup_of
    subst e
    simp only at p
    split at p
    · rename_i hl
      exact ⟨a, us, rfl, st.sq, by rw [← rs.length]; exact beq_iff_eq.mp hl, K, al, s, h, xs, rfl, rh, re, rs, p⟩
    · exact p.elim
  | _ => exact p.elim
theorem imp_sb {co ci : Env → Hs → T (Val × Hs)} {v : V} {Q : St → Hp → Prop} (w : tAt F (fun v s h => (co s h).bind fun p => (ci s p.2).bind fun q => (setV p.1 q.1 v q.2).bind fun h' => .ok (s, h')) v σ H Q) : gSub (tE F co) (tE F ci) (rSet F) v σ H Q := by
  obtain ⟨K, al, s, h, x, rfl, rh, re, rx, p⟩ := w
  refine tE.seq rh re (T.all_mono (fun q z al1 H1 y e1 rh1 re1 ry => ?_) (T.all_bind.mp p))
  refine tE.seq rh1 re1 (T.all_mono (fun q2 z2 al2 H2 y2 e2 rh2 re2 ry2 => ?_) (T.all_bind.mp z))
  refine ⟨K, al2, q2.2, q.1, q2.1, x, rfl, rh2, ry.mono e2.toKp, ry2, rx.mono (e1.trans e2).toKp, T.all_mono (fun h' z3 H' e3 rh3 => ?_) (T.all_bind.mp z2)⟩
  exact z3 al2 H' σ (e1.trans (e2.trans e3)) rh3 (re2.mono e3.toKp)
theorem imp_aug {i : Nat} {op : Bop} {ce : Env → Hs → T (Val × Hs)} (w : tS F (fun s h => match s[i]? with
    | some (some x) => (ce s h).bind fun p => (ipV op x p.1 p.2).bind fun q => .ok (.nx, s.set i (some q.1), q.2)
    | _ => .no) D σ H) : tAug i (tE F ce) (rIp F op) D σ H := by
  obtain ⟨K, al, s, h, rfl, rh, re, p⟩ := w
  simp only at p
  split at p
  · rename_i x hx
    obtain ⟨u, hu, ru⟩ := re.get i x hx
    refine ⟨u, hu, ?_⟩
    refine tE.seq rh re (T.all_mono (fun q z al1 H1 y e1 rh1 re1 ry => ?_) (T.all_bind.mp p))
    refine ⟨K, al1, q.2, x, q.1, rfl, rh1, ru.mono e1.toKp, ry, T.all_mono (fun q2 z2 al2 H2 w2 e2 rh2 rw2 => ?_) (T.all_bind.mp z)⟩
    exact z2 al2 H2 _ (e1.trans e2) rh2 ((re1.mono e2.toKp).set rw2)
  · exact p.elim
/-- o[i], by values -/
def rGet (F : PySem.W.Frag) : V → V → Hp → VK → Prop := rS F
theorem imp_augS {op : Bop} {co ci ce : Env → Hs → T (Val × Hs)} (w : tS F (fun s h => (co s h).bind fun p => (ci s p.2).bind fun q => match subV p.1 q.1 q.2 with
    | some x => (ce s q.2).bind fun r => (ipV op x r.1 r.2).bind fun z => (setV p.1 q.1 z.1 z.2).bind fun h' => .ok (.nx, s, h')
    | none => .no) D σ H) : tAugS (tE F co) (tE F ci) (tE F ce) (rGet F) (rIp F op) (rSet F) D σ H := by
  obtain ⟨K, al, s, h, rfl, rh, re, p⟩ := w
  refine tE.seq rh re (T.all_mono (fun q z al1 H1 y e1 rh1 re1 ry => ?_) (T.all_bind.mp p))
  refine tE.seq rh1 re1 (T.all_mono (fun q2 z2 al2 H2 y2 e2 rh2 re2 ry2 => ?_) (T.all_bind.mp z))
  split at z2
  · rename_i x hx
    refine ⟨K, al2, q2.2, q.1, q2.1, x, rfl, rh2, ry.mono e2.toKp, ry2, hx, fun u ru => ?_⟩
    refine tE.seq rh2 re2 (T.all_mono (fun q3 z3 al3 H3 y3 e3 rh3 re3 ry3 => ?_) (T.all_bind.mp z2))
    refine ⟨K, al3, q3.2, x, q3.1, rfl, rh3, ru.mono e3.toKp, ry3, T.all_mono (fun q4 z4 al4 H4 y4 e4 rh4 ry4 => ?_) (T.all_bind.mp z3)⟩
    have e24 := e3.trans e4
    refine ⟨K, al4, q4.2, q.1, q2.1, q4.1, rfl, rh4, ry.mono (e2.trans e24).toKp, ry2.mono e24.toKp, ry4, T.all_mono (fun h' z5 H' e5 rh5 => ?_) (T.all_bind.mp z4)⟩
    exact z5 al4 H' σ (e1.trans (e2.trans (e24.trans e5))) rh5 (re.mono (e1.trans (e2.trans (e24.trans e5))).toKp)
  · exact z2.elim
end
end Eng
/-! From the program's text to the evaluator's. -/
namespace Eng
open PySem L2

inductive Gk where
  | fn (i : Nat) | con (v : Val) | blt
structure Ct where
  N : List Str
  sc : Scope
  fnb : Str → Bool
  gl : List (Str × Gk)
  mu : List (Nat × Nat)
def Ct.inn (c : Ct) (scope : Scope) : Ct := ⟨c.N, relS scope c.sc, fun x => scope.names.lookup x == some .cell, c.gl, c.mu⟩
def okN (x : Str) : Bool := !(x == ("__debug__" : Str)) && !(x == ("__classdict__" : Str)) && decide (x ≠ ("__name__" : Str))
def slotOf (N : List Str) (x : Str) : Option Nat := if N[N.idxOf x]? = some x then some (N.idxOf x) else none
def visB (sc : Scope) (x : Str) : Bool := match sc.names.lookup x with
  | some .local => true
  | some .cell => true
  | some .free => true
  | _ => false
def gloB (sc : Scope) (x : Str) : Bool := match sc.names.lookup x with
  | some .globalImplicit => true
  | _ => false
def Ct.isMu (c : Ct) (p : Pos) : Bool := c.mu.contains (p.line, p.col)
def cB : Operator → Option Bop
  | .Add => some .add | .Sub => some .sub | .Mult => some .mul | .FloorDiv => some .fdiv | .Mod => some .mod | .Pow => some .pow | .BitAnd => some .band | .BitXor => some .bxor | .LShift => some .shl | .RShift => some .shr
  | _ => none
def cC : CmpOp → Option Cop
  | .Eq => some .eq | .NotEq => some .ne | .Lt => some .lt | .LtE => some .le | .Gt => some .gt | .GtE => some .ge | .Is => some .is | .IsNot => some .nis | .In => some .mem | .NotIn => some .nmem
def isIf : Expr → Bool
  | .IfExp .. => true
  | _ => false
def isCallE : Expr → Bool
  | .Call .. => true
  | _ => false
def isSl : Expr → Bool
  | .Slice .. => true
  | _ => false
def isComp : Expr → Bool
  | .ListComp .. | .SetComp .. | .DictComp .. => true
  | _ => false
def cK : Const → Option E
  | .none => some (.c .non)
  | .bool b => some (.c (.bl b))
  | .int i => some (.c (.int i))
  | .str x => some (.c (.str x))
  | _ => none
def Ct.isBlt (c : Ct) (x : Str) : Bool := okN x && gloB c.sc x && (match c.gl.lookup x with
  | some .blt => true
  | _ => false)
def cNm (c : Ct) (x : Str) : Option E := match okN x with
  | false => none
  | true => match visB c.sc x with
    | true => (slotOf c.N x).map .v
    | false => match gloB c.sc x with
      | true => match c.gl.lookup x with
        | some (.con v) => some (.c v)
        | _ => none
      | false => none
def cBl (f : Expr → Option E) (op : BoolOp) : List Expr → Option E
  | [] => none
  | e :: es => match es with
    | [] => f e
    | _ :: _ => (f e).bind fun a => (cBl f op es).map fun b => match op with
      | .And => .and a b
      | .Or => .or a b
def biTab : List (Str × Nat × Bi) := [("len", 1, .len), ("abs", 1, .abs), ("max", 2, .max2), ("min", 2, .min2), ("int", 1, .int), ("bool", 1, .bool), ("sum", 1, .sum), ("max", 1, .maxl), ("min", 1, .minl), ("any", 1, .any), ("all", 1, .all), ("sorted", 1, .sorted), ("tuple", 1, .tuple), ("list", 1, .list)]
def biOf (x : Str) (k : Nat) : Option Bi := (biTab.find? fun p => decide (p.1 = x) && p.2.1 == k).map (·.2.2)
def tyTab : List (Str × Ty) := [("bool", .bool), ("int", .int), ("str", .str), ("list", .list), ("tuple", .tuple), ("dict", .dict)]
def tyOfN (x : Str) : Option Ty := (tyTab.find? fun p => decide (p.1 = x)).map (·.2)
def meTab : List (Str × Nat × Me) := [("append", 1, .append), ("pop", 0, .pop), ("extend", 1, .extend)]
def meOf (x : Str) (k : Nat) : Option Me := (meTab.find? fun p => decide (p.1 = x) && p.2.1 == k).map (·.2.2)
/-- a call of a built-in by its name, without keywords: its arguments -/
def bltCall (c : Ct) (x : Str) : Expr → Option (List Expr)
  | .Call f es kws _ => match f, kws with
    | .Name y _, [] => match decide (y = x) && c.isBlt x with
      | true => some es
      | false => none
    | _, _ => none
  | _ => none
def cCall (f : Expr → Option E) (c : Ct) (x : Str) (es : List Expr) (pos : Pos) : Option E := match okN x && gloB c.sc x with
  | false => none
  | true => match c.gl.lookup x with
    | some (.fn i) => (optAll f es).map (.call i)
    | some .blt => match decide (x = ("isinstance" : Str)) with
      | true => (match es with
        | [e, t] => match t with
          | .Name y _ => match c.isBlt y with
            | true => (tyOfN y).bind fun t' => (f e).map fun e' => .isi e' t'
            | false => none
          | _ => none
        | _ => none)
      | false => match (match decide (x = ("list" : Str)) || decide (x = ("tuple" : Str)) with
        | true => (match es with
          | [e] => bltCall c "range" e
          | _ => none)
        | false => none) with
        | some rs => match rs with
          | [a] => (f a).map fun a' => .mat (decide (x = ("tuple" : Str))) (c.isMu pos) .rng [a']
          | [a, b] => (f a).bind fun a' => (f b).map fun b' => .mat (decide (x = ("tuple" : Str))) (c.isMu pos) .rng [a', b']
          | _ => none
        | none => (biOf x es.length).bind fun b => (optAll f es).map (.bi b (c.isMu pos))
    | _ => none
/-- what is walked -/
def cI (f : Expr → Option E) (c : Ct) (e : Expr) : Option (Sk × List E) := match bltCall c "range" e with
  | some rs => match rs with
    | [a] => (f a).map fun a' => (.rng, [a'])
    | [a, b] => (f a).bind fun a' => (f b).map fun b' => (.rng, [a', b'])
    | [a, b, d] => (f a).bind fun a' => (f b).bind fun b' => (f d).map fun d' => (.rng, [a', b', d'])
    | _ => none
  | none => match bltCall c "reversed" e with
    | some rs => match rs with
      | [a] => (f a).map fun a' => (.rev, [a'])
      | _ => none
    | none => (f e).map fun e' => (.val, [e'])
/-- a name that is stored -/
def cSt (c : Ct) (x : Str) : Option Nat := match c.sc.names.lookup x with
  | some .local => slotOf c.N x
  | some .cell => match c.fnb x with
    | true => slotOf c.N x
    | false => none
  | _ => none
def cTg : Nat → Ct → Expr → Option Tg
  | 0, _, _ => none
  | n + 1, c, e => match e with
    | .Name x _ => (cSt c x).map .nm
    | .Tuple es _ _ => (optAll (cTg n c) es).map .tp
    | _ => none
def ownOf (N : List Str) (scope : Scope) : List (Str × Nat) := scope.names.filterMap fun y => match y.2 with
  | .local => (slotOf N y.1).map fun i => (y.1, i)
  | .cell => (slotOf N y.1).map fun i => (y.1, i)
  | _ => none
def cIfs (f : Expr → Option E) : List Expr → Option (List E)
  | [] => some []
  | e :: es => match es with
    | [] => match isIf e with
      | true => none
      | false => (f e).map fun e' => [e']
    | _ :: _ => none
def cE : Nat → Ct → Expr → Option E
  | 0, _, _ => none
  | n + 1, c, e => match e with
    | .Constant k _ _ => cK k
    | .Name x _ => cNm c x
    | .BinOp a op b pos => (cE n c a).bind fun a' => (cE n c b).bind fun b' => (cB op).map fun o => .bin o (c.isMu pos) a' b'
    | .UnaryOp op a _ => match isIf a with
      | true => none
      | false => (cE n c a).bind fun a' => match op with
        | .USub => some (.neg a')
        | .Not => some (.not a')
        | _ => none
    | .BoolOp op es _ => match es.any isIf with
      | true => none
      | false => cBl (cE n c) op es
    | .Compare a ops bs _ => match ops, bs with
      | [o], [b] => match behindInMarks o b with
        | true => none
        | false => (cE n c a).bind fun a' => (cE n c b).bind fun b' => (cC o).map fun o' => .cmp o' a' b'
      | [o, p], [b, d] => match lastMarks [o, p] [b, d] with
        | true => none
        | false => (cE n c a).bind fun a' => (cE n c b).bind fun b' => (cE n c d).bind fun d' => (cC o).bind fun o' => (cC p).map fun p' => .chn o' p' a' b' d'
      | _, _ => none
    | .IfExp t a b _ => match isIf t with
      | true => none
      | false => (cE n c t).bind fun t' => (cE n c a).bind fun a' => (cE n c b).map fun b' => .ite t' a' b'
    | .Tuple es _ _ => (optAll (cE n c) es).map .tup
    | .List es pos => (optAll (cE n c) es).map (.lst (c.isMu pos))
    | .Subscript a i pos => match i with
      | .Slice lo hi st _ => match st with
        | some _ => none
        | none => (cE n c a).bind fun a' => match lo, hi with
          | none, none => some (.slc (c.isMu pos) a' none none)
          | some l, none => (cE n c l).map fun l' => .slc (c.isMu pos) a' (some l') none
          | none, some u => (cE n c u).map fun u' => .slc (c.isMu pos) a' none (some u')
          | some l, some u => (cE n c l).bind fun l' => (cE n c u).map fun u' => .slc (c.isMu pos) a' (some l') (some u')
      | i => (cE n c a).bind fun a' => (cE n c i).map fun i' => .sub a' i'
    | .Call f es kws pos => match kws with
      | [] => match f with
        | .Name x _ => cCall (cE n c) c x es pos
        | .Attribute o nm ap => match isCallE o || !(ap.endLine == pos.line) with
          | true => none
          | false => (cE n c o).bind fun o' => (optAll (cE n c) es).bind fun es' => (meOf nm es.length).map fun k => .me o' k es'
        | _ => none
      | _ => none
    | .ListComp e gs scope pos => match blkC c.N c.sc scope (ownOf c.N scope) with
      | false => none
      | true => match gs with
        | [⟨tg, it, ifs, as⟩] => match as == 0 with
          | false => none
          | true => (cI (cE n c) c it).bind fun w => (cTg n (c.inn scope) tg).bind fun tg' => (cIfs (cE n (c.inn scope)) ifs).bind fun cs => (cE n (c.inn scope) e).bind fun e' =>
            match (slots tg').all fun j => ((ownOf c.N scope).map (·.2)).contains j with
            | true => some (.lc (c.isMu pos) ((ownOf c.N scope).map (·.2)) tg' w.1 w.2 cs e')
            | false => none
        | _ => none
    | _ => none

/-! ### statements -/
def swN (sc : Scope) (ts vs : List Expr) : Option (Option (List Str)) :=
  if !(ts.length == 2 || ts.length == 3) || vs.length != ts.length then some none
  else if vs.any fun e => match e with
    | .Starred .. => true
    | _ => false then some none
  else
    let line := (ts.head?.map (·.pos.line)).getD 0
    let names := ts.filterMap fun e => match e with
      | .Name id pos => if sc.names.lookup id == some .local && pos.line == line then some id else none
      | _ => none
    if names.length != ts.length || names.eraseDups.length != names.length then some none
    else if vs.all (foldedForSure 8) then some none
    else if vs.all (constantsAlone 8) then none
    else some (some names)
def cAt : Nat → Ct → Expr → Option At
  | 0, _, _ => none
  | n + 1, c, e => match e with
    | .Name x _ => (cSt c x).map .nm
    | .Tuple es _ _ => (optAll (cAt n c) es).map .tp
    | .Subscript o i _ => match isSl i with
      | true => none
      | false => (cE n c o).bind fun o' => (cE n c i).map fun i' => .sb o' i'
    | _ => none
/-- does name = [..] store within the comprehension's frame -/
def swLc (c : Ct) (y : Str) (py : Pos) (scope : Scope) (pos : Pos) : Bool :=
  c.sc.names.lookup y == some .local && py.line == pos.line && !(scope.names.any fun x => x.1 == y && (x.2 == .local || x.2 == .cell))
def nmsOf : List Expr → Option (List Str)
  | [] => some []
  | e :: es => match e with
    | .Name x _ => (nmsOf es).map (x :: ·)
    | _ => none
def distinct : List Nat → Bool
  | [] => true
  | x :: xs => !xs.contains x && distinct xs
def cS : Nat → Ct → Stmt → Option S
  | 0, _, _ => none
  | n + 1, c, st => match st with
    | .Expr e _ => match e with
      | .Constant (.str _) _ _ => some .pass
      | e => match isComp e with
        | true => none
        | false => (cE n c e).map .ex
    | .Return e _ => match e with
      | none => some (.ret (.c .non))
      | some e => (cE n c e).map .ret
    | .If t a b _ => match isIf t with
      | true => none
      | false => (cE n c t).bind fun t' => (optAll (cS n c) a).bind fun a' => (optAll (cS n c) b).map fun b' => .ite t' a' b'
    | .While t b o _ => match isIf t || !o.isEmpty with
      | true => none
      | false => (cE n c t).bind fun t' => (optAll (cS n c) b).map fun b' => .whl t' b'
    | .For tg it b o _ => match o.isEmpty with
      | false => none
      | true => (cI (cE n c) c it).bind fun w => (cTg n c tg).bind fun tg' => (optAll (cS n c) b).map fun b' => .for_ tg' w.1 w.2 b'
    | .Assign ts e _ => match ts with
      | [t] => match t with
        | .Tuple ts' _ _ => match e with
          | .Tuple vs _ _ => match swN c.sc ts' vs with
            | none => none
            | some none => (cE n c e).bind fun e' => (cAt n c t).map fun t' => .asg t' e'
            | some (some xs) => match optAll (cSt c) xs, decide (nmsOf ts' = some xs), xs.all fun x => c.sc.names.lookup x == some .local with
              | some is, true, true => match distinct is with
                | true => (cE n c e).map fun e' => .asg (.tp (is.map .nm)) e'
                | false => none
              | _, _, _ => none
          | e => match isComp e with
            | true => none
            | false => (cE n c e).bind fun e' => (cAt n c t).map fun t' => .asg t' e'
        | t => (cE n c e).bind fun e' => (cAt n c t).map fun t' => .asg t' e'
      | _ => none
    | .AugAssign t op e _ => match op == .Add || op == .Sub with
      | false => none
      | true => match t with
        | .Name x _ => (cE n c e).bind fun e' => (cSt c x).bind fun i => (cB op).map fun o => .aug i o e'
        | .Subscript o i _ => match isSl i with
          | true => none
          | false => (cE n c o).bind fun o' => (cE n c i).bind fun i' => (cE n c e).bind fun e' => (cB op).map fun q => .augS o' i' q e'
        | _ => none
    | .Raise .. => some .never
    | .Pass _ => some .pass
    | .Break _ => some .brk
    | .Continue _ => some .cnt
    | _ => none
def cD (c : Ct) (b : List Stmt) : Option (List S) := optAll (cS 60 c) b
end Eng
/-! The compiled text does what the text does. -/
namespace Eng
open PySem L2

structure Sm (X X' : Cx) : Prop where
  prog : X'.prog = X.prog
  w : X'.w = X.w
  K : X'.K = X.K
  mg : X'.mg = X.mg
  base : X'.base = X.base
  A : X'.A = X.A
def rF (F : PySem.W.Frag) (cf : Nat → List Val → Hs → T (Val × Hs)) (i : Nat) : List V → Hp → VK → Prop := fun xs H Q => ∃ K al h vs, K.K = F ∧ RH K al h H ∧ RVs K al H vs xs ∧ (cf i vs h).All (Pt K al h H Q)
structure Gd (cf : Nat → List Val → Hs → T (Val × Hs)) (k : Nat) (c : Ct) (X : Cx) : Prop where
  hc : X.calm = true
  nd : X.N.Nodup
  N : X.N = c.N
  sc : X.env.scope = c.sc
  kind : c.sc.kind = .function
  fnb : ∀ x, c.fnb x = true → X.fn x = true
  room : Room k X.A
  nox : ∀ e s, ¬ X.xe e s
  blt : ∀ x, c.gl.lookup x = some .blt → X.mg x = none
  con : ∀ x v, c.gl.lookup x = some (.con v) → ∃ u w, X.mg x = some u ∧ L2.RelV w u ∧ ∀ K al H, K.K = X.K → RV K al H v w
  fn : ∀ x i, c.gl.lookup x = some (.fn i) → ∃ f, X.mg x = some (.ref f) ∧ PySem.W.keepIn X.K (.ref f) = true ∧ ∀ X', Sm X X' → CallR X' (.ref f) (rF X.K cf i)
section
variable {cf : Nat → List Val → Hs → T (Val × Hs)} {k : Nat} {c : Ct} {X : Cx}
theorem Gd.passes (g : Gd cf k c X) : PassesOwn (model X.prog X.w) X.A X.env X.xe := fun e s' h => absurd h (g.nox e s')
theorem Gd.blk (g : Gd cf k c X) {own : List (Str × Nat)} {scope : Scope} (b : blkC c.N c.sc scope own = true) (s : Shared) (H : Hp) (C : Addr) (cl : List (Str × Addr)) (fp : List Addr) : Gd cf k (c.inn scope) (X.blk s H scope (compEnvC scope cl C X.env) fp) := by
  refine ⟨g.hc, g.nd, g.N, ?_, ?_, fun x h => h, g.room, fun e s h => h, g.blt, g.con, fun x i e => ?_⟩
  · show relS scope X.env.scope = relS scope c.sc
    rw [g.sc]
  · exact (blkOk_by b).kind
  · obtain ⟨f, h1, h2, h3⟩ := g.fn x i e
    exact ⟨f, h1, h2, fun X' sm => h3 X' ⟨sm.prog, sm.w, sm.K, sm.mg, sm.base, sm.A⟩⟩
theorem okN_of {x : Str} (h : okN x = true) : (x == ("__debug__" : Str)) = false ∧ (x == ("__classdict__" : Str)) = false ∧ x ≠ ("__name__" : Str) := by
  unfold okN at h
  rw [Bool.and_eq_true, Bool.and_eq_true, decide_eq_true_eq, Bool.not_eq_true', Bool.not_eq_true'] at h
  exact ⟨h.1.1, h.1.2, h.2⟩
theorem slotOf_of {N : List Str} {x : Str} {i : Nat} (h : slotOf N x = some i) : N[i]? = some x := by
  unfold slotOf at h
  split at h
  · rename_i q
    cases h
    exact q
  · cases h
theorem visB_of {sc : Scope} {x : Str} (h : visB sc x = true) : Vis sc x := by
  unfold visB at h
  unfold Vis
  split at h
  · rename_i q; exact .inl q
  · rename_i q; exact .inr (.inl q)
  · rename_i q; exact .inr (.inr q)
  · cases h
theorem gloB_of {x : Str} (g : Gd cf k c X) (h : gloB c.sc x = true) : Gl X x := by
  unfold gloB at h
  show X.env.scope.names.lookup x = some .globalImplicit
  rw [g.sc]
  split at h
  · assumption
  · cases h
theorem isBlt_of {x : Str} (g : Gd cf k c X) (h : c.isBlt x = true) : Gl X x ∧ X.mg x = none ∧ (x == ("__debug__" : Str)) = false ∧ x ≠ ("__name__" : Str) := by
  unfold Ct.isBlt at h
  rw [Bool.and_eq_true, Bool.and_eq_true] at h
  obtain ⟨⟨h1, h2⟩, h3⟩ := h
  obtain ⟨z1, z2, z3⟩ := okN_of h1
  refine ⟨gloB_of g h2, ?_, z1, z3⟩
  split at h3
  · rename_i q
    exact g.blt x q
  · cases h3
/-! ### syntax -/
theorem st_cons {n : Nat} {e : Expr} {x : E} {es : List Expr} {env : PySem.Env} (h : cE n c e = some x) : starEach (e :: es) env = (false, eval e env) :: starEach es env := by
  cases n with
  | zero => simp [cE] at h
  | succ n => cases e <;> first | rfl | (simp [cE] at h)
theorem st_any {n : Nat} {pos : Pos} {env : PySem.Env} : ∀ {es : List Expr} {xs : List E}, optAll (cE n c) es = some xs → (backTo pos (starEach es env)).any (·.1) = false
  | [], xs, h => rfl
  | e :: es, xs, h => by
    unfold optAll at h
    cases q : cE n c e with
    | none => rw [q] at h; cases h
    | some y =>
      rw [q] at h
      simp only at h
      cases q2 : optAll (cE n c) es with
      | none => rw [q2] at h; cases h
      | some ys =>
        rw [st_cons q]
        have ih := st_any (pos := pos) (env := env) q2
        unfold backTo at ih ⊢
        rw [List.map_cons, List.any_cons, ih]
        rfl
theorem noset {n : Nat} {e : Expr} {x : E} (h : cE n c e = some x) (env : PySem.Env) (v : Value) : foldedSetIterable e env v = pure v := by
  cases n with
  | zero => simp [cE] at h
  | succ n => cases e <;> first | rfl | (simp [cE] at h)
theorem nosl {n : Nat} {e : Expr} {x : E} (h : cE n c e = some x) : PlainIx e := by
  cases n with
  | zero => simp [cE] at h
  | succ n => intro o i; cases e <;> first | rfl | (simp [cE] at h)
theorem nosl_is {n : Nat} {e : Expr} {x : E} (h : cE n c e = some x) : isSl e = false := by
  cases n with
  | zero => simp [cE] at h
  | succ n => cases e <;> first | rfl | (simp [cE] at h)
theorem plain_true {n : Nat} {e : Expr} {x : E} (h : cE n c e = some x) (h2 : isIf e = false) (h3 : ∀ op es p, e ≠ .BoolOp op es p) (h4 : ∀ a os bs p, e ≠ .Compare a os bs p) (h5 : ∀ a p, e ≠ .UnaryOp .Not a p) (env : PySem.Env) (whole : Sem Value) :
    PySem.isTrue e env whole = (do let v ← whole; standAt e.pos; holding [v] (truthy v)) := by
  cases e <;> first
    | rfl
    | (simp [isIf] at h2; done)
    | (exact absurd rfl (h3 _ _ _))
    | (exact absurd rfl (h4 _ _ _ _))
    | skip
  rename_i op a p
  cases op <;> first | rfl | exact absurd rfl (h5 _ _)
/-! ### calls of the text's defs -/
theorem pe_callF {x : Str} {p pos : Pos} {e : Expr} {es : List Expr} {f : Addr} {t : TA} {r : List V → Hp → VK → Prop} (F : CallR X (.ref f) r) (hg : Gl X x) (hm : X.mg x = some (.ref f)) (hk : PySem.W.keepIn X.K (.ref f) = true) (hd : (x == ("__debug__" : Str)) = false) (ha : PA X (e :: es) t)
    (h1 : starEach (e :: es) X.env = (false, eval e X.env) :: starEach es X.env) (h2 : (backTo pos (starEach es X.env)).any (·.1) = false) : PE X (.Call (.Name x p) (e :: es) [] pos) (tCB r t) := by
  constructor
  intro pins s σ H Q I hw
  apply wpAny_Call_Name_kw
  apply ld_glob I hg hm _ hd
  refine PySem.W.callWith_K (h₀ := X.base) I.ok.mod.kin hk (thn (ha.run pos pins s σ H _ I hw) ?_) h1 h2
  rintro us s1 ⟨vs, H1, I1, rv, q⟩
  exact ⟨I1.kIn, F pins s1 σ H1 vs us Q I1 rv q⟩
theorem pe_callF0 {x : Str} {p pos : Pos} {f : Addr} {r : List V → Hp → VK → Prop} (F : CallR X (.ref f) r) (hg : Gl X x) (hm : X.mg x = some (.ref f)) (hk : PySem.W.keepIn X.K (.ref f) = true) (hd : (x == ("__debug__" : Str)) = false) : PE X (.Call (.Name x p) [] [] pos) (tCB r tNil) := by
  constructor
  intro pins s σ H Q I hw
  apply wpAny_Call_Name_kw
  apply ld_glob I hg hm _ hd
  exact PySem.W.callWith_K0 I.kIn hk (F pins s σ H [] [] Q I .nil hw)
theorem biOf_of {x : Str} {m : Nat} {b : Bi} (h : biOf x m = some b) : bootBuiltins x = some (pyBi b) ∧ m ≠ 0 := by
  unfold biOf at h
  rw [Option.map_eq_some_iff] at h
  obtain ⟨p, h1, h2⟩ := h
  have q := List.find?_some h1
  rw [Bool.and_eq_true, decide_eq_true_eq, beq_iff_eq] at q
  have all : (biTab.all fun p => decide (bootBuiltins p.1 = some (pyBi p.2.2)) && p.2.1 != 0) = true := by decide +kernel
  have z := List.all_eq_true.mp all p (List.mem_of_find?_eq_some h1)
  rw [Bool.and_eq_true, decide_eq_true_eq, bne_iff_ne] at z
  rw [← h2, ← q.1, ← q.2]
  exact z
theorem tyOfN_of {x : Str} {t : Ty} (h : tyOfN x = some t) : bootBuiltins x = some (.type (pyT t)) := by
  unfold tyOfN at h
  rw [Option.map_eq_some_iff] at h
  obtain ⟨p, h1, h2⟩ := h
  have q := List.find?_some h1
  rw [decide_eq_true_eq] at q
  have all : (tyTab.all fun p => decide (bootBuiltins p.1 = some (.type (pyT p.2)))) = true := by decide +kernel
  have z := List.all_eq_true.mp all p (List.mem_of_find?_eq_some h1)
  rw [decide_eq_true_eq] at z
  rw [← h2, ← q]
  exact z
theorem boot_isi : bootBuiltins "isinstance" = some (.builtin "isinstance") := by decide +kernel
theorem meOf_of {x : Str} {m : Nat} {b : Me} (h : meOf x m = some b) : (x, m, b) ∈ meTab := by
  unfold meOf at h
  rw [Option.map_eq_some_iff] at h
  obtain ⟨p, h1, h2⟩ := h
  have q := List.find?_some h1
  rw [Bool.and_eq_true, decide_eq_true_eq, beq_iff_eq] at q
  have z := List.mem_of_find?_eq_some h1
  obtain ⟨p1, p2, p3⟩ := p
  simp only at q h2
  rw [← h2, ← q.1, ← q.2]
  exact z
end
end Eng
/-! Expressions. -/
namespace Eng
open PySem L2
section
variable {cf : Nat → List Val → Hs → T (Val × Hs)} {k : Nat}
def IH (cf : Nat → List Val → Hs → T (Val × Hs)) (k n : Nat) : Prop := ∀ (c : Ct) (e : Expr) (x : E) (X : Cx), cE n c e = some x → Gd cf k c X → PE X e (tE X.K (ev cf x)) ∧ (isIf e = false → PT X e (tT X.K (tst cf x)))
theorem opt_cons {A B : Type} {f : A → Option B} {x : A} {xs : List A} {ys : List B} (h : optAll f (x :: xs) = some ys) : ∃ y r, ys = y :: r ∧ f x = some y ∧ optAll f xs = some r := by
  unfold optAll at h
  cases q : f x with
  | none => rw [q] at h; cases h
  | some y =>
    rw [q] at h
    simp only at h
    cases q2 : optAll f xs with
    | none => rw [q2] at h; cases h
    | some r =>
      rw [q2] at h
      simp only at h
      cases h
      exact ⟨y, r, rfl, rfl, rfl⟩
theorem pa_ok {n : Nat} (ih : IH cf k n) {c : Ct} {X : Cx} (g : Gd cf k c X) : ∀ {es : List Expr} {xs : List E}, optAll (cE n c) es = some xs → PA X es (tA X.K (evs cf xs))
  | [], xs, h => by
    cases h
    exact PA.imp pa_nil fun σ H Q ⟨K, al, s, h, eK, rh, re, p⟩ => p al H [] Ext.refl rh .nil
  | e :: es, xs, h => by
    obtain ⟨y, r, e1, e2, e3⟩ := opt_cons h
    subst e1
    exact PA.imp (pa_cons (ih c e y X e2 g).1 (pa_ok ih g e3) (st_cons e2)) fun σ H Q w => imp_cons w
/-! ### tests -/
theorem imp_tand {F : PySem.W.Frag} {σ : St} {H : Hp} {a b : E} {Q : Bool → Hp → Prop} (w : tT F (tst cf (.and a b)) σ H Q) : tAnd (tT F (tst cf a)) (tT F (tst cf b)) σ H Q := by
  obtain ⟨K, al, s, h, rfl, rh, re, p⟩ := w
  unfold tst at p
  simp only [ev] at p
  rw [T.all_bind, T.all_bind] at p
  refine tT.seq rh re ?_
  unfold tst
  rw [T.all_bind]
  refine T.all_mono (fun q z => ?_) p
  obtain ⟨v, h1⟩ := q
  simp only at z ⊢
  split at z
  · intro al1 H1 e1 rh1 re1
    refine iteT ⟨K, al1, s, h1, rfl, rh1, re1, ?_⟩
    refine T.all_bind.mpr (T.all_mono (fun q2 z2 => ?_) z)
    split at z2
    · exact z2.trans e1
    · exact z2.elim
  · intro al1 H1 e1 rh1 re1
    exact iteF (z al1 H1 e1 rh1)
  · exact z.elim
theorem imp_tor {F : PySem.W.Frag} {σ : St} {H : Hp} {a b : E} {Q : Bool → Hp → Prop} (w : tT F (tst cf (.or a b)) σ H Q) : tOr (tT F (tst cf a)) (tT F (tst cf b)) σ H Q := by
  obtain ⟨K, al, s, h, rfl, rh, re, p⟩ := w
  unfold tst at p
  simp only [ev] at p
  rw [T.all_bind, T.all_bind] at p
  refine tT.seq rh re ?_
  unfold tst
  rw [T.all_bind]
  refine T.all_mono (fun q z => ?_) p
  obtain ⟨v, h1⟩ := q
  simp only at z ⊢
  split at z
  · intro al1 H1 e1 rh1 re1
    exact iteT (z al1 H1 e1 rh1)
  · intro al1 H1 e1 rh1 re1
    refine iteF ⟨K, al1, s, h1, rfl, rh1, re1, ?_⟩
    refine T.all_bind.mpr (T.all_mono (fun q2 z2 => ?_) z)
    split at z2
    · exact z2.trans e1
    · exact z2.elim
  · exact z.elim
theorem imp_tnot {F : PySem.W.Frag} {σ : St} {H : Hp} {a : E} {Q : Bool → Hp → Prop} (w : tT F (tst cf (.not a)) σ H Q) : tNot (tT F (tst cf a)) σ H Q := by
  obtain ⟨K, al, s, h, rfl, rh, re, p⟩ := w
  unfold tst at p
  simp only [ev] at p
  rw [T.all_bind, T.all_bind] at p
  refine tT.seq rh re ?_
  unfold tst
  rw [T.all_bind]
  refine T.all_mono (fun q z => ?_) p
  obtain ⟨v, h1⟩ := q
  simp only at z ⊢
  split at z
  · intro al1 H1 e1 rh1 re1
    exact z al1 H1 e1 rh1
  · exact z.elim
/-- every end that there is -/
def T.Sat {A : Type} (P : A → Prop) : T A → Prop
  | .ok a => P a
  | .no => True
  | .dr n k => ∀ i, (k i).Sat P
theorem T.sat_bind {A B : Type} {P : B → Prop} {f : A → T B} (h : ∀ a, (f a).Sat P) : ∀ {t : T A}, (t.bind f).Sat P
  | .ok a => h a
  | .no => trivial
  | .dr n k => fun i => T.sat_bind h
theorem T.all_sat {A : Type} {P R Q : A → Prop} (f : ∀ a, P a → R a → Q a) : ∀ {t : T A}, t.All P → t.Sat R → t.All Q
  | .ok a, p, r => f a p r
  | .no, p, r => p
  | .dr n k, p, r => fun i hi => T.all_sat f (p i hi) (r i)
theorem imp_tbl {F : PySem.W.Frag} {σ : St} {H : Hp} {a : E} {Q : Bool → Hp → Prop} (sat : ∀ s h, (ev cf a s h).Sat fun r => ∃ b, r.1 = .bl b) (w : tT F (tst cf a) σ H Q) : tE F (ev cf a) σ H fun x H' => ∃ b, x = .bl b ∧ Q b H' := by
  obtain ⟨K, al, s, h, rfl, rh, re, p⟩ := w
  unfold tst at p
  rw [T.all_bind] at p
  refine ⟨K, al, s, h, rfl, rh, re, T.all_sat (fun r z ⟨b, eb⟩ => ?_) p (sat s h)⟩
  intro al' H' u e rh' rv
  rw [eb] at z rv
  exact ⟨b, rv.bl_of, z al' H' e rh'⟩
theorem cmp_sat {op : Cop} {a b : E} (s : Env) (h : Hs) : (ev cf (.cmp op a b) s h).Sat fun r => ∃ k, r.1 = .bl k := by
  simp only [ev]
  refine T.sat_bind fun p => T.sat_bind fun q => ?_
  split
  · exact ⟨_, rfl⟩
  · trivial
theorem chn_sat {op op' : Cop} {a b d : E} (s : Env) (h : Hs) : (ev cf (.chn op op' a b d) s h).Sat fun r => ∃ k, r.1 = .bl k := by
  simp only [ev]
  refine T.sat_bind fun p => T.sat_bind fun q => ?_
  split
  · refine T.sat_bind fun r => ?_
    split
    · exact ⟨_, rfl⟩
    · trivial
  · exact ⟨_, rfl⟩
  · trivial
theorem imp_chn {F : PySem.W.Frag} {σ : St} {H : Hp} {o1 o2 : Cop} {a b d : E} {Q : V → Hp → Prop} (w : tE F (ev cf (.chn o1 o2 a b d)) σ H Q) : tChain (rC F (copV o1)) (rC F (copV o2)) (tE F (ev cf a)) (tE F (ev cf b)) (tE F (ev cf d)) σ H Q := by
  obtain ⟨K, al, s, h, rfl, rh, re, p⟩ := w
  simp only [ev] at p
  refine tE.seq rh re (T.all_mono (fun q z al1 H1 x e1 rh1 re1 rx => ?_) (T.all_bind.mp p))
  refine tE.seq rh1 re1 (T.all_mono (fun q2 z2 al2 H2 y e2 rh2 re2 ry => ?_) (T.all_bind.mp z))
  split at z2
  · rename_i ek
    refine ⟨K, al2, q2.2, q.1, q2.1, true, rfl, rh2, rx.mono e2.toKp, ry, ek, true, rfl, iteT ?_⟩
    refine tE.seq rh2 re2 (T.all_mono (fun q3 z3 al3 H3 y3 e3 rh3 re3 ry3 => ?_) (T.all_bind.mp z2))
    split at z3
    · rename_i k2 ek2
      exact ⟨K, al3, q3.2, q2.1, q3.1, k2, rfl, rh3, ry.mono e3.toKp, ry3, ek2, Pt.here (z3.trans (e1.trans (e2.trans e3))) rh3 (.bl _)⟩
    · exact z3.elim
  · rename_i ek
    exact ⟨K, al2, q2.2, q.1, q2.1, false, rfl, rh2, rx.mono e2.toKp, ry, ek, false, rfl, iteF (Pt.here (z2.trans (e1.trans e2)) rh2 (.bl _))⟩
  · exact z2.elim
theorem bool_ok {n : Nat} (ih : IH cf k n) {c : Ct} {X : Cx} (g : Gd cf k c X) {op : BoolOp} {pos : Pos} : ∀ {es : List Expr} {x : E}, cBl (cE n c) op es = some x → PE X (.BoolOp op es pos) (tE X.K (ev cf x)) ∧ ((∀ e ∈ es, isIf e = false) → PW X (.BoolOp op es pos) (tT X.K (tst cf x)))
  | [], x, h => by simp [cBl] at h
  | [e], x, h => by
    simp only [cBl] at h
    obtain ⟨h1, h2⟩ := ih c e x X h g
    refine ⟨pe_one h1, fun hi => ?_⟩
    have h3 := h2 (hi e (List.mem_singleton.mpr rfl))
    cases op with
    | And => exact pw_and1 h3
    | Or => exact pw_or1 h3
  | e :: e2 :: es, x, h => by
    unfold cBl at h
    simp only [Option.bind_eq_some_iff, Option.map_eq_some_iff] at h
    obtain ⟨a, ha, b, hb, hx⟩ := h
    obtain ⟨h1, h2⟩ := ih c e a X ha g
    obtain ⟨h3, h4⟩ := bool_ok ih g (pos := pos) hb
    subst hx
    cases op with
    | And =>
      refine ⟨PE.imp (pe_and h1 h3) fun σ H Q w => imp_and w, fun hi => ?_⟩
      exact PW.imp (pw_and (h2 (hi e List.mem_cons_self)) (h4 fun e' m => hi e' (List.mem_cons_of_mem _ m))) fun σ H Q w => imp_tand w
    | Or =>
      refine ⟨PE.imp (pe_or h1 h3) fun σ H Q w => imp_or w, fun hi => ?_⟩
      exact PW.imp (pw_or (h2 (hi e List.mem_cons_self)) (h4 fun e' m => hi e' (List.mem_cons_of_mem _ m))) fun σ H Q w => imp_tor w
end
end Eng
/-! Targets, what is walked, comprehensions, calls: expressions as a whole. -/
namespace Eng
open PySem L2
section
variable {cf : Nat → List Val → Hs → T (Val × Hs)} {k : Nat}
def tGs (F : PySem.W.Frag) (ts : List Tg) : TGs := fun vs σ H Q => ∃ K al s h xs s', K.K = F ∧ RH K al h H ∧ RE K al H s σ ∧ RVs K al H xs vs ∧ tgsS ts xs s = some s' ∧
  ∀ σ', RE K al H s' σ' → σ'.length = σ.length → (∀ j : Nat, j ∉ slotsL ts → σ'[j]? = σ[j]?) → Q σ' H
theorem cSt_of {c : Ct} {X : Cx} {x : Str} {i : Nat} (g : Gd cf k c X) (h : cSt c x = some i) : X.N[i]? = some x ∧ L2.Loc X.env.scope x ∧ (X.fn x = true ∨ X.env.scope.names.lookup x = some .local) := by
  unfold cSt at h
  rw [g.sc, g.N]
  split at h
  · rename_i q
    exact ⟨slotOf_of h, .inl q, .inr q⟩
  · rename_i q
    split at h
    · rename_i q2
      exact ⟨slotOf_of h, .inr q, .inl (g.fnb x q2)⟩
    · cases h
  · cases h
theorem tg_cons {n : Nat} {c : Ct} {e : Expr} {t : Tg} {es : List Expr} {env : PySem.Env} (h : cTg n c e = some t) : assignEach (e :: es) env = (false, assign e env) :: assignEach es env := by
  cases n with
  | zero => simp [cTg] at h
  | succ n => cases e <;> first | rfl | (simp [cTg] at h)
theorem tgs_len {n : Nat} {c : Ct} {env : PySem.Env} : ∀ {es : List Expr} {ts : List Tg}, optAll (cTg n c) es = some ts → (assignEach es env).length = ts.length ∧ (assignEach es env).findIdx? (·.1) = none
  | [], ts, h => by cases h; exact ⟨rfl, rfl⟩
  | e :: es, ts, h => by
    obtain ⟨y, r, e1, e2, e3⟩ := opt_cons h
    subst e1
    obtain ⟨h1, h2⟩ := tgs_len (env := env) e3
    rw [tg_cons e2]
    exact ⟨by simp [h1], by simp [List.findIdx?_cons, h2]⟩
theorem tgsS_len : ∀ {ts : List Tg} {xs : List Val} {s s' : Env}, tgsS ts xs s = some s' → xs.length = ts.length
  | [], [], s, s', h => rfl
  | [], x :: xs, s, s', h => by simp [tgsS] at h
  | t :: ts, [], s, s', h => by simp [tgsS] at h
  | t :: ts, x :: xs, s, s', h => by
    unfold tgsS at h
    split at h
    · simp [tgsS_len h]
    · cases h
theorem tg_ok (c : Ct) (X : Cx) (g : Gd cf k c X) : ∀ (n : Nat) (e : Expr) (t : Tg), cTg n c e = some t → PG X e (tG X.K t)
  | 0, e, t, h => by simp [cTg] at h
  | n + 1, e, t, h => by
    cases e with
    | Name x pos =>
      simp only [cTg, Option.map_eq_some_iff] at h
      obtain ⟨i, hi, et⟩ := h
      subst et
      obtain ⟨h1, h2, h3⟩ := cSt_of g hi
      refine PG.imp (pg_name g.nd h1 h2 h3) fun v σ H Q w => ?_
      obtain ⟨K, al, s, h, x', s', eK, rh, re, rx, et, q⟩ := w
      simp only [tgS, Option.some.injEq] at et
      subst et
      exact q _ (re.set rx) (by simp) fun j hj => by
        rw [List.getElem?_set_ne]
        intro z
        exact hj (by rw [← z]; simp [slots])
    | Tuple es kk pos =>
      simp only [cTg, Option.map_eq_some_iff] at h
      obtain ⟨ts, hts, et⟩ := h
      subst et
      have pgs : ∀ (es : List Expr) (ts : List Tg), optAll (cTg n c) es = some ts → PGs X es (tGs X.K ts) := by
        intro es
        induction es with
        | nil =>
          intro ts h
          cases h
          refine PGs.imp pgs_nil fun v σ H Q w => ?_
          obtain ⟨K, al, s, h, xs, s', eK, rh, re, rx, et, q⟩ := w
          cases xs with
          | nil =>
            simp only [tgsS, Option.some.injEq] at et
            subst et
            exact ⟨rx.none_of, q σ re rfl fun _ _ => rfl⟩
          | cons _ _ => simp [tgsS] at et
        | cons e es ihs =>
          intro ts h
          obtain ⟨y, r, e1, e2, e3⟩ := opt_cons h
          subst e1
          refine PGs.imp (pgs_cons (tg_ok c X g n e y e2) (ihs r e3) (by rw [tg_cons e2]; rfl)) fun v σ H Q w => ?_
          obtain ⟨K, al, s, h, xs, s', eK, rh, re, rx, et, q⟩ := w
          cases xs with
          | nil => simp [tgsS] at et
          | cons x xs =>
            unfold tgsS at et
            split at et
            · rename_i s1 hs1
              simp only [RVs] at rx
              obtain ⟨u, rest, ev', ru, rr⟩ := rx
              refine ⟨u, rest, ev', K, al, s, h, x, s1, eK, rh, re, ru, hs1, fun σ1 re1 hl1 ha1 => ?_⟩
              refine ⟨K, al, s1, h, xs, s', eK, rh, re1, rr, et, fun σ2 re2 hl2 ha2 => ?_⟩
              refine q σ2 re2 (hl2.trans hl1) fun j hj => ?_
              simp only [slotsL, List.mem_append, not_or] at hj
              exact (ha2 j hj.2).trans (ha1 j hj.1)
            · cases et
      obtain ⟨hl, hf⟩ := tgs_len (env := X.env) hts
      refine PG.imp (pg_tup g.hc (pgs es ts hts) hl hf) fun v σ H Q w => ?_
      obtain ⟨K, al, s, h, x, s', eK, rh, re, rx, et, q⟩ := w
      unfold tgS at et
      split at et
      · rename_i xs
        obtain ⟨a, us, ev', st, rs⟩ := rx.tup_of
        exact ⟨a, us, ev', eK ▸ st.sq, by rw [← rs.length]; exact tgsS_len et, K, al, s, h, xs, s', eK, rh, re, rs, et, fun σ' z1 z2 z3 => q σ' z1 z2 fun j hj => z3 j fun m => hj (by simpa [slots] using m)⟩
      · cases et
    | _ => simp [cTg] at h
/-! ### what is walked -/
theorem blt_call {c : Ct} {x : Str} {e : Expr} {rs : List Expr} (h : bltCall c x e = some rs) : ∃ p pos, e = .Call (.Name x p) rs [] pos ∧ c.isBlt x = true := by
  unfold bltCall at h
  split at h
  · split at h
    · split at h
      · rename_i q
        rw [Bool.and_eq_true, decide_eq_true_eq] at q
        obtain ⟨q1, q2⟩ := q
        subst q1
        cases h
        exact ⟨_, _, rfl, q2⟩
      · cases h
    · cases h
  · cases h
theorem cI_set {n : Nat} {c : Ct} {e : Expr} {w : Sk × List E} (h : cI (cE n c) c e = some w) (env : PySem.Env) (v : Value) : foldedSetIterable e env v = pure v := by
  unfold cI at h
  split at h
  · rename_i q
    obtain ⟨p, pos, ee, _⟩ := blt_call q
    subst ee
    rfl
  · split at h
    · rename_i q
      obtain ⟨p, pos, ee, _⟩ := blt_call q
      subst ee
      rfl
    · rw [Option.map_eq_some_iff] at h
      obtain ⟨e', h1, _⟩ := h
      exact noset h1 env v
theorem T.bind_assoc {A B C : Type} {f : A → T B} {g : B → T C} : ∀ {t : T A}, (t.bind f).bind g = t.bind fun a => (f a).bind g
  | .ok a => rfl
  | .no => rfl
  | .dr n k => by
    show T.dr n (fun i => ((k i).bind f).bind g) = T.dr n fun i => (k i).bind fun a => (f a).bind g
    congr 1
    funext i
    exact T.bind_assoc
theorem evs2 (a b : E) : evs cf [a, b] = fun s h => (ev cf a s h).bind fun p => (ev cf b s p.2).bind fun q => .ok ([p.1, q.1], q.2) := by
  funext s h
  simp only [evs, T.bind_assoc]
  rfl
theorem evs3 (a b d : E) : evs cf [a, b, d] = fun s h => (ev cf a s h).bind fun p => (ev cf b s p.2).bind fun q => (ev cf d s q.2).bind fun r => .ok ([p.1, q.1, r.1], r.2) := by
  funext s h
  simp only [evs, T.bind_assoc]
  rfl
theorem cI_ok {n : Nat} (ih : IH cf k n) {c : Ct} {X : Cx} (g : Gd cf k c X) {e tg : Expr} {w : Sk × List E} (h : cI (cE n c) c e = some w) : PI X tg e (tI X.K w.1 (evs cf w.2)) := by
  unfold cI at h
  split at h
  · rename_i rs q
    obtain ⟨p, pos, ee, hb⟩ := blt_call q
    obtain ⟨b1, b2, b3, b4⟩ := isBlt_of g hb
    subst ee
    split at h
    · rename_i a
      rw [Option.map_eq_some_iff] at h
      obtain ⟨a', ha, ew⟩ := h
      subst ew
      have hp : PA X [a] (tA X.K (evs cf [a'])) := pa_ok ih g (xs := [a']) (by simp [optAll, ha])
      exact PI.imp (pi_range1 b1 b2 hp (by rw [st_cons ha]; rfl)) fun σ H R w => imp_rng1 w
    · rename_i a b
      simp only [Option.bind_eq_some_iff, Option.map_eq_some_iff] at h
      obtain ⟨a', ha, b', hb', ew⟩ := h
      subst ew
      have hp : PA X [a, b] (tA X.K (evs cf [a', b'])) := pa_ok ih g (xs := [a', b']) (by simp [optAll, ha, hb'])
      rw [evs2] at hp ⊢
      exact PI.imp (pi_range2 b1 b2 hp (by rw [st_cons ha, st_cons hb']; rfl) (by rw [st_cons hb']; rfl)) fun σ H R w => imp_rng2 w
    · rename_i a b d
      simp only [Option.bind_eq_some_iff, Option.map_eq_some_iff] at h
      obtain ⟨a', ha, b', hb', d', hd', ew⟩ := h
      subst ew
      have hp : PA X [a, b, d] (tA X.K (evs cf [a', b', d'])) := pa_ok ih g (xs := [a', b', d']) (by simp [optAll, ha, hb', hd'])
      rw [evs3] at hp ⊢
      exact PI.imp (pi_range3 b1 b2 hp (by rw [st_cons ha]) (by rw [st_cons hb', st_cons hd']; rfl)) fun σ H R w => imp_rng3 w
    · cases h
  · split at h
    · rename_i rs q
      obtain ⟨p, pos, ee, hb⟩ := blt_call q
      obtain ⟨b1, b2, b3, b4⟩ := isBlt_of g hb
      subst ee
      match rs, h with
      | [a], h =>
        simp only [Option.map_eq_some_iff] at h
        obtain ⟨a', ha, ew⟩ := h
        subst ew
        exact PI.imp (RT.pi_revA b1 b2 (ih c a a' X ha g).1 (st_cons ha)) fun σ H R w => imp_rev w
      | [], h => cases h
      | _ :: _ :: _, h => cases h
    · rw [Option.map_eq_some_iff] at h
      obtain ⟨e', he, ew⟩ := h
      subst ew
      exact PI.imp (pi_seq (ih c e e' X he g).1) fun σ H R w => imp_val w
/-! ### comprehensions -/
theorem ifs_ok {n : Nat} (ih : IH cf k n) {c : Ct} {X : Cx} (g : Gd cf k c X) {es : List Expr} {cs : List E} (h : cIfs (cE n c) es = some cs) : PTs X es (tT X.K (evt cf cs)) := by
  match es, h with
  | [], h =>
    cases h
    exact PTs.imp pts_nil fun σ H Q ⟨K, al, s, h, eK, rh, re, p⟩ => p al H Ext.refl rh
  | [e], h =>
    unfold cIfs at h
    simp only at h
    cases q : isIf e with
    | true => rw [q] at h; cases h
    | false =>
      rw [q] at h
      simp only [Option.map_eq_some_iff] at h
      obtain ⟨e', he, ew⟩ := h
      subst ew
      exact PTs.imp (pts_one ((ih c e e' X he g).2 q)) fun σ H Q w => w
  | _ :: _ :: _, h => simp [cIfs] at h
theorem isVar_of {es : List E} (h : isVar es = true) : ∃ i, es = [.v i] := by
  unfold isVar at h
  split at h
  · exact ⟨_, rfl⟩
  · cases h
theorem src_lk {sk : Sk} {vs : List Val} {h : Hs} {xs : List Val} {l : Nat} (e : srcV sk vs h = some (xs, some l)) : ∃ ys, vs = [.ref l] ∧ h.get l = some (.lst ys) ∧ ∀ h' : Hs, h'.get l = some (.lst ys) → srcV sk [.ref l] h' = some (xs, some l) := by
  unfold srcV at e
  split at e
  · split at e
    · cases e
    · cases e
    · split at e
      · rename_i ys q
        cases e
        exact ⟨_, rfl, q, fun h' z => by simp only [srcV, z]⟩
      · cases e
    · cases e
  · split at e
    · cases e
    · cases e
    · split at e
      · rename_i ys q
        cases e
        exact ⟨_, rfl, q, fun h' z => by simp only [srcV, z]⟩
      · cases e
    · cases e
  · split at e <;> cases e
  · split at e <;> cases e
  · split at e <;> cases e
  · cases e
theorem evs_v {i : Nat} {s : Env} {h : Hs} {P : List Val × Hs → Prop} (p : (evs cf [.v i] s h).All P) : ∃ v, s[i]? = some (some v) ∧ P ([v], h) ∧ ∀ h, evs cf [.v i] s h = .ok ([v], h) := by
  simp only [evs, ev] at p
  split at p
  · rename_i v q
    exact ⟨v, q, p, fun h => by simp only [evs, ev, q]; rfl⟩
  · exact p.elim
/-- a comprehension with one for -/
theorem imp_lcA {F : PySem.W.Frag} {σ : St} {H : Hp} {m : Bool} {own : List Nat} {tg : Tg} {sk : Sk} {es cs : List E} {e : E} {Q : V → Hp → Prop} (hs : ∀ j ∈ slots tg, j ∈ own) (w : tE F (ev cf (.lc m own tg sk es cs e)) σ H Q) :
    (tLc (tI F sk (evs cf es)) (tG F tg) (tT F (evt cf cs)) (tE F (ev cf e)) own σ H Q) ∨ tLockE (tLc (tI F sk (evs cf es)) (tG F tg) (tT F (evt cf cs)) (tE F (ev cf e)) own) σ H Q := by
  obtain ⟨K, al, s, h, rfl, rh, re, p⟩ := w
  simp only [ev] at p
  cases hv : isVar es with
  | true =>
    obtain ⟨i, ei⟩ := isVar_of hv
    subst ei
    rw [T.all_bind] at p
    obtain ⟨v, hsl, p, hev⟩ := evs_v p
    simp only at p
    split at p
    · rename_i xs q
      split at p
      · rename_i sm
        left
        refine imp_lc (m := m) hs ⟨K, al, s, h, rfl, rh, re, ?_⟩
        rw [hev]
        exact ⟨xs, none, q, fun _ z => (by cases z), sm, p⟩
      · exact p.elim
    · rename_i xs l q
      split at p
      · rename_i sm
        rw [Bool.and_eq_true] at sm
        obtain ⟨ys, e1, e2, e3⟩ := src_lk q
        simp only [List.cons.injEq, and_true] at e1
        subst e1
        exact imp_lcL hs rfl rh re hev hsl e2 e3 sm.2 p
      · exact p.elim
    · exact p.elim
  | false =>
    left
    refine imp_lc (m := m) hs ⟨K, al, s, h, rfl, rh, re, T.all_mono (fun q z => ?_) (T.all_bind.mp p)⟩
    split at z
    · rename_i xs e1
      split at z
      · rename_i sm
        exact ⟨xs, none, e1, fun _ z => (by cases z), sm, z⟩
      · exact z.elim
    · rw [hv, Bool.false_and] at z
      exact z.elim
    · exact z.elim

/-! ### calls -/
theorem evs_len : ∀ {es : List E} {s : Env} {h : Hs}, (evs cf es s h).Sat fun p => p.1.length = es.length
  | [], s, h => rfl
  | e :: es, s, h => by
    simp only [evs]
    refine T.sat_bind fun p => ?_
    have ih := evs_len (es := es) (s := s) (h := p.2)
    revert ih
    generalize evs cf es s p.2 = t
    intro ih
    induction t with
    | ok a =>
      show (p.1 :: a.1).length = (e :: es).length
      have : a.1.length = es.length := ih
      simp [this]
    | no => trivial
    | dr n k ih' => exact fun i => ih' i (ih i)
theorem imp_isi {F : PySem.W.Frag} {σ : St} {H : Hp} {e : E} {t : Ty} {Q : V → Hp → Prop} (w : tE F (ev cf (.isi e t)) σ H Q) : tCB (rIs F t) (tCons (tE F (ev cf e)) (tCons (tC (.ty (pyT t))) tNil)) σ H Q := by
  obtain ⟨K, al, s, h, rfl, rh, re, p⟩ := w
  simp only [ev] at p
  refine tE.seq rh re (T.all_mono (fun q z al1 H1 x e1 rh1 re1 rx => ?_) (T.all_bind.mp p))
  split at z
  · rename_i k ek
    exact ⟨K, al1, q.2, q.1, x, k, rfl, rfl, rh1, rx, ek, Pt.here (z.trans e1) rh1 (.bl k)⟩
  · exact z.elim
theorem imp_me {F : PySem.W.Frag} {σ : St} {H : Hp} {o : E} {es : List E} {m : Me} {Q : V → Hp → Prop} (w : tE F (ev cf (.me o m es)) σ H Q) : tBM F "list" (rM F m) (tE F (ev cf o)) (tA F (evs cf es)) σ H Q := by
  obtain ⟨K, al, s, h, rfl, rh, re, p⟩ := w
  simp only [ev] at p
  refine tE.seq rh re (T.all_mono (fun q z al1 H1 x e1 rh1 re1 rx => ?_) (T.all_bind.mp p))
  split at z
  · rename_i ys ey
    obtain ⟨a, us, ea, sq, rs⟩ := itemsL_of rh1 ey rx
    refine ⟨?_, tA.seq rh1 re1 (T.all_mono (fun q2 z2 al2 H2 ys e2 rh2 re2 rys => ⟨K, al2, q2.2, q.1, q2.1, rfl, rh2, rx.mono e2.toKp, rys, T.all_mono (fun _ z3 => z3.trans (e1.trans e2)) z2⟩) (T.all_bind.mp z))⟩
    rw [ea]
    exact .inl ⟨rfl, us, sq⟩
  · exact z.elim
theorem imp_me0 {F : PySem.W.Frag} {σ : St} {H : Hp} {o : E} {m : Me} {Q : V → Hp → Prop} (w : tE F (ev cf (.me o m [])) σ H Q) : tBM0 F "list" (rM F m) (tE F (ev cf o)) σ H Q := by
  obtain ⟨K, al, s, h, rfl, rh, re, p⟩ := w
  simp only [ev] at p
  refine tE.seq rh re (T.all_mono (fun q z al1 H1 x e1 rh1 re1 rx => ?_) (T.all_bind.mp p))
  split at z
  · rename_i ys ey
    obtain ⟨a, us, ea, sq, rs⟩ := itemsL_of rh1 ey rx
    have z : (meV m q.1 [] q.2).All (Pt K al h H Q) := z
    refine ⟨?_, K, al1, q.2, q.1, [], rfl, rh1, rx, .nil, T.all_mono (fun _ z3 => z3.trans e1) z⟩
    rw [ea]
    exact .inl ⟨rfl, us, sq⟩
  · exact z.elim
/-- list(range(..)), tuple(range(..)) -/
def matOf (F : PySem.W.Frag) (t : Bool) (te : St → Hp → (Int → Int → Hp → Prop) → Prop) : TE := match t with
  | true => tTupRg te
  | false => tLstRg te
theorem rgV_eq (a b : Int) : rgV a b = rngU a 1 (b - a).toNat := by
  unfold rgV rngU
  apply List.map_congr_left
  intro i _
  rw [Int.mul_one]
def matW (t : Bool) (a b : Int) (Q : V → Hp → Prop) (H : Hp) : Prop := match t with
  | true => ∀ q, H q = none → Q (.ref q) (upd H q (.tup (rgV a b)))
  | false => ∀ q, H q = none → Q (.ref q) (upd H q (.lst (rgV a b)))
theorem mat_end {K : Cn} {al : List Addr} {h : Hs} {H : Hp} {Q : V → Hp → Prop} {t m : Bool} {a b : Int} {xs : List Val} (rh : RH K al h H) (ex : xs = rngL a (b - a).toNat) (p : (matV t m xs h).All (Pt K al h H Q)) : matW t a b Q H := by
  have rs : RVs K al H xs (rgV a b) := by
    rw [rgV_eq, ex]
    exact rngL_rv a _
  cases t with
  | true => exact fun q nq => Pt.tup p rh rs nq
  | false => exact fun q nq => Pt.mk p rh rs nq
theorem imp_mat1 {F : PySem.W.Frag} {σ : St} {H : Hp} {t m : Bool} {a : E} {Q : V → Hp → Prop} (w : tE F (ev cf (.mat t m .rng [a])) σ H Q) : matOf F t (tRg1 (tE F (ev cf a))) σ H Q := by
  obtain ⟨K, al, s, h, rfl, rh, re, p⟩ := w
  simp only [ev, evs, T.bind_assoc] at p
  have go : tE K.K (ev cf a) σ H fun x H1 => ∃ n, x = .int n ∧ RgOk 0 n ∧ matW t 0 n Q H1 := by
    refine tE.seq rh re (T.all_mono (fun q z al1 H1 x e1 rh1 re1 rx => ?_) (T.all_bind.mp p))
    obtain ⟨v, h1⟩ := q
    simp only [T.bind] at z rx e1 rh1
    cases v with
    | int j =>
      simp only [srcV] at z
      by_cases b : (bd62 j && decide (j ≤ 1000000)) = true
      · rw [if_pos b] at z
        rw [Bool.and_eq_true, decide_eq_true_eq] at b
        obtain ⟨b1, b2⟩ := bd62_of b.1
        refine ⟨j, rx.int_of, ⟨by decide, by decide, b1, b2, by have := b.2; omega⟩, mat_end (m := m) (xs := rngL 0 j.toNat) rh1 (by rw [Int.sub_zero]) (T.all_mono (fun _ z3 => z3.trans e1) z)⟩
      · rw [if_neg b] at z
        exact z.elim
    | _ => exact z.elim
  cases t with
  | true =>
    refine (?_ : tTupRg (tRg1 (tE K.K (ev cf a))) σ H Q)
    obtain ⟨K2, al2, s2, h2, e2, rh2, re2, p2⟩ := go
    exact ⟨K2, al2, s2, h2, e2, rh2, re2, T.all_mono (fun q z al' H' u e r rv => let ⟨n, en, ok, qq⟩ := z al' H' u e r rv; ⟨n, en, ok, qq⟩) p2⟩
  | false =>
    refine (?_ : tLstRg (tRg1 (tE K.K (ev cf a))) σ H Q)
    obtain ⟨K2, al2, s2, h2, e2, rh2, re2, p2⟩ := go
    exact ⟨K2, al2, s2, h2, e2, rh2, re2, T.all_mono (fun q z al' H' u e r rv => let ⟨n, en, ok, qq⟩ := z al' H' u e r rv; ⟨n, en, ok, qq⟩) p2⟩
theorem imp_mat2 {F : PySem.W.Frag} {σ : St} {H : Hp} {t m : Bool} {a b : E} {Q : V → Hp → Prop} (w : tE F (ev cf (.mat t m .rng [a, b])) σ H Q) : matOf F t (tRg2 (tE F (ev cf a)) (tE F (ev cf b))) σ H Q := by
  obtain ⟨K, al, s, h, rfl, rh, re, p⟩ := w
  simp only [ev, evs2, T.bind_assoc] at p
  have go : tE K.K (ev cf a) σ H fun x H1 => tE K.K (ev cf b) σ H1 fun y H2 => ∃ i j, x = .int i ∧ y = .int j ∧ RgOk i j ∧ matW t i j Q H2 := by
    refine tE.seq rh re (T.all_mono (fun q z al1 H1 x e1 rh1 re1 rx => ?_) (T.all_bind.mp p))
    refine tE.seq rh1 re1 (T.all_mono (fun q2 z al2 H2 y e2 rh2 re2 ry => ?_) (T.all_bind.mp z))
    obtain ⟨v, h1⟩ := q
    obtain ⟨v2, h2⟩ := q2
    simp only [T.bind] at z rx e1 rh1 ry e2 rh2
    cases v with
    | int i =>
      cases v2 with
      | int j =>
        simp only [srcV] at z
        by_cases b : (bd62 i && bd62 j && decide (j - i ≤ 1000000)) = true
        · rw [if_pos b] at z
          rw [Bool.and_eq_true, Bool.and_eq_true, decide_eq_true_eq] at b
          obtain ⟨b1, b2⟩ := bd62_of b.1.1
          obtain ⟨b3, b4⟩ := bd62_of b.1.2
          refine ⟨i, j, rx.int_of, ry.int_of, ⟨b1, b2, b3, b4, by have := b.2; omega⟩, mat_end (m := m) (xs := rngL i (j - i).toNat) rh2 rfl (T.all_mono (fun _ z3 => z3.trans (e1.trans e2)) z)⟩
        · rw [if_neg b] at z
          exact z.elim
      | _ => exact z.elim
    | _ => exact z.elim
  cases t with
  | true =>
    refine (?_ : tTupRg (tRg2 (tE K.K (ev cf a)) (tE K.K (ev cf b))) σ H Q)
    obtain ⟨K2, al2, s2, h2, e2, rh2, re2, p2⟩ := go
    refine ⟨K2, al2, s2, h2, e2, rh2, re2, T.all_mono (fun q z al' H' u e r rv => ?_) p2⟩
    obtain ⟨K3, al3, s3, h3, e3, rh3, re3, p3⟩ := z al' H' u e r rv
    exact ⟨K3, al3, s3, h3, e3, rh3, re3, T.all_mono (fun q z al' H' u e r rv => let ⟨i, j, e1, e2, ok, qq⟩ := z al' H' u e r rv; ⟨i, j, e1, e2, ok, qq⟩) p3⟩
  | false =>
    refine (?_ : tLstRg (tRg2 (tE K.K (ev cf a)) (tE K.K (ev cf b))) σ H Q)
    obtain ⟨K2, al2, s2, h2, e2, rh2, re2, p2⟩ := go
    refine ⟨K2, al2, s2, h2, e2, rh2, re2, T.all_mono (fun q z al' H' u e r rv => ?_) p2⟩
    obtain ⟨K3, al3, s3, h3, e3, rh3, re3, p3⟩ := z al' H' u e r rv
    exact ⟨K3, al3, s3, h3, e3, rh3, re3, T.all_mono (fun q z al' H' u e r rv => let ⟨i, j, e1, e2, ok, qq⟩ := z al' H' u e r rv; ⟨i, j, e1, e2, ok, qq⟩) p3⟩
end
end Eng
/-! Expressions, all. -/
namespace Eng
open PySem L2
section
variable {cf : Nat → List Val → Hs → T (Val × Hs)} {k : Nat}
theorem imp_slc {F : PySem.W.Frag} {σ : St} {H : Hp} {m : Bool} {ca : Env → Hs → T (Val × Hs)} {cl ch : Env → Hs → T (Option Int × Hs)} {Q : V → Hp → Prop}
    (w : tE F (fun s h => (ca s h).bind fun p => (cl s p.2).bind fun q => (ch s q.2).bind fun r => slcV m p.1 q.1 r.1 r.2) σ H Q) : tSl (rSl F m) (tE F ca) (tO F cl) (tO F ch) σ H Q := by
  obtain ⟨K, al, s, h, rfl, rh, re, p⟩ := w
  refine tE.seq rh re (T.all_mono (fun q z al1 H1 x e1 rh1 re1 rx => ?_) (T.all_bind.mp p))
  refine tO.seq rh1 re1 (T.all_mono (fun q2 z2 al2 H2 e2 rh2 re2 => ?_) (T.all_bind.mp z))
  refine tO.seq rh2 re2 (T.all_mono (fun q3 z3 al3 H3 e3 rh3 re3 => ?_) (T.all_bind.mp z2))
  exact ⟨K, al3, q3.2, q.1, rfl, rh3, rx.mono (e2.trans e3).toKp, T.all_mono (fun _ z4 => z4.trans (e1.trans (e2.trans e3))) z3⟩
theorem po_ok {n : Nat} (ih : IH cf k n) {c : Ct} {X : Cx} (g : Gd cf k c X) {e : Expr} {x : E} (h : cE n c e = some x) : PO X (some e) (tO X.K (evo cf (some x))) := by
  have hp := (ih c e x X h g).1
  refine ⟨fun pins s σ H Q I hw => (po_some hp).run pins s σ H Q I ?_⟩
  obtain ⟨K, al, s', h', eK, rh, re, p⟩ := hw
  rw [← eK]
  simp only [evo] at p
  refine tE.seq rh re (T.all_mono (fun q z al1 H1 y e1 rh1 re1 ry => ?_) (T.all_bind.mp p))
  split at z
  · rename_i i ei
    rw [ei] at ry
    exact ⟨i, ry.int_of, z al1 H1 e1 rh1⟩
  · exact z.elim
theorem po_no {X : Cx} : PO X none (tO X.K (evo cf none)) :=
  ⟨fun pins s σ H Q I hw => po_none.run pins s σ H Q I (let ⟨K, al, s', h', eK, rh, re, p⟩ := hw; p al H Ext.refl rh)⟩
theorem call_ok {n : Nat} (ih : IH cf k n) {c : Ct} {X : Cx} (g : Gd cf k c X) {x : Str} {es : List Expr} {pos p : Pos} {y : E} (h : cCall (cE n c) c x es pos = some y) : PE X (.Call (.Name x p) es [] pos) (tE X.K (ev cf y)) := by
  unfold cCall at h
  split at h
  · cases h
  · rename_i q0
    rw [Bool.and_eq_true] at q0
    obtain ⟨o1, o2, o3⟩ := okN_of q0.1
    have hg := gloB_of g q0.2
    split at h
    · -- a def of the text
      rename_i i q1
      rw [Option.map_eq_some_iff] at h
      obtain ⟨xs, hx, ey⟩ := h
      subst ey
      obtain ⟨f, f1, f2, f3⟩ := g.fn x i q1
      have F := f3 X ⟨rfl, rfl, rfl, rfl, rfl, rfl⟩
      have hp := pa_ok ih g hx
      have conv : ∀ σ H Q, tE X.K (ev cf (.call i xs)) σ H Q → tCB (rF X.K cf i) (tA X.K (evs cf xs)) σ H Q := fun σ H Q w =>
        imp_args (f := cf i) (fun K al h vs ys H Q eK rh rs p => ⟨K, al, h, vs, eK, rh, rs, p⟩) w
      cases es with
      | nil =>
        cases hx
        refine PE.imp (pe_callF0 F hg f1 f2 o1) fun σ H Q w => ?_
        obtain ⟨K, al, s, h, eK, rh, re, z⟩ := w
        exact ⟨K, al, h, [], eK, rh, .nil, z⟩
      | cons e es =>
        obtain ⟨y, r, e1, e2, e3⟩ := opt_cons hx
        exact PE.imp (pe_callF F hg f1 f2 o1 hp (st_cons e2) (st_any e3)) conv
    · rename_i q1
      have hm := g.blt x q1
      split at h
      · -- isinstance
        rename_i q2
        rw [decide_eq_true_eq] at q2
        subst q2
        match es, h with
        | [e, t], h =>
          simp only at h
          split at h
          · rename_i z py
            split at h
            · rename_i q3
              simp only [Option.bind_eq_some_iff, Option.map_eq_some_iff] at h
              obtain ⟨t', ht, e', he, ey⟩ := h
              subst ey
              obtain ⟨b1, b2, b3, b4⟩ := isBlt_of g q3
              have pt : PE X (.Name z py) (tC (.ty (pyT t'))) := pe_bltn b1 b2 (tyOfN_of ht) rfl b4 b3
              have hp : PA X [e, .Name z py] (tCons (tE X.K (ev cf e')) (tCons (tC (.ty (pyT t'))) tNil)) := pa_cons (ih c e e' X he g).1 (pa_cons pt pa_nil) (st_cons he)
              exact PE.imp (pe_callB (isi_ok t') hg hm boot_isi hp o3 o1 (st_cons he) (by rfl)) fun σ H Q w => imp_isi w
            · cases h
          · cases h
        | [], h => cases h
        | [_], h => cases h
        | _ :: _ :: _ :: _, h => cases h
      · split at h
        · -- list(range(..)), tuple(range(..))
          rename_i rs q3
          split at q3
          · rename_i q4
            match es, q3 with
            | [e], q3 =>
              obtain ⟨p', pos', ee, hb⟩ := blt_call q3
              obtain ⟨b1, b2, b3, b4⟩ := isBlt_of g hb
              subst ee
              have fin : ∀ {te : St → Hp → (Int → Int → Hp → Prop) → Prop}, PRg X (.Call (.Name "range" p') rs [] pos') te → PE X (.Call (.Name x p) [.Call (.Name "range" p') rs [] pos'] [] pos) (matOf X.K (decide (x = ("tuple" : Str))) te) := fun {te} pr => by
                by_cases ex : x = ("tuple" : Str)
                · subst ex
                  rw [decide_eq_true rfl]
                  exact pe_tupRg g.hc hg hm pr rfl
                · have el : x = ("list" : Str) := by
                    rw [Bool.or_eq_true, decide_eq_true_eq, decide_eq_true_eq] at q4
                    exact q4.resolve_right ex
                  subst el
                  rw [decide_eq_false ex]
                  exact pe_listRg g.hc hg hm pr rfl
              match rs, h with
              | [a], h =>
                simp only [Option.map_eq_some_iff] at h
                obtain ⟨a', ha, ey⟩ := h
                subst ey
                exact PE.imp (fin (prg_1 b1 b2 (ih c a a' X ha g).1 (st_cons ha))) fun σ H Q w => imp_mat1 w
              | [a, b], h =>
                simp only [Option.bind_eq_some_iff, Option.map_eq_some_iff] at h
                obtain ⟨a', ha, b', hb', ey⟩ := h
                subst ey
                exact PE.imp (fin (prg_2 b1 b2 (ih c a a' X ha g).1 (ih c b b' X hb' g).1 (st_cons ha) (st_cons hb') (by rw [st_cons hb']; rfl))) fun σ H Q w => imp_mat2 w
              | [], h => cases h
              | _ :: _ :: _ :: _, h => cases h
            | [], q3 => cases q3
            | _ :: _ :: _, q3 => cases q3
          · cases q3
        · simp only [Option.bind_eq_some_iff, Option.map_eq_some_iff] at h
          obtain ⟨b, hb, xs, hx, ey⟩ := h
          subst ey
          obtain ⟨hb1, hb2⟩ := biOf_of hb
          have hp := pa_ok ih g hx
          have conv : ∀ σ H Q, tE X.K (ev cf (.bi b (c.isMu pos) xs)) σ H Q → tCB (rB X.K b (c.isMu pos)) (tA X.K (evs cf xs)) σ H Q := fun σ H Q w =>
            imp_args (f := biV b (c.isMu pos)) (fun K al h vs ys H Q eK rh rs p => ⟨K, al, h, vs, eK, rh, rs, p⟩) w
          cases es with
          | nil => exact absurd rfl hb2
          | cons e es =>
            obtain ⟨y, r, e1, e2, e3⟩ := opt_cons hx
            have cr := bi_ok (X := X) g.hc b (c.isMu pos)
            cases b <;> first
              | exact PE.imp (pe_callB cr hg hm hb1 hp o3 o1 (st_cons e2) (st_any e3)) conv
              | exact PE.imp (pe_callTy cr hg hm hb1 hp o3 o1 (st_cons e2) (st_any e3)) conv
    · cases h
theorem slot_of {nm : Str} {m : Nat} {b : Me} (h : (nm, m, b) ∈ meTab) : Slot "list" nm (pyM b) ∧ typeOf (.builtin (pyM b)) = pure (.type "method_descriptor") := by
  simp only [meTab, List.mem_cons, List.not_mem_nil, or_false, Prod.mk.injEq] at h
  rcases h with ⟨e1, e2, e3⟩ | ⟨e1, e2, e3⟩ | ⟨e1, e2, e3⟩ <;> subst e1 e3
  · exact ⟨PySem.F.slot_list_append, PySem.F.type_list_append⟩
  · exact ⟨PySem.F.slot_list_pop, PySem.F.type_list_pop⟩
  · exact ⟨PySem.F.slot_list_extend, PySem.F.type_list_extend⟩
theorem me_len {nm : Str} {m : Nat} {b : Me} (h : (nm, m, b) ∈ meTab) : m < 2 := by
  simp only [meTab, List.mem_cons, List.not_mem_nil, or_false, Prod.mk.injEq] at h
  omega
theorem meth_ok {n : Nat} (ih : IH cf k n) {c : Ct} {X : Cx} (g : Gd cf k c X) {o : Expr} {nm : Str} {es : List Expr} {pos ap : Pos} {o' : E} {xs : List E} {b : Me} (h0 : isCallE o = false) (hl : (ap.endLine == pos.line) = true) (ho : cE n c o = some o') (hx : optAll (cE n c) es = some xs) (hb : meOf nm es.length = some b) :
    PE X (.Call (.Attribute o nm ap) es [] pos) (tE X.K (ev cf (.me o' b xs))) := by
  have hmem := meOf_of hb
  obtain ⟨s1, s2⟩ := slot_of hmem
  have po := (ih c o o' X ho g).1
  have hat : attributeBase o nm X.env (eval o X.env) = eval o X.env := by
    cases o <;> first | rfl | (simp [isCallE] at h0)
  match es, hx with
  | [], hx =>
    cases hx
    exact PE.imp (pe_bm0 PySem.F.plainAttrs_list s1 s2 (me_ok b) po hat hl) fun σ H Q w => imp_me0 w
  | [e], hx =>
    obtain ⟨y, r, e1, e2, e3⟩ := opt_cons hx
    refine PE.imp (pe_bm PySem.F.plainAttrs_list s1 s2 (me_ok b) po (pa_ok ih g hx) hat ?_ hl (st_cons e2) (by rfl)) fun σ H Q w => imp_me w
    rw [st_cons e2]
    rfl
  | _ :: _ :: _, hx =>
    have := me_len hmem
    simp only [List.length_cons] at this
    omega
theorem slots_of {t : Tg} {own : List Nat} (h : (slots t).all (fun j => own.contains j) = true) : ∀ j ∈ slots t, j ∈ own := fun j m => by
  have := List.all_eq_true.mp h j m
  simpa using this
theorem cE_ok : ∀ n, IH cf k n
  | 0 => fun c e x X h g => by simp [cE] at h
  | n + 1 => fun c e x X h g => by
    have ih : IH cf k n := cE_ok n
    have hset := h
    -- the test of an expression that is no and, or, not, comparison
    have plain : PE X e (tE X.K (ev cf x)) → (∀ op es p, e ≠ .BoolOp op es p) → (∀ a os bs p, e ≠ .Compare a os bs p) → (∀ a p, e ≠ .UnaryOp .Not a p) → PE X e (tE X.K (ev cf x)) ∧ (isIf e = false → PT X e (tT X.K (tst cf x))) := fun hp h3 h4 h5 =>
      ⟨hp, fun h2 => PT.imp (pt_truth hp fun whole => plain_true hset h2 h3 h4 h5 X.env whole) fun σ H Q w => imp_test w⟩
    cases e with
    | Constant kk kx pos =>
      refine plain ?_ (by intros; simp) (by intros; simp) (by intros; simp)
      simp only [cE] at h
      have fin : ∀ {v : Val} {w : V}, (∀ K al H, RV K al H v w) → PE X (.Constant kk kx pos) (tC w) → x = .c v → PE X (.Constant kk kx pos) (tE X.K (ev cf x)) := fun {v w} rv hp ex => by
        subst ex
        refine PE.imp hp fun σ H Q wq => ?_
        obtain ⟨K, al, s, h, eK, rh, re, z⟩ := wq
        exact Pt.here (v := v) z rh (rv K al H)
      cases kk <;> simp only [cK, Option.some.injEq, reduceCtorEq] at h <;> subst h
      · exact fin (fun _ _ _ => .non) pe_non rfl
      · exact fin (fun _ _ _ => .bl _) pe_bl rfl
      · exact fin (fun _ _ _ => .int _) pe_int rfl
      · exact fin (fun _ _ _ => .str _) pe_str rfl
    | Name y pos =>
      refine plain ?_ (by intros; simp) (by intros; simp) (by intros; simp)
      simp only [cE, cNm] at h
      split at h
      · cases h
      · rename_i q0
        obtain ⟨o1, o2, o3⟩ := okN_of q0
        split at h
        · rename_i q1
          rw [Option.map_eq_some_iff] at h
          obtain ⟨i, hi, ex⟩ := h
          subst ex
          have hv := visB_of q1
          rw [← g.sc] at hv
          have hN := slotOf_of hi
          rw [← g.N] at hN
          refine PE.imp (pe_var hN hv o1 o2) fun σ H Q w => ?_
          obtain ⟨K, al, s, h, eK, rh, re, z⟩ := w
          simp only [ev] at z
          split at z
          · rename_i v hv'
            obtain ⟨u, e1, e2⟩ := re.get i v hv'
            exact ⟨u, e1, Pt.here z rh e2⟩
          · exact z.elim
        · split at h
          · rename_i q2
            split at h
            · rename_i v q3
              cases h
              obtain ⟨u, w, hm, r, rv⟩ := g.con y v q3
              refine PE.imp (pe_glob (gloB_of g q2) hm r o1) fun σ H Q wq => ?_
              obtain ⟨K, al, s, h, eK, rh, re, z⟩ := wq
              exact Pt.here (v := v) z rh (rv K al H eK)
            · cases h
          · cases h
    | BinOp a op b pos =>
      refine plain ?_ (by intros; simp) (by intros; simp) (by intros; simp)
      simp only [cE, Option.bind_eq_some_iff, Option.map_eq_some_iff] at h
      obtain ⟨a', ha, b', hb, o, ho, ex⟩ := h
      subst ex
      have eo : op = pyB o := by cases op <;> simp only [cB, Option.some.injEq, reduceCtorEq] at ho <;> subst ho <;> rfl
      subst eo
      exact PE.imp (pe_op (or_bin o (c.isMu pos)) (ih c a a' X ha g).1 (ih c b b' X hb g).1) fun σ H Q w => imp_two w
    | UnaryOp op a pos =>
      simp only [cE] at h
      split at h
      · cases h
      · rename_i q0
        rw [Option.bind_eq_some_iff] at h
        obtain ⟨a', ha, h⟩ := h
        obtain ⟨h1, h2⟩ := ih c a a' X ha g
        cases op with
        | USub =>
          simp only [Option.some.injEq] at h
          subst h
          exact plain (PE.imp (pe_un un_negR h1) fun σ H Q w => imp_neg w) (by intros; simp) (by intros; simp) (by intros; simp)
        | Not =>
          simp only [Option.some.injEq] at h
          subst h
          exact ⟨PE.imp (pe_not h1) fun σ H Q w => imp_not w, fun _ => PT.imp (pt_not (h2 q0)) fun σ H Q w => imp_tnot w⟩
        | _ => cases h
    | BoolOp op es pos =>
      simp only [cE] at h
      split at h
      · cases h
      · rename_i q0
        obtain ⟨h1, h2⟩ := bool_ok ih g (pos := pos) h
        refine ⟨h1, fun _ => (h2 fun e m => ?_).pt⟩
        cases q : isIf e with
        | false => rfl
        | true =>
          have : es.any isIf = true := List.any_eq_true.mpr ⟨e, m, q⟩
          rw [q0] at this
          cases this
    | Compare a os bs pos =>
      simp only [cE] at h
      split at h
      · rename_i o b
        split at h
        · cases h
        · rename_i q0
          simp only [Option.bind_eq_some_iff, Option.map_eq_some_iff] at h
          obtain ⟨a', ha, b', hb, o', ho, ex⟩ := h
          subst ex
          have eo : o = pyC o' := by cases o <;> simp only [cC, Option.some.injEq, reduceCtorEq] at ho <;> subst ho <;> rfl
          subst eo
          refine ⟨PE.imp (pe_cmpR (or_cmp g.room o') (ih c a a' X ha g).1 (ih c b b' X hb g).1 q0) fun σ H Q w => imp_two_c w, fun _ => ?_⟩
          exact PT.imp (pt_cmpR (or_cmp g.room o') (ih c a a' X ha g).1 (ih c b b' X hb g).1 q0) fun σ H Q w => imp_two_c (imp_tbl (fun s h => cmp_sat s h) w)
      · rename_i o p b d
        split at h
        · cases h
        · rename_i q0
          simp only [Option.bind_eq_some_iff, Option.map_eq_some_iff] at h
          obtain ⟨a', ha, b', hb, d', hd, o', ho, p', hp, ex⟩ := h
          subst ex
          have eo : o = pyC o' := by cases o <;> simp only [cC, Option.some.injEq, reduceCtorEq] at ho <;> subst ho <;> rfl
          have ep : p = pyC p' := by cases p <;> simp only [cC, Option.some.injEq, reduceCtorEq] at hp <;> subst hp <;> rfl
          subst eo ep
          refine ⟨PE.imp (pe_chain (or_cmp g.room o') (or_cmp g.room p') (ih c a a' X ha g).1 (ih c b b' X hb g).1 (ih c d d' X hd g).1 q0) fun σ H Q w => imp_chn w, fun _ => ?_⟩
          exact PT.imp (pt_chain (or_cmp g.room o') (or_cmp g.room p') (ih c a a' X ha g).1 (ih c b b' X hb g).1 (ih c d d' X hd g).1 q0) fun σ H Q w => imp_chn (imp_tbl (fun s h => chn_sat s h) w)
      · cases h
    | IfExp t a b pos =>
      refine ⟨?_, fun z => by simp [isIf] at z⟩
      simp only [cE] at h
      split at h
      · cases h
      · rename_i q0
        simp only [Option.bind_eq_some_iff, Option.map_eq_some_iff] at h
        obtain ⟨t', ht, a', ha, b', hb, ex⟩ := h
        subst ex
        exact PE.imp (pe_ifExp ((ih c t t' X ht g).2 q0) (ih c a a' X ha g).1 (ih c b b' X hb g).1) fun σ H Q w => imp_ite w
    | Tuple es kk pos =>
      refine plain ?_ (by intros; simp) (by intros; simp) (by intros; simp)
      simp only [cE, Option.map_eq_some_iff] at h
      obtain ⟨xs, hx, ex⟩ := h
      subst ex
      exact PE.imp (pe_tup (pa_ok ih g hx)) fun σ H Q w => imp_tup w
    | List es pos =>
      refine plain ?_ (by intros; simp) (by intros; simp) (by intros; simp)
      simp only [cE, Option.map_eq_some_iff] at h
      obtain ⟨xs, hx, ex⟩ := h
      subst ex
      exact PE.imp (pe_lst (pa_ok ih g hx)) fun σ H Q w => imp_lst w
    | Subscript a i pos =>
      refine plain ?_ (by intros; simp) (by intros; simp) (by intros; simp)
      have sub : ((cE n c a).bind fun a' => (cE n c i).map fun i' => E.sub a' i') = some x → PE X (.Subscript a i pos) (tE X.K (ev cf x)) := fun h => by
        simp only [Option.bind_eq_some_iff, Option.map_eq_some_iff] at h
        obtain ⟨a', ha, i', hi, ex⟩ := h
        subst ex
        exact PE.imp (pe_ix ix_ok (ih c a a' X ha g).1 (ih c i i' X hi g).1 (nosl hi)) fun σ H Q w => imp_sub w
      cases i with
      | Slice lo hi st p2 =>
        simp only [cE] at h
        split at h
        · cases h
        · rw [Option.bind_eq_some_iff] at h
          obtain ⟨a', ha, h⟩ := h
          have pa := (ih c a a' X ha g).1
          split at h
          · cases h
            exact PE.imp (pe_slice (sl_ok (c.isMu pos)) pa po_no po_no) fun σ H Q w => imp_slc w
          · rename_i l
            rw [Option.map_eq_some_iff] at h
            obtain ⟨l', hl, ex⟩ := h
            subst ex
            exact PE.imp (pe_slice (sl_ok (c.isMu pos)) pa (po_ok ih g hl) po_no) fun σ H Q w => imp_slc w
          · rename_i u
            rw [Option.map_eq_some_iff] at h
            obtain ⟨u', hu, ex⟩ := h
            subst ex
            exact PE.imp (pe_slice (sl_ok (c.isMu pos)) pa po_no (po_ok ih g hu)) fun σ H Q w => imp_slc w
          · rename_i l u
            rw [Option.bind_eq_some_iff] at h
            obtain ⟨l', hl, h⟩ := h
            rw [Option.map_eq_some_iff] at h
            obtain ⟨u', hu, ex⟩ := h
            subst ex
            exact PE.imp (pe_slice (sl_ok (c.isMu pos)) pa (po_ok ih g hl) (po_ok ih g hu)) fun σ H Q w => imp_slc w
      | _ => exact sub (by simpa only [cE] using h)
    | Call f es kws pos =>
      refine plain ?_ (by intros; simp) (by intros; simp) (by intros; simp)
      simp only [cE] at h
      split at h
      · split at h
        · exact call_ok ih g h
        · split at h
          · cases h
          · rename_i q0
            rw [Bool.or_eq_false_iff, Bool.not_eq_false'] at q0
            simp only [Option.bind_eq_some_iff, Option.map_eq_some_iff] at h
            obtain ⟨o', ho, xs, hx, b, hb, ex⟩ := h
            subst ex
            exact meth_ok ih g q0.1 q0.2 ho hx hb
        · cases h
      · cases h
    | ListComp e gs scope pos =>
      refine plain ?_ (by intros; simp) (by intros; simp) (by intros; simp)
      simp only [cE] at h
      split at h
      · cases h
      · rename_i q0
        split at h
        · rename_i tg it ifs as
          split at h
          · cases h
          · rename_i q1
            have ea : as = 0 := by simpa using q1
            subst ea
            simp only [Option.bind_eq_some_iff] at h
            obtain ⟨w, hw, tg', ht, cs, hc, e', he, h⟩ := h
            split at h
            · rename_i q2
              cases h
              have b : BlkOk X.N X.env.scope scope (ownOf c.N scope) := by
                rw [g.sc, g.N]
                exact blkOk_by q0
              have hsl := slots_of q2
              have lc : PE X (.ListComp e [⟨tg, it, ifs, 0⟩] scope pos) (tLc (tI X.K w.1 (evs cf w.2)) (tG X.K tg') (tT X.K (evt cf cs)) (tE X.K (ev cf e')) ((ownOf c.N scope).map (·.2))) := by
                refine pe_lc g.hc g.nd (cI_ok ih g hw) b (fun s H C cl fp => ?_) (fun s H C cl fp => ?_) (fun s H C cl fp => ?_) (cI_set hw X.env)
                · exact tg_ok (c.inn scope) _ (g.blk q0 (own := ownOf c.N scope) s H C cl fp) n tg tg' ht
                · exact ifs_ok ih (g.blk q0 (own := ownOf c.N scope) s H C cl fp) hc
                · exact (ih (c.inn scope) e e' _ he (g.blk q0 (own := ownOf c.N scope) s H C cl fp)).1
              exact PE.imp (PE.orr lc (pe_lock lc)) fun σ H Q w => imp_lcA hsl w
            · cases h
        · cases h
    | _ => simp [cE] at h
end
end Eng
/-! Statements. -/
namespace Eng
open PySem L2
section
variable {cf : Nat → List Val → Hs → T (Val × Hs)} {k : Nat} {fu : Nat}
open PyProof PyProof.Rows in
theorem get_ok {X : Cx} : PGet X (rGet X.K) := by
  intro pins s σ H x y v u Q I r1 r2 hq
  obtain ⟨K, al, h, a, b, z, eK, rh, ra, rb, e, q⟩ := hq
  unfold subV at e
  split at e
  · rename_i kk
    have ey := rb.int_of
    subst ey
    split at e
    · rename_i xs q1
      split at e
      · rename_i j q2
        obtain ⟨c, us, e1, sq, rs⟩ := items_of rh q1 ra
        subst e1
        obtain ⟨w, hw, rw'⟩ := rs.get e
        have hat : atI us kk = some w := by
          unfold atI
          rw [← ixI_eq, ← rs.length, q2]
          exact hw
        cases r1
        obtain ⟨t, rfl⟩ := r2
        obtain ⟨j, h1, h2, h3, h4, h5⟩ := atI_get hat
        have hn := line63
        rcases sq with sq | sq
        · obtain ⟨its, r, pl, hz⟩ := I.list (eK ▸ sq)
          obtain ⟨w', ew, rw''⟩ := r.get h2
          have hl := r.length
          have fin : EP X pins σ Q w' s := ⟨w, H, I, rw'', q w rw'⟩
          by_cases h0 : 0 ≤ kk
          · have hj : kk.toNat = j := by
              rw [seqIndex_of h0 h5] at h1
              exact Option.some.inj h1
            exact wpAny_getItem_list pl.isList h0 (by omega) (by rw [hj]; simpa using ew) fin
          · have hj : (kk + (its.toArray.size : Int)).toNat = j := by
              rw [seqIndex_neg (by omega) h4] at h1
              rw [List.size_toArray, ← hl]
              exact Option.some.inj h1
            exact wpAny_getItem_list_neg pl.isList (by omega) (by rw [List.size_toArray] <;> omega) (by omega) (by rw [hj]; simpa using ew) fin
        · obtain ⟨its, r, pl, hz⟩ := I.tuple (eK ▸ sq)
          obtain ⟨w', ew, rw''⟩ := r.get h2
          have hl := r.length
          exact getItem_tuple (j := j) pl (by omega) (by omega) (by rw [List.size_toArray, ← hl]; exact h1) (by simpa using ew) ⟨w, H, I, rw'', q w rw'⟩
      · cases e
    · cases e
  · cases e
/-! ### targets -/
theorem at_cons {n : Nat} {c : Ct} {e : Expr} {t : At} {es : List Expr} {env : PySem.Env} (h : cAt n c e = some t) : assignEach (e :: es) env = (false, assign e env) :: assignEach es env := by
  cases n with
  | zero => simp [cAt] at h
  | succ n => cases e <;> first | rfl | (simp [cAt] at h)
theorem ats_len {n : Nat} {c : Ct} {env : PySem.Env} : ∀ {es : List Expr} {ts : List At}, optAll (cAt n c) es = some ts → (assignEach es env).length = ts.length ∧ (assignEach es env).findIdx? (·.1) = none
  | [], ts, h => by cases h; exact ⟨rfl, rfl⟩
  | e :: es, ts, h => by
    obtain ⟨y, r, e1, e2, e3⟩ := opt_cons h
    subst e1
    obtain ⟨h1, h2⟩ := ats_len (env := env) e3
    rw [at_cons e2]
    exact ⟨by simp [h1], by simp [List.findIdx?_cons, h2]⟩
theorem imp_ats_nil {F : PySem.W.Frag} {σ : St} {H : Hp} {v : List V} {Q : St → Hp → Prop} (w : tAts F (asgs cf []) v σ H Q) : gNil v σ H Q := by
  obtain ⟨K, al, s, h, x, rfl, rh, re, rx, p⟩ := w
  cases x with
  | nil =>
    simp only [asgs] at p
    exact ⟨rx, p al H σ Ext.refl rh re⟩
  | cons y ys =>
    simp only [asgs] at p
    exact p.elim
theorem imp_ats_cons {F : PySem.W.Frag} {σ : St} {H : Hp} {t : At} {ts : List At} {v : List V} {Q : St → Hp → Prop} (w : tAts F (asgs cf (t :: ts)) v σ H Q) : gCons (tAt F (asg cf t)) (tAts F (asgs cf ts)) v σ H Q := by
  obtain ⟨K, al, s, h, x, rfl, rh, re, rx, p⟩ := w
  cases x with
  | nil =>
    simp only [asgs] at p
    exact p.elim
  | cons y ys =>
    simp only [asgs] at p
    obtain ⟨u, r, e, r1, r2⟩ := rx
    refine ⟨u, r, e, K, al, s, h, y, rfl, rh, re, r1, T.all_mono (fun q z al1 H1 σ1 e1 rh1 re1 => ?_) (T.all_bind.mp p)⟩
    exact ⟨K, al1, q.1, q.2, ys, rfl, rh1, re1, r2.mono e1.toKp, T.all_mono (fun q2 z2 al2 H2 σ2 e2 rh2 re2 => z2 al2 H2 σ2 (e1.trans e2) rh2 re2) z⟩
theorem at_ok (c : Ct) (X : Cx) (g : Gd cf k c X) : ∀ (n : Nat) (e : Expr) (t : At), cAt n c e = some t → PG X e (tAt X.K (asg cf t))
  | 0, e, t, h => by simp [cAt] at h
  | n + 1, e, t, h => by
    cases e with
    | Name x pos =>
      simp only [cAt, Option.map_eq_some_iff] at h
      obtain ⟨i, hi, et⟩ := h
      subst et
      obtain ⟨h1, h2, h3⟩ := cSt_of g hi
      exact PG.imp (pg_name g.nd h1 h2 h3) fun v σ H Q w => imp_at_nm w
    | Tuple es kk pos =>
      simp only [cAt, Option.map_eq_some_iff] at h
      obtain ⟨ts, hts, et⟩ := h
      subst et
      obtain ⟨l1, l2⟩ := ats_len (env := X.env) hts
      have all : ∀ {es : List Expr} {ts : List At}, optAll (cAt n c) es = some ts → PGs X es (tAts X.K (asgs cf ts)) := by
        intro es
        induction es with
        | nil =>
          intro ts h
          cases h
          exact PGs.imp pgs_nil fun v σ H Q w => imp_ats_nil w
        | cons e es ihe =>
          intro ts h
          obtain ⟨y, r, e1, e2, e3⟩ := opt_cons h
          subst e1
          exact PGs.imp (pgs_cons (at_ok c X g n e y e2) (ihe e3) (by rw [at_cons e2]; rfl)) fun v σ H Q w => imp_ats_cons w
      exact PG.imp (pg_tup g.hc (all hts) l1 l2) fun v σ H Q w => imp_at_tp w
    | Subscript o i pos =>
      simp only [cAt] at h
      split at h
      · cases h
      · rename_i q
        simp only [Option.bind_eq_some_iff, Option.map_eq_some_iff] at h
        obtain ⟨o', ho, i', hi, et⟩ := h
        subst et
        exact PG.imp (pg_sub (cE_ok n c o o' X ho g).1 (cE_ok n c i i' X hi g).1 set_ok (by cases i <;> first | (intro v; rfl) | (simp [isSl] at q))) fun v σ H Q w => imp_sb w
    | _ => simp [cAt] at h
/-! ### blocks -/
theorem imp_pass {F : PySem.W.Frag} {σ : St} {H : Hp} {D : Ends} (w : tS F (ex cf fu .pass) D σ H) : tNext D σ H := by
  obtain ⟨K, al, s, h, rfl, rh, re, p⟩ := w
  exact p al H σ Ext.refl rh re
theorem imp_brk {F : PySem.W.Frag} {σ : St} {H : Hp} {D : Ends} (w : tS F (ex cf fu .brk) D σ H) : tBreak D σ H := by
  obtain ⟨K, al, s, h, rfl, rh, re, p⟩ := w
  exact p al H σ Ext.refl rh re
theorem imp_cnt {F : PySem.W.Frag} {σ : St} {H : Hp} {D : Ends} (w : tS F (ex cf fu .cnt) D σ H) : tCont D σ H := by
  obtain ⟨K, al, s, h, rfl, rh, re, p⟩ := w
  exact p al H σ Ext.refl rh re
theorem imp_nil {F : PySem.W.Frag} {σ : St} {H : Hp} {D : Ends} (w : tS F (exs cf fu []) D σ H) : tNext D σ H := by
  obtain ⟨K, al, s, h, rfl, rh, re, p⟩ := w
  exact p al H σ Ext.refl rh re
theorem imp_retN {F : PySem.W.Frag} {σ : St} {H : Hp} {D : Ends} (w : tS F (ex cf fu (.ret (.c .non))) D σ H) : tRetN D σ H := by
  obtain ⟨K, al, s, h, rfl, rh, re, p⟩ := w
  exact p al H σ Ext.refl rh re .non .non
theorem imp_nev {F : PySem.W.Frag} {σ : St} {H : Hp} {D : Ends} (w : tS F (ex cf fu .never) D σ H) : tNever D σ H := by
  obtain ⟨K, al, s, h, rfl, rh, re, p⟩ := w
  exact p.elim
def IS (cf : Nat → List Val → Hs → T (Val × Hs)) (k fu n : Nat) : Prop := ∀ (c : Ct) (st : Stmt) (x : S) (X : Cx), cS n c st = some x → Gd cf k c X → PS X st (tS X.K (ex cf fu x))
theorem pss_ok {n : Nat} (ih : IS cf k fu n) {c : Ct} {X : Cx} (g : Gd cf k c X) : ∀ {es : List Stmt} {xs : List S}, optAll (cS n c) es = some xs → PSs X es (tS X.K (exs cf fu xs))
  | [], xs, h => by
    cases h
    exact PSs.imp pss_nil fun D σ H w => imp_nil w
  | e :: es, xs, h => by
    obtain ⟨y, r, e1, e2, e3⟩ := opt_cons h
    subst e1
    exact PSs.imp (pss_cons (ih c e y X e2 g) (pss_ok ih g e3)) fun D σ H w => imp_seq w
theorem imp_forA {F : PySem.W.Frag} {σ : St} {H : Hp} {tg : Tg} {sk : Sk} {es : List E} {b : List S} {D : Ends} (w : tS F (ex cf fu (.for_ tg sk es b)) D σ H) :
    tFor (tI F sk (evs cf es)) (tG F tg) (tS F (exs cf fu b)) D σ H ∨ tLock (tFor (tI F sk (evs cf es)) (tG F tg) (tS F (exs cf fu b))) D σ H := by
  obtain ⟨K, al, s, h, rfl, rh, re, p⟩ := w
  simp only [ex] at p
  cases hv : isVar es with
  | true =>
    obtain ⟨i, ei⟩ := isVar_of hv
    subst ei
    rw [T.all_bind] at p
    obtain ⟨v, hsl, p, hev⟩ := evs_v p
    simp only at p
    split at p
    · rename_i xs q
      left
      refine imp_for ⟨K, al, s, h, rfl, rh, re, ?_⟩
      rw [hev]
      exact ⟨xs, none, q, fun _ z => (by cases z), p⟩
    · rename_i xs l q
      obtain ⟨ys, e1, e2, e3⟩ := src_lk q
      simp only [List.cons.injEq, and_true] at e1
      subst e1
      exact imp_forL rfl rh re hev hsl e2 e3 p
    · exact p.elim
  | false =>
    left
    refine imp_for ⟨K, al, s, h, rfl, rh, re, T.all_mono (fun q z => ?_) (T.all_bind.mp p)⟩
    split at z
    · rename_i xs e1
      exact ⟨xs, none, e1, fun _ z => (by cases z), z⟩
    · rw [hv] at z
      exact z.elim
    · exact z.elim
theorem blk_of {c : Ct} {X : Cx} (g : Gd cf k c X) : X.env.blockKind = .function := by
  unfold PySem.Env.blockKind
  rw [g.sc, g.kind]
  rfl
theorem sw_stores {c : Ct} {X : Cx} (g : Gd cf k c X) {ts vs : List Expr} {kt kv : Nat} {pt pv : Pos} {r : Option (List Str)} (h : swN c.sc ts vs = some r) : swappedStores [.Tuple ts kt pt] (.Tuple vs kv pv) X.env = pure r := by
  have hb := blk_of g
  have hk : ∀ id, X.env.kindOf id = c.sc.names.lookup id := fun id => by rw [← g.sc]; rfl
  have hf : (X.env.blockKind != ScopeKind.function) = false := by rw [hb]; rfl
  unfold swN at h
  unfold swappedStores
  simp only [hf, hk, Bool.or_false]
  split at h
  · rename_i c1
    cases h
    exact (if_pos c1).trans rfl
  · rename_i c1
    refine (if_neg c1).trans ?_
    split at h
    · rename_i c2
      cases h
      exact (if_pos c2).trans rfl
    · rename_i c2
      refine (if_neg c2).trans ?_
      simp only at h
      split at h
      · rename_i c3
        cases h
        exact (if_pos c3).trans rfl
      · rename_i c3
        refine (if_neg c3).trans ?_
        split at h
        · rename_i c4
          cases h
          exact (if_pos c4).trans rfl
        · rename_i c4
          refine (if_neg c4).trans ?_
          split at h
          · cases h
          · rename_i c5
            cases h
            exact (if_neg c5).trans rfl
end
end Eng
/-! Statements, on. -/
namespace Eng
open PySem L2
section
variable {cf : Nat → List Val → Hs → T (Val × Hs)} {k : Nat} {fu : Nat}
theorem lc_parts {n : Nat} {c : Ct} {X : Cx} (g : Gd cf k c X) {e : Expr} {gs : List Comprehension} {scope : Scope} {pos : Pos} {x : E} (h : cE (n + 1) c (.ListComp e gs scope pos) = some x) :
    ∃ (tg it : Expr) (ifs : List Expr) (w : Sk × List E) (tg' : Tg) (cs : List E) (e' : E), gs = [⟨tg, it, ifs, 0⟩] ∧ x = .lc (c.isMu pos) ((ownOf c.N scope).map (·.2)) tg' w.1 w.2 cs e' ∧ (∀ j ∈ slots tg', j ∈ (ownOf c.N scope).map (·.2)) ∧
      PI X tg it (tI X.K w.1 (evs cf w.2)) ∧ BlkOk X.N X.env.scope scope (ownOf c.N scope) ∧
      (∀ (s : Shared) (H : Hp) (C : Addr) (cl : List (Str × Addr)) (fp : List Addr), PG (X.blk s H scope (compEnvC scope cl C X.env) fp) tg (tG X.K tg')) ∧
      (∀ (s : Shared) (H : Hp) (C : Addr) (cl : List (Str × Addr)) (fp : List Addr), PTs (X.blk s H scope (compEnvC scope cl C X.env) fp) ifs (tT X.K (evt cf cs))) ∧
      (∀ (s : Shared) (H : Hp) (C : Addr) (cl : List (Str × Addr)) (fp : List Addr), PE (X.blk s H scope (compEnvC scope cl C X.env) fp) e (tE X.K (ev cf e'))) ∧
      (∀ v, foldedSetIterable it X.env v = pure v) := by
  have ih : IH cf k n := cE_ok n
  simp only [cE] at h
  split at h
  · cases h
  · rename_i q0
    split at h
    · rename_i tg it ifs as
      split at h
      · cases h
      · rename_i q1
        have ea : as = 0 := by simpa using q1
        subst ea
        simp only [Option.bind_eq_some_iff] at h
        obtain ⟨w, hw, tg', ht, cs, hc, e', he, h⟩ := h
        split at h
        · rename_i q2
          cases h
          have b : BlkOk X.N X.env.scope scope (ownOf c.N scope) := by
            rw [g.sc, g.N]
            exact blkOk_by q0
          refine ⟨tg, it, ifs, w, tg', cs, e', rfl, rfl, slots_of q2, cI_ok ih g hw, b, fun s H C cl fp => ?_, fun s H C cl fp => ?_, fun s H C cl fp => ?_, cI_set hw X.env⟩
          · exact tg_ok (c.inn scope) _ (g.blk q0 (own := ownOf c.N scope) s H C cl fp) n tg tg' ht
          · exact ifs_ok ih (g.blk q0 (own := ownOf c.N scope) s H C cl fp) hc
          · exact (ih (c.inn scope) e e' _ he (g.blk q0 (own := ownOf c.N scope) s H C cl fp)).1
        · cases h
    · cases h
theorem tE.post {F : PySem.W.Frag} {c : Env → Hs → T (Val × Hs)} {σ : L2.St} {H : Hp} {Q Q' : V → Hp → Prop} (i : ∀ v H, Q v H → Q' v H) (w : tE F c σ H Q) : tE F c σ H Q' := by
  obtain ⟨K, al, s, h, eK, rh, re, p⟩ := w
  exact ⟨K, al, s, h, eK, rh, re, T.all_mono (fun q z al1 H1 x e1 rh1 rx => i _ _ (z al1 H1 x e1 rh1 rx)) p⟩
/-- name = e -/
theorem set_name {n : Nat} {c : Ct} {X : Cx} (g : Gd cf k c X) {x : Str} {px pos : Pos} {i : Nat} {e : Expr} {e' : E} (hi : cSt c x = some i) (he : cE n c e = some e') : PS X (.Assign [.Name x px] e pos) (tS X.K (ex cf fu (.asg (.nm i) e'))) := by
  obtain ⟨h1, h2, h3⟩ := cSt_of g hi
  have conv : ∀ D σ H, tS X.K (ex cf fu (.asg (.nm i) e')) D σ H → tAsg (tE X.K (ev cf e')) (gName i) D σ H := fun D σ H w =>
    tE.post (fun v H1 z => imp_at_nm z) (imp_asg w)
  have plain : swapsWith e (some (.Name x px)) pos.line X.env = pure false → PS X (.Assign [.Name x px] e pos) (tS X.K (ex cf fu (.asg (.nm i) e'))) := fun hs =>
    PS.imp (ps_set g.nd h1 h2 (cE_ok n c e e' X he g).1 hs h3) conv
  cases e with
  | ListComp el gs scope p =>
    cases n with
    | zero => simp [cE] at he
    | succ n =>
      cases hB : (X.env.blockKind == .function && X.env.kindOf x == some .local && px.line == p.line && !(scope.names.any fun (n, k) => n == x && (k == .local || k == .cell))) with
      | false =>
        refine plain ?_
        show pure (X.env.blockKind == .function && X.env.kindOf x == some .local && px.line == p.line && !(scope.names.any fun (n, k) => n == x && (k == .local || k == .cell))) = pure false
        rw [hB]
      | true =>
        obtain ⟨tg, it, ifs, w, tg', cs, el', rfl, rfl, hsl, hI, hb, hg, ht, hel, hset⟩ := lc_parts g he
        have hsw : swapsWith (.ListComp el [⟨tg, it, ifs, 0⟩] scope p) (some (.Name x px)) pos.line X.env = pure true := by
          show pure (X.env.blockKind == .function && X.env.kindOf x == some .local && px.line == p.line && !(scope.names.any fun (n, k) => n == x && (k == .local || k == .cell))) = pure true
          rw [hB]
        have hl : X.env.scope.names.lookup x = some .local := by
          simp only [Bool.and_eq_true] at hB
          exact eq_of_beq hB.1.1.2
        have s1 := ps_setLc g.hc g.nd h1 hl hsw hI hb hg ht hel hset
        exact PS.imp (PS.orr s1 (ps_lock s1)) fun D σ H w => imp_lcA hsl (conv D σ H w)
  | SetComp a b d f => cases n <;> simp [cE] at he
  | DictComp a b d f g => cases n <;> simp [cE] at he
  | _ => exact plain rfl

/-! ### a, b = x, y -/
theorem nms_of : ∀ {es : List Expr} {xs : List Str}, nmsOf es = some xs → es.length = xs.length ∧ ∀ (i : Nat) x, xs[i]? = some x → ∃ p, es[i]? = some (.Name x p)
  | [], xs, h => by
    cases h
    exact ⟨rfl, fun i x e => by simp at e⟩
  | e :: es, xs, h => by
    unfold nmsOf at h
    split at h
    · rename_i y p
      rw [Option.map_eq_some_iff] at h
      obtain ⟨r, hr, ex⟩ := h
      subst ex
      obtain ⟨h1, h2⟩ := nms_of hr
      refine ⟨by simp [h1], fun i x e => ?_⟩
      cases i with
      | zero =>
        simp only [List.getElem?_cons_zero, Option.some.injEq] at e
        subst e
        exact ⟨p, rfl⟩
      | succ i =>
        simp only [List.getElem?_cons_succ] at e ⊢
        exact h2 i x e
    · cases h
theorem loc_of {c : Ct} {X : Cx} (g : Gd cf k c X) {x : Str} (h : (c.sc.names.lookup x == some .local) = true) : X.env.scope.names.lookup x = some .local := by
  rw [g.sc]
  exact eq_of_beq h
theorem sw_len {sc : Scope} {ts vs : List Expr} {xs : List Str} (h : swN sc ts vs = some (some xs)) : (ts.length = 2 ∨ ts.length = 3) ∧ vs.length = ts.length := by
  unfold swN at h
  split at h
  · cases h
  · rename_i q
    simp only [Bool.or_eq_true, Bool.not_eq_true', Bool.or_eq_false_iff, beq_eq_false_iff_ne, bne_iff_ne] at q
    constructor
    · by_cases h2 : ts.length = 2
      · exact .inl h2
      · by_cases h3 : ts.length = 3
        · exact .inr h3
        · exact absurd (.inl ⟨h2, h3⟩) q
    · exact Classical.byContradiction fun hn => q (.inr hn)
theorem imp_par {F : PySem.W.Frag} {σ : L2.St} {H : Hp} {D : Ends} {i j : Nat} {a b : E} (w : tS F (ex cf fu (.asg (.tp [.nm i, .nm j]) (.tup [a, b]))) D σ H) : tPar i j (tA F (evs cf [a, b])) D σ H := by
  obtain ⟨K, al, s, h, rfl, rh, re, p⟩ := w
  simp only [ex] at p
  rw [T.all_bind] at p
  simp only [ev] at p
  rw [T.all_bind] at p
  refine tA.seq rh re (T.all_mono (fun q z al1 H1 us e1 rh1 re1 rx => ?_) p)
  obtain ⟨vs, h1⟩ := q
  match vs, z, rx with
  | [v1, v2], z, rx =>
    obtain ⟨u1, r, e2, r1, rx⟩ := rx
    obtain ⟨u2, r', e3, r2, rx⟩ := rx
    cases rx
    subst e3 e2
    exact ⟨u1, u2, rfl, z al1 H1 _ e1 rh1 ((re1.set r1).set r2)⟩
  | [], z, rx => exact z.elim
  | [_], z, rx => exact z.elim
  | _ :: _ :: _ :: _, z, rx =>
    split at z
    · exact z.elim
    · exact z.elim
theorem imp_par3 {F : PySem.W.Frag} {σ : L2.St} {H : Hp} {D : Ends} {i j l : Nat} {a b c : E} (w : tS F (ex cf fu (.asg (.tp [.nm i, .nm j, .nm l]) (.tup [a, b, c]))) D σ H) : tPar3 i j l (tA F (evs cf [a, b, c])) D σ H := by
  obtain ⟨K, al, s, h, rfl, rh, re, p⟩ := w
  simp only [ex] at p
  rw [T.all_bind] at p
  simp only [ev] at p
  rw [T.all_bind] at p
  refine tA.seq rh re (T.all_mono (fun q z al1 H1 us e1 rh1 re1 rx => ?_) p)
  obtain ⟨vs, h1⟩ := q
  match vs, z, rx with
  | [v1, v2, v3], z, rx =>
    obtain ⟨u1, r, e2, r1, rx⟩ := rx
    obtain ⟨u2, r', e3, r2, rx⟩ := rx
    obtain ⟨u3, r'', e4, r3, rx⟩ := rx
    cases rx
    subst e4 e3 e2
    exact ⟨u1, u2, u3, rfl, z al1 H1 _ e1 rh1 (((re1.set r1).set r2).set r3)⟩
  | [], z, rx => exact z.elim
  | [_], z, rx => exact z.elim
  | [_, _], z, rx => exact z.elim
  | _ :: _ :: _ :: _ :: _, z, rx =>
    split at z
    · exact z.elim
    · exact z.elim
theorem dist_of : ∀ {xs : List Nat}, distinct xs = true → xs.Nodup
  | [], _ => List.nodup_nil
  | x :: xs, h => by
    unfold distinct at h
    rw [Bool.and_eq_true, Bool.not_eq_true'] at h
    refine List.nodup_cons.mpr ⟨fun m => ?_, dist_of h.2⟩
    have := h.1
    rw [List.contains_iff_mem.mpr m] at this
    cases this
theorem par_ok {n : Nat} {c : Ct} {X : Cx} (g : Gd cf k c X) {ts vs : List Expr} {kt kv : Nat} {pt pv pos : Pos} {xs : List Str} {is : List Nat} {e' : E} (h : swN c.sc ts vs = some (some xs)) (hi : optAll (cSt c) xs = some is) (hn : nmsOf ts = some xs)
    (hl : (xs.all fun x => c.sc.names.lookup x == some .local) = true) (hd : distinct is = true) (he : cE n c (.Tuple vs kv pv) = some e') :
    PS X (.Assign [.Tuple ts kt pt] (.Tuple vs kv pv) pos) (tS X.K (ex cf fu (.asg (.tp (is.map .nm)) e'))) := by
  have hw := sw_stores (kt := kt) (kv := kv) (pt := pt) (pv := pv) g h
  obtain ⟨l1, l2⟩ := sw_len h
  obtain ⟨l3, hg⟩ := nms_of hn
  cases n with
  | zero => simp [cE] at he
  | succ n =>
    simp only [cE, Option.map_eq_some_iff] at he
    obtain ⟨es, hes, ee⟩ := he
    subst ee
    have pa := pa_ok (cE_ok n) g hes
    have nd := dist_of hd
    match ts, l1, l2, l3, hg, hw with
    | [t1, t2], _, l2, l3, hg, hw =>
      match vs, l2, hes, hw, pa with
      | [a, b], _, hes, hw, pa =>
        match xs, l3, hg, hi, hw, hl with
        | [x, y], _, hg, hi, hw, hl =>
          obtain ⟨p1, e1⟩ := hg 0 x rfl
          obtain ⟨p2, e2⟩ := hg 1 y rfl
          cases e1
          cases e2
          obtain ⟨i, r, ei, hi1, hi⟩ := opt_cons hi
          obtain ⟨j, r, ej, hj1, hi⟩ := opt_cons hi
          cases hi
          subst ej ei
          obtain ⟨a', r, ea, _, hes⟩ := opt_cons hes
          obtain ⟨b', r', eb, _, hes⟩ := opt_cons hes
          cases hes
          subst eb ea
          have n1 := (cSt_of g hi1).1
          have n2 := (cSt_of g hj1).1
          simp only [List.all_cons, List.all_nil, Bool.and_true, Bool.and_eq_true] at hl
          simp only [List.nodup_cons, List.mem_singleton] at nd
          exact PS.imp (ps_par g.hc g.nd n1 n2 nd.1 (loc_of g hl.1) (loc_of g hl.2) pa hw rfl) fun D σ H w => imp_par w
    | [t1, t2, t3], _, l2, l3, hg, hw =>
      match vs, l2, hes, hw, pa with
      | [a, b, d], _, hes, hw, pa =>
        match xs, l3, hg, hi, hw, hl with
        | [x, y, z], _, hg, hi, hw, hl =>
          obtain ⟨p1, e1⟩ := hg 0 x rfl
          obtain ⟨p2, e2⟩ := hg 1 y rfl
          obtain ⟨p3, e3⟩ := hg 2 z rfl
          cases e1
          cases e2
          cases e3
          obtain ⟨i, r, ei, hi1, hi⟩ := opt_cons hi
          obtain ⟨j, r, ej, hj1, hi⟩ := opt_cons hi
          obtain ⟨l, r, el, hl1, hi⟩ := opt_cons hi
          cases hi
          subst el ej ei
          obtain ⟨a', r, ea, _, hes⟩ := opt_cons hes
          obtain ⟨b', r', eb, _, hes⟩ := opt_cons hes
          obtain ⟨d', r'', ed, _, hes⟩ := opt_cons hes
          cases hes
          subst ed eb ea
          have n1 := (cSt_of g hi1).1
          have n2 := (cSt_of g hj1).1
          have n3 := (cSt_of g hl1).1
          simp only [List.all_cons, List.all_nil, Bool.and_true, Bool.and_eq_true] at hl
          simp only [List.nodup_cons, List.mem_cons, List.mem_singleton, not_or, List.not_mem_nil, not_false_eq_true, and_true] at nd
          exact PS.imp (ps_par3 g.hc g.nd n1 n2 n3 nd.1.1 nd.1.2 nd.2.1 (loc_of g hl.1) (loc_of g hl.2.1) (loc_of g hl.2.2) pa hw rfl) fun D σ H w => imp_par3 w
    | [], q, _, _, _, _ => simp at q
    | [_], q, _, _, _, _ => simp at q
    | _ :: _ :: _ :: _ :: _, q, _, _, _, _ => simp at q
end
end Eng
/-! Statements, the whole. -/
namespace Eng
open PySem L2
section
variable {cf : Nat → List Val → Hs → T (Val × Hs)} {k : Nat} {fu : Nat}
theorem asg_ok {n : Nat} {c : Ct} {X : Cx} (g : Gd cf k c X) {t e : Expr} {t' : At} {e' : E} {pos : Pos} (ht : cAt n c t = some t') (he : cE n c e = some e') (hs : swapsWithSole [t] e pos.line X.env = pure false) (hw : swappedStores [t] e X.env = pure none) :
    PS X (.Assign [t] e pos) (tS X.K (ex cf fu (.asg t' e'))) :=
  PS.imp (ps_asg (cE_ok n c e e' X he g).1 (at_ok c X g n t t' ht) hs hw (by rw [at_cons ht]; rfl)) fun D σ H w => imp_asg w
theorem comp_sw {e : Expr} {t : Option Expr} {l : Nat} {env : PySem.Env} (h : isComp e = false) : swapsWith e t l env = pure false := by
  cases e <;> first | rfl | (simp [isComp] at h)
theorem cS_ok : ∀ n, IS cf k fu n
  | 0 => fun c st x X h g => by simp [cS] at h
  | n + 1 => fun c st x X h g => by
    have ih : IS cf k fu n := cS_ok n
    have ihE : IH cf k n := cE_ok n
    cases st with
    | Expr e pos =>
      simp only [cS] at h
      split at h
      · cases h
        exact PS.imp ps_doc fun D σ H w => imp_pass w
      · split at h
        · cases h
        · rename_i q
          rw [Option.map_eq_some_iff] at h
          obtain ⟨e', he, ex⟩ := h
          subst ex
          exact PS.imp (ps_expr (ihE c e e' X he g).1 (comp_sw q)) fun D σ H w => imp_ex w
    | Return e pos =>
      cases e with
      | none =>
        simp only [cS, Option.some.injEq] at h
        subst h
        exact PS.imp ps_retN fun D σ H w => imp_retN w
      | some e =>
        simp only [cS, Option.map_eq_some_iff] at h
        obtain ⟨e', he, ex⟩ := h
        subst ex
        exact PS.imp (ps_ret (ihE c e e' X he g).1) fun D σ H w => imp_ret w
    | If t a b pos =>
      simp only [cS] at h
      split at h
      · cases h
      · rename_i q
        simp only [Option.bind_eq_some_iff, Option.map_eq_some_iff] at h
        obtain ⟨t', ht, a', ha, b', hb, ex⟩ := h
        subst ex
        exact PS.imp (ps_if ((ihE c t t' X ht g).2 q) (pss_ok ih g ha) (pss_ok ih g hb)) fun D σ H w => imp_ifs w
    | While t b o pos =>
      simp only [cS] at h
      split at h
      · cases h
      · rename_i q
        simp only [Option.bind_eq_some_iff, Option.map_eq_some_iff] at h
        obtain ⟨t', ht, b', hb, ex⟩ := h
        subst ex
        rw [Bool.or_eq_false_iff, Bool.not_eq_false'] at q
        have eo : o = [] := List.isEmpty_iff.mp q.2
        subst eo
        exact PS.imp (ps_while g.passes ((ihE c t t' X ht g).2 q.1) (pss_ok ih g hb)) fun D σ H w => imp_whl w
    | For tg it b o pos =>
      simp only [cS] at h
      split at h
      · cases h
      · rename_i q
        simp only [Option.bind_eq_some_iff, Option.map_eq_some_iff] at h
        obtain ⟨w, hw, tg', ht, b', hb, ex⟩ := h
        subst ex
        have eo : o = [] := List.isEmpty_iff.mp q
        subst eo
        have f := ps_for (pos := pos) g.passes g.hc (cI_ok ihE g hw) (tg_ok c X g n tg tg' ht) (pss_ok ih g hb) (cI_set hw X.env)
        exact PS.imp (PS.orr f (ps_lock f)) fun D σ H w => imp_forA w
    | Assign ts e pos =>
      simp only [cS] at h
      split at h
      · rename_i t
        split at h
        · rename_i ts' kt pt
          split at h
          · rename_i vs kv pv
            split at h
            · cases h
            · rename_i q
              simp only [Option.bind_eq_some_iff, Option.map_eq_some_iff] at h
              obtain ⟨e', he, t', ht, ex⟩ := h
              subst ex
              exact asg_ok g ht he rfl (sw_stores g q)
            · rename_i xs q
              split at h
              · rename_i is q1 q2 q3
                split at h
                · rename_i q4
                  rw [Option.map_eq_some_iff] at h
                  obtain ⟨e', he, ex⟩ := h
                  subst ex
                  exact par_ok g q q1 (of_decide_eq_true q2) q3 q4 he
                · cases h
              · cases h
          · rename_i hne
            split at h
            · cases h
            · rename_i q
              simp only [Option.bind_eq_some_iff, Option.map_eq_some_iff] at h
              obtain ⟨e', he, t', ht, ex⟩ := h
              subst ex
              exact asg_ok g ht he (by cases e <;> first | rfl | (simp [isComp] at q)) (by cases e <;> first | rfl | exact absurd rfl (hne _ _ _))
        · rename_i hne
          simp only [Option.bind_eq_some_iff, Option.map_eq_some_iff] at h
          obtain ⟨e', he, t', ht, ex⟩ := h
          subst ex
          cases n with
          | zero => simp [cAt] at ht
          | succ m =>
            cases t with
            | Name x px =>
              simp only [cAt, Option.map_eq_some_iff] at ht
              obtain ⟨i, hi, et⟩ := ht
              subst et
              exact set_name g hi he
            | Tuple a b c => exact absurd rfl (hne _ _ _)
            | Subscript o i p => exact asg_ok g ht he (by cases e <;> rfl) (by cases e <;> rfl)
            | _ => simp [cAt] at ht
      · cases h
    | AugAssign t op e pos =>
      simp only [cS] at h
      split at h
      · cases h
      · rename_i q
        split at h
        · rename_i x px
          simp only [Option.bind_eq_some_iff, Option.map_eq_some_iff] at h
          obtain ⟨e', he, i, hi, o, ho, ex⟩ := h
          subst ex
          obtain ⟨h1, h2, h3⟩ := cSt_of g hi
          have eo : pyB o = op := by cases op <;> simp only [cB, Option.some.injEq, reduceCtorEq] at ho <;> subst ho <;> rfl
          subst eo
          exact PS.imp (ps_aug g.nd h1 h2 (ihE c e e' X he g).1 (ip_ok o) h3) fun D σ H w => imp_aug w
        · rename_i o i p
          split at h
          · cases h
          · rename_i q2
            simp only [Option.bind_eq_some_iff, Option.map_eq_some_iff] at h
            obtain ⟨o', ho, i', hi, e', he, b, hb, ex⟩ := h
            subst ex
            have eo : pyB b = op := by cases op <;> simp only [cB, Option.some.injEq, reduceCtorEq] at hb <;> subst hb <;> rfl
            subst eo
            exact PS.imp (ps_augS (ihE c o o' X ho g).1 (ihE c i i' X hi g).1 get_ok (ihE c e e' X he g).1 (ip_ok b) set_ok (by cases i <;> first | (intros; rfl) | (simp [isSl] at q2))) fun D σ H w => imp_augS w
        · cases h
    | Raise a b p =>
      simp only [cS, Option.some.injEq] at h
      subst h
      exact PS.imp ps_never fun D σ H w => imp_nev w
    | Pass p =>
      simp only [cS, Option.some.injEq] at h
      subst h
      exact PS.imp ps_pass fun D σ H w => imp_pass w
    | Break p =>
      simp only [cS, Option.some.injEq] at h
      subst h
      exact PS.imp ps_break fun D σ H w => imp_brk w
    | Continue p =>
      simp only [cS, Option.some.injEq] at h
      subst h
      exact PS.imp ps_continue fun D σ H w => imp_cnt w
    | _ => simp [cS] at h
theorem cD_ok {c : Ct} {X : Cx} (g : Gd cf k c X) {b : List Stmt} {xs : List S} (h : cD c b = some xs) : PSs X b (tS X.K (exs cf fu xs)) := pss_ok (cS_ok 60) g h
end
end Eng
/-! Functions of the text. -/
namespace Eng
open PySem L2
/-! ### behind a call: what was made within becomes a value -/
section
variable {K : Cn} {al al' : List Addr} {H H' H0 : Hp}
theorem StT.shr (sub : ∀ a, a ∈ al → a ∈ al') {a : Addr} {us : List V} (h : StT K al' H' a us) : StT K al H' a us :=
  h.imp (fun z => ⟨z.1, fun m => z.2.1 (sub a m), z.2.2⟩) id
theorem StL.shr (sub : ∀ a, a ∈ al → a ∈ al') {a : Addr} {us : List V} (h : StL K al' H' a us) : StL K al H' a us :=
  h.imp (fun z => ⟨z.1, fun m => z.2.1 (sub a m), z.2.2⟩) id
mutual
theorem RV.shr (sub : ∀ a, a ∈ al → a ∈ al') (pre : ∀ (l : Nat) a, al[l]? = some a → al'[l]? = some a) : ∀ {v : Val} {u0 u : V}, RV K al H0 v u0 → RV K al' H' v u → RV K al H' v u
  | .non, _, _, _, h => by simp only [RV] at h ⊢; exact h
  | .bl b, _, _, _, h => by simp only [RV] at h ⊢; exact h
  | .int i, _, _, _, h => by simp only [RV] at h ⊢; exact h
  | .str x, _, _, _, h => by simp only [RV] at h ⊢; exact h
  | .tup xs, _, _, h0, h => by
    simp only [RV] at h0 h ⊢
    obtain ⟨a, us, e, s, r⟩ := h
    obtain ⟨_, us0, _, _, r0⟩ := h0
    exact ⟨a, us, e, s.shr sub, RVs.shr sub pre r0 r⟩
  | .tl xs, _, _, h0, h => by
    simp only [RV] at h0 h ⊢
    obtain ⟨a, us, e, s, r⟩ := h
    obtain ⟨_, us0, _, _, r0⟩ := h0
    exact ⟨a, us, e, ⟨s.1, fun m => s.2.1 (sub a m), s.2.2⟩, RVs.shr sub pre r0 r⟩
  | .ref l, _, _, h0, h => by
    simp only [RV] at h0 h ⊢
    obtain ⟨a, e, q⟩ := h
    obtain ⟨a0, e0, q0⟩ := h0
    have := pre l a0 q0
    rw [q] at this
    cases this
    exact ⟨a, e, q0⟩
  | .scr, _, _, h0, h => by
    simp only [RV] at h ⊢
    obtain ⟨a, ns, e, s, r⟩ := h
    exact ⟨a, ns, e, s.shr sub, r⟩
  | .sl a ns, _, _, h0, h => by
    simp only [RV] at h ⊢
    exact ⟨h.1, h.2.shr sub⟩
theorem RVs.shr (sub : ∀ a, a ∈ al → a ∈ al') (pre : ∀ (l : Nat) a, al[l]? = some a → al'[l]? = some a) : ∀ {v : List Val} {u0 u : List V}, RVs K al H0 v u0 → RVs K al' H' v u → RVs K al H' v u
  | [], _, _, _, h => by simp only [RVs] at h ⊢; exact h
  | x :: xs, _, _, h0, h => by
    simp only [RVs] at h0 h ⊢
    obtain ⟨u, r, e, h1, h2⟩ := h
    obtain ⟨u0, r0, e0, h01, h02⟩ := h0
    exact ⟨u, r, e, RV.shr sub pre h01 h1, RVs.shr sub pre h02 h2⟩
end
theorem fz_ok {h' : Hs} (rh : RH K al' h' H') (sub : ∀ a, a ∈ al → a ∈ al') (pre : ∀ (l : Nat) a, al[l]? = some a → al'[l]? = some a) (lk : ∀ l, h'.lk.contains l = true → l < al.length) :
    ∀ (k : Nat) {v v' : Val} {u : V}, fzV h' al.length k v = some v' → RV K al' H' v u → RV K al H' v' u
  | 0, v, v', u, e, r => by simp [fzV] at e
  | k + 1, v, v', u, e, r => by
    have rows : ∀ {xs ys : List Val} {us : List V}, optAll (fzV h' al.length k) xs = some ys → RVs K al' H' xs us → RVs K al H' ys us := by
      intro xs
      induction xs with
      | nil =>
        intro ys us e r
        cases e
        simp only [RVs] at r ⊢
        exact r
      | cons x xs ih =>
        intro ys us e r
        obtain ⟨y, w, e1, e2, e3⟩ := opt_cons e
        subst e1
        simp only [RVs] at r ⊢
        obtain ⟨u, us', e, r1, r2⟩ := r
        exact ⟨u, us', e, fz_ok rh sub pre lk k e2 r1, ih e3 r2⟩
    cases v with
    | non => cases e; simp only [RV] at r ⊢; exact r
    | bl b => cases e; simp only [RV] at r ⊢; exact r
    | int b => cases e; simp only [RV] at r ⊢; exact r
    | str b => cases e; simp only [RV] at r ⊢; exact r
    | scr =>
      cases e
      simp only [RV] at r ⊢
      obtain ⟨a, ns, e, s, r⟩ := r
      exact ⟨a, ns, e, s.shr sub, r⟩
    | sl a ns =>
      cases e
      simp only [RV] at r ⊢
      exact ⟨r.1, r.2.shr sub⟩
    | tup xs =>
      simp only [fzV, Option.map_eq_some_iff] at e
      obtain ⟨ys, e, ev⟩ := e
      subst ev
      simp only [RV] at r ⊢
      obtain ⟨a, us, e', s, r⟩ := r
      exact ⟨a, us, e', s.shr sub, rows e r⟩
    | tl xs =>
      simp only [fzV, Option.map_eq_some_iff] at e
      obtain ⟨ys, e, ev⟩ := e
      subst ev
      simp only [RV] at r ⊢
      obtain ⟨a, us, e', s, r⟩ := r
      exact ⟨a, us, e', ⟨s.1, fun m => s.2.1 (sub a m), s.2.2⟩, rows e r⟩
    | ref l =>
      simp only [RV] at r
      obtain ⟨a, eu, ea⟩ := r
      simp only [fzV] at e
      split at e
      · rename_i hl
        cases e
        have hl : l < al.length := Nat.blt_eq.mp hl
        simp only [RV]
        refine ⟨a, eu, ?_⟩
        have := pre l al[l] (List.getElem?_eq_getElem hl)
        rw [ea] at this
        cases this
        exact List.getElem?_eq_getElem hl
      · rename_i hl
        have hl : ¬ l < al.length := fun z => hl (Nat.blt_eq.mpr z)
        split at e
        · rename_i xs hx
          rw [Option.map_eq_some_iff] at e
          obtain ⟨ys, e, ev⟩ := e
          subst ev
          obtain ⟨us, q, rs⟩ := rh.ob l a _ ea hx
          have nk : h'.lk.contains l = false := by
            cases q : h'.lk.contains l with
            | false => rfl
            | true => exact absurd (lk l q) hl
          rw [nk, if_neg Bool.false_ne_true] at q
          simp only [RV]
          have ma : a ∈ al' := List.mem_of_getElem? ea
          refine ⟨a, us, eu, ⟨q, fun m => ?_, fun m => (rh.fb a m).1 ma⟩, rows e rs⟩
          obtain ⟨j, hj, ej⟩ := List.mem_iff_getElem.mp m
          have e1 := pre j a (by rw [List.getElem?_eq_getElem hj, ej])
          have := rh.inj e1 ea
          omega
        · cases e
/-- the heap behind a call that wrote nothing -/
theorem RH.past {h h' : Hs} (rh : RH K al h H) (rh' : RH K al' h' H') (e : Ext al ⟨h.os, h.n, h.n, h.lk⟩ H al' h' H') (lo : h.n ≤ h'.lo) : RH K al h H' ∧ Ext al h H al h H' := by
  have sub : ∀ a, a ∈ al → a ∈ al' := fun a m => by
    obtain ⟨j, hj, ej⟩ := List.mem_iff_getElem.mp m
    exact List.mem_of_getElem? (e.pre j a (by rw [List.getElem?_eq_getElem hj, ej]))
  refine ⟨⟨rh.len, rh.os, rh.nd, rh.lkb, fun a m => ⟨(rh.fb a m).1, (rh'.fb a m).2⟩, fun l a o ea eo => ?_⟩, { pre := fun _ _ z => z, keep := fun a o n z => ⟨(e.keep a o n z).1, n⟩, frz := e.frz, lo := Nat.le_refl _, sm := fun _ _ _ => rfl, n := Nat.le_refl _, lk := rfl }⟩
  have hl : l < h.n := Hs.get_lt eo
  have eo' : h'.get l = some o := (e.sm l (Nat.lt_of_lt_of_le hl lo) hl).trans eo
  have x0 := rh.ob l a o ea eo
  have x := rh'.ob l a o (e.pre l a ea) eo'
  have elk : h'.lk = h.lk := e.lk
  rw [elk] at x
  cases o with
  | lst xs =>
    obtain ⟨us0, q0, r0⟩ := x0
    obtain ⟨us, q, r⟩ := x
    exact ⟨us, q, r0.shr sub e.pre r⟩
  | tape =>
    obtain ⟨sa, ns, p, b, s, q, sq, rest⟩ := x
    exact ⟨sa, ns, p, b, s, q, sq.shr sub, rest⟩
end
section
variable {cf : Nat → List Val → Hs → T (Val × Hs)} {fu : Nat}
theorem start_ok {K : Cn} {al : List Addr} {H : Hp} {vs : List Val} {us : List V} {N : List Str} (r : RVs K al H vs us) : RE K al H (vs.map some ++ List.replicate (N.length - vs.length) none) (L2.start N us) := by
  have hl := r.length
  refine ⟨by simp [L2.start, hl], fun i v e => ?_⟩
  by_cases hi : i < vs.length
  · rw [List.getElem?_append_left (by simpa using hi), List.getElem?_map] at e
    cases q : vs[i]? with
    | none => rw [q] at e; cases e
    | some w =>
      rw [q] at e
      cases e
      obtain ⟨u, hu, ru⟩ := r.get q
      refine ⟨u, ?_, ru⟩
      unfold L2.start
      rw [List.getElem?_append_left (by simp; omega), List.getElem?_map, hu]
      rfl
  · rw [List.getElem?_append_right (by simpa using hi), List.getElem?_replicate] at e
    split at e <;> cases e
theorem run_ok {F : PySem.W.Frag} {K : Cn} {al : List Addr} {h : Hs} {H : Hp} {Q : VK} {vs : List Val} {us : List V} {N : List Str} {body : List S} {fz : Bool} (eK : K.K = F) (rh : RH K al h H) (rs : RVs K al H vs us)
    (p : (runF cf fu N.length body fz vs h).All (Pt K al h H Q)) : tS F (exs cf fu body) { nx := fun _ H' => Q .non H', rt := Q } (L2.start N us) H := by
  have hn : h.n = al.length := rh.len.symm
  have rh0 : RH K al ⟨h.os, h.n, h.n, h.lk⟩ H := ⟨rh.len, rh.os, rh.nd, rh.lkb, rh.fb, fun l a o e1 e2 => rh.ob l a o e1 e2⟩
  refine ⟨K, al, _, ⟨h.os, h.n, h.n, h.lk⟩, eK, rh0, start_ok rs, T.all_mono (fun r z al1 H1 σ1 e1 rh1 re1 => ?_) (T.all_bind.mp p)⟩
  obtain ⟨fl, s1, h1⟩ := r
  have go : ∀ {v : Val} {u : V}, RV K al1 H1 v u → (match fz && Nat.ble h.n h1.lo, fzV h1 h.n 12 v with
      | true, some v' => T.ok (v', h)
      | _, _ => .ok (v, ⟨h1.os, h1.n, min h.lo h1.lo, h.lk⟩)).All (Pt K al h H Q) → Q u H1 := fun {v u} rv z => by
    split at z
    · rename_i v' c1 c2
      rw [Bool.and_eq_true] at c1
      have lo := Nat.ble_eq.mp c1.2
      have e1 : Ext al ⟨h.os, h.n, h.n, h.lk⟩ H al1 h1 H1 := e1
      have rh1 : RH K al1 h1 H1 := rh1
      obtain ⟨b1, b2⟩ := rh.past rh1 e1 lo
      have sub : ∀ a, a ∈ al → a ∈ al1 := fun a m => by
        obtain ⟨j, hj, ej⟩ := List.mem_iff_getElem.mp m
        exact List.mem_of_getElem? (e1.pre j a (by rw [List.getElem?_eq_getElem hj, ej]))
      have elk : h1.lk = h.lk := e1.lk
      rw [hn] at c2
      exact z al H1 u b2 b1 (fz_ok rh1 sub e1.pre (fun l q => by rw [elk] at q; rw [← hn]; exact rh.lkb l q) 12 c2 rv)
    · have elk : h1.lk = h.lk := e1.lk
      refine z al1 H1 u { pre := e1.pre, keep := e1.keep, frz := e1.frz, lo := Nat.min_le_left _ _, sm := fun l q1 q2 => e1.sm l (Nat.lt_of_lt_of_le q1 (Nat.min_le_right _ _)) q2, n := e1.n, lk := rfl } ⟨rh1.len, rh1.os, rh1.nd, fun l q => ?_, rh1.fb, fun l a o q1 q2 => ?_⟩ rv
      · exact rh1.lkb l (by show h1.lk.contains l = true; rw [elk]; exact q)
      · have q2 : h1.get l = some o := q2
        have := rh1.ob l a o q1 q2
        rw [elk] at this
        exact this
  cases fl with
  | nx => exact go .non z
  | bk => exact z.elim
  | ct => exact z.elim
  | rt v => exact fun u ru => go ru z
end
end Eng
/-! All functions of the text. -/
namespace Eng
open PySem L2
def rP (F : PySem.W.Frag) (g : List Val → Hs → T (Val × Hs)) : List V → Hp → VK → Prop := fun xs H Q => ∃ K al h vs, K.K = F ∧ RH K al h H ∧ RVs K al H vs xs ∧ (g vs h).All (Pt K al h H Q)
def startV (vs : List Val) (h : Hs) : T (Val × Hs) := match vs with
  | [.scr] => .ok (.ref h.n, h.new .tape)
  | _ => .no
structure EnvOk (K : PySem.W.Frag) (mg : Str → Option Value) (gl : List (Str × Gk)) (adr : List Addr) : Prop where
  blt : ∀ x, gl.lookup x = some .blt → mg x = none
  con : ∀ x v, gl.lookup x = some (.con v) → ∃ u w, mg x = some u ∧ L2.RelV w u ∧ ∀ K' al H, K'.K = K → RV K' al H v w
  fn : ∀ x i, gl.lookup x = some (.fn i) → ∃ f, adr[i]? = some f ∧ mg x = some (.ref f) ∧ PySem.W.keepIn K (.ref f) = true
/-- a def of the text, and what the compiler makes of it -/
structure CodeOk (K : PySem.W.Frag) (gl : List (Str × Gk)) (mu : List (Nat × Nat)) (f : Addr) (np nN : Nat) (body : List S) : Prop where
  ex : ∃ (x qual : Str) (st : Stmt) (fd : FuncData) (N ps : List Str), Fun K x qual st f fd ∧ FnScope N ps (defScope st) ∧ N.length = nN ∧ ps.length = np ∧ cD ⟨N, defScope st, fun _ => true, gl, mu⟩ (defBody st) = some body ∧
    ∀ (kV doc pm : Value) (an : Option Addr) (cdv ct : Value) (us : List Value), us.length = ps.length → bindArgs (PySem.W.fnOf x qual (defArgs st) (defBody st) (defScope st) .none kV doc pm an cdv ct) ⟨us, []⟩ = pure (ps.zip us)
structure StarOk (K : PySem.W.Frag) (gl : List (Str × Gk)) (mu : List (Nat × Nat)) (f : Addr) (np nN : Nat) (body : List S) : Prop where
  ex : ∃ (x qual : Str) (st : Stmt) (fd : FuncData) (N ps : List Str) (pv : Str), Fun K x qual st f fd ∧ FnScope N (ps ++ [pv]) (defScope st) ∧ N.length = nN ∧ ps.length + 1 = np ∧ cD ⟨N, defScope st, fun _ => true, gl, mu⟩ (defBody st) = some body ∧
    ∀ (kV doc pm : Value) (an : Option Addr) (cdv ct : Value) (us rest : List Value), us.length = ps.length → bindArgs (PySem.W.fnOf x qual (defArgs st) (defBody st) (defScope st) .none kV doc pm an cdv ct) ⟨us ++ rest, []⟩ = (newTuple rest >>= fun t => pure (ps.zip us ++ [(pv, t)]))
def PrimOk (P : Program) (w : World) (K : PySem.W.Frag) (mg : Str → Option Value) (base : Heap) (f : Addr) (g : List Val → Hs → T (Val × Hs)) : Prop := ∀ k, FnR P w K mg base CX0 (k + 1) f (fun vs H Q E => rP K g vs H Q)
def EntOk (P : Program) (w : World) (K : PySem.W.Frag) (mg : Str → Option Value) (base : Heap) (gl : List (Str × Gk)) (mu : List (Nat × Nat)) (f : Addr) : Fn → Prop
  | .code np va nN body fz => match va with
    | false => CodeOk K gl mu f np nN body
    | true => StarOk K gl mu f np nN body
  | .start => PrimOk P w K mg base f startV
  | .pick => PrimOk P w K mg base f pickV
section
variable {P : Program} {w : World} {K : PySem.W.Frag} {mg : Str → Option Value} {base : Heap} {gl : List (Str × Gk)} {mu : List (Nat × Nat)} {adr : List Addr} {tab : List Fn} {fu : Nat}
theorem good_of {d : Nat} (hE : EnvOk K mg gl adr) (ih : ∀ (i : Nat) (f : Addr), adr[i]? = some f → FnR P w K mg base CX0 d f (fun vs H Q E => rF K (callN tab fu d) i vs H Q)) {N ps : List Str} {qual : Str} {scope : Scope} (S : FnScope N ps scope) {f : Addr} {cdv : Value} {A : Around} {outer : List PySem.Env} {s : Shared} {H : Hp} {E : XK}
    (hr : Room d (A.deeper (PyProof.Rows.envOfC qual scope s.heap.objs.size f cdv))) : Gd (callN tab fu d) d ⟨N, scope, fun _ => true, gl, mu⟩ (cxOf CX0 P w K mg base N qual scope f cdv A outer s H E).nox := by
  refine ⟨rfl, S.nd, rfl, rfl, S.kind, fun x h => rfl, hr, fun e s h => h, hE.blt, hE.con, fun x i e => ?_⟩
  obtain ⟨g, h1, h2, h3⟩ := hE.fn x i e
  refine ⟨g, h2, h3, fun X' sm pins s' σ H' xs us Q I r q => ?_⟩
  have F := ih i g h1
  have e1 : X'.prog = P := sm.prog
  have e2 : X'.w = w := sm.w
  have e3 : X'.K = K := sm.K
  have e4 : X'.mg = mg := sm.mg
  have e5 : X'.base = base := sm.base
  have e6 : X'.A = A.deeper (PyProof.Rows.envOfC qual scope s.heap.objs.size f cdv) := sm.A
  rw [← e1, ← e2, ← e3, ← e4, ← e5] at F
  exact wpAny_call (run_fnR F (by rw [e6]; exact hr) pass0 I r (by rw [e3]; exact q))
theorem all_ok (hE : EnvOk K mg gl adr) (hT : ∀ (i : Nat) (f : Addr), adr[i]? = some f → ∃ fn, tab[i]? = some fn ∧ EntOk P w K mg base gl mu f fn) : ∀ (d i : Nat) (f : Addr), adr[i]? = some f → FnR P w K mg base CX0 d f (fun vs H Q E => rF K (callN tab fu d) i vs H Q)
  | 0, i, f, ha => by
    intro A outer s H us vs Q E hr e0 r hs
    obtain ⟨K', al, h, xs, eK, rh, rs, p⟩ := hs
    exact p.elim
  | d + 1, i, f, ha => by
    have ih := all_ok hE hT d
    obtain ⟨fn, ht, he⟩ := hT i f ha
    cases fn with
    | start =>
      refine FnR.imp (he d) fun vs H Q E ⟨K', al, h, xs, eK, rh, rs, p⟩ => ⟨K', al, h, xs, eK, rh, rs, ?_⟩
      unfold callN at p
      rw [ht] at p
      exact p
    | pick =>
      refine FnR.imp (he d) fun vs H Q E ⟨K', al, h, xs, eK, rh, rs, p⟩ => ⟨K', al, h, xs, eK, rh, rs, ?_⟩
      unfold callN at p
      rw [ht] at p
      exact p
    | code np va nN body fz =>
      cases va with
      | false =>
        obtain ⟨x, qual, st, fd, N, ps, F, S, eN, ep, hc, hb⟩ := CodeOk.ex he
        subst eN ep
        have G : FnOk P w K mg base CX0 (d + 1) f fd ps fun vs H Q E => vs.length = ps.length ∧ rP K (runF (callN tab fu d) fu N.length body fz) vs H Q := by
          refine F.ok S (fun vs H Q E h => h.1) fun cdv A outer s H vs Q E hr hsp => ?_
          obtain ⟨hl, K', al, h, xs, eK, rh, rs, p⟩ := hsp
          exact ⟨_, cD_ok (good_of hE ih S hr) hc, run_ok eK rh rs p⟩
        refine FnR.imp (FnOk.raw G (F.binds hb) .nil) fun vs H Q E ⟨K', al, h, xs, eK, rh, rs, p⟩ => ?_
        rw [List.append_nil]
        unfold callN at p
        rw [ht] at p
        simp only at p
        split at p
        · rename_i hl
          exact ⟨by rw [← rs.length]; exact eq_of_beq hl, K', al, h, xs, eK, rh, rs, p⟩
        · exact p.elim
      | true =>
        obtain ⟨x, qual, st, fd, N, ps, pv, F, S, eN, ep, hc, hb⟩ := StarOk.ex he
        subst eN ep
        obtain ⟨oc, od, kV, doc, pm, an, cdv, ct, osl, rfl, lk, hcd⟩ := F.ex
        refine FnR.imp (StX.fn_star lk hcd S StX.cxUp_none (fun us rest hl => hb kV doc pm an cdv ct us rest hl) (sp := fun vs H Q E => rP K (runF (callN tab fu d) fu N.length body fz) vs H Q) fun A outer s H vs Q E hr hsp => ?_) fun vs H Q E ⟨K', al, h, xs, eK, rh, rs, p⟩ => ?_
        · obtain ⟨K', al, h, xs, eK, rh, rs, p⟩ := hsp
          exact ⟨_, (cD_ok (good_of hE ih S hr) hc).nox, run_ok eK rh rs p⟩
        · unfold callN at p
          rw [ht] at p
          simp only at p
          split at p
          · rename_i hl
            rw [Bool.and_eq_true, Nat.ble_eq] at hl
            have hs := small_lt hl.2
            have el := rs.length
            refine ⟨vs.take ps.length, vs.drop ps.length, (List.take_append_drop _ _).symm, by rw [List.length_take]; omega, by rw [List.length_drop]; omega, fun a fr => ?_⟩
            have k := Kp.free rh fr (o := .tup (vs.drop ps.length))
            have rh1 := rh.freeU fr (o := .tup (vs.drop ps.length))
            have x1 := Ext.freeU rh fr (o := .tup (vs.drop ps.length))
            refine ⟨K', al, h, _, eK, rh1, ?_, T.all_mono (fun q z al' H' u e r v => z al' H' u (x1.trans e) r v) p⟩
            refine RVs.append ((rs.mono k).take _) (.one ?_)
            simp only [RV]
            exact ⟨a, _, rfl, .inl ⟨.inl upd_same, rh.free fr, rh.nfb fr⟩, (rs.mono k).drop _⟩
          · exact p.elim
end
end Eng
/-! The draws from the script. -/
namespace Eng
open PySem L2
def ci (i : Int) : E := .c (.int i)
def sv (i : Int) : E := .sub (.v 0) (ci i)
def pickB : List S := [
  .ite (.and (.cmp .eq (sv 2) (ci 0)) (.cmp .lt (sv 1) (.bi .len false [sv 0])))
    [.asg (.nm 2) (.bi .abs false [.sub (sv 0) (sv 1)]),
      .asg (.sb (.v 0) (ci 1)) (.bin .add false (sv 1) (ci 1)),
      .ite (.cmp .ge (.v 2) (.bin .pow false (ci 10) (ci 18)))
        [.asg (.sb (.v 0) (ci 2)) (.v 2)]
        [.asg (.sb (.v 0) (ci 3)) (.bin .add false (.bin .mod false (.bi .int false [.bin .add false (.bin .mul false (sv 3) (ci 48271)) (.v 2)]) (ci 2147483646)) (ci 1))]] [],
  .ite (.cmp .gt (sv 2) (ci 0))
    [.asg (.nm 3) (.bin .mod false (.bi .int false [sv 2]) (.v 1)),
      .asg (.sb (.v 0) (ci 2)) (.bin .fdiv false (sv 2) (.v 1)),
      .ret (.v 3)] [],
  .asg (.sb (.v 0) (ci 3)) (.bin .mod false (.bi .int false [.bin .mul false (sv 3) (ci 48271)]) (ci 2147483647)),
  .ret (.bin .mod false (.bi .int false [.bin .add false (.bin .fdiv false (sv 3) (ci 5)) (.bin .mod false (.bi .int false [.bin .mul false (sv 3) (sv 3)]) (ci 2147483629))]) (.v 1))]
section
variable {cf : Nat → List Val → Hs → T (Val × Hs)} {fu : Nat} {sa : Addr} {ns : List Int} {lo : Nat} {p b s n : Int} {e : Env}
def tpH (sa : Addr) (ns : List Int) (lo : Nat) (p b s : Int) : Hs := ⟨[.lst [.sl sa ns, .int p, .int b, .int s]], 1, lo, []⟩
theorem ev_s0 : ev cf (sv 0) (some (.ref 0) :: e) (tpH sa ns lo p b s) = .ok (.sl sa ns, tpH sa ns lo p b s) := rfl
theorem ev_s1 : ev cf (sv 1) (some (.ref 0) :: e) (tpH sa ns lo p b s) = .ok (.int p, tpH sa ns lo p b s) := rfl
theorem ev_s2 : ev cf (sv 2) (some (.ref 0) :: e) (tpH sa ns lo p b s) = .ok (.int b, tpH sa ns lo p b s) := rfl
theorem ev_s3 : ev cf (sv 3) (some (.ref 0) :: e) (tpH sa ns lo p b s) = .ok (.int s, tpH sa ns lo p b s) := rfl
theorem ev_ci {i : Int} {h : Hs} : ev cf (ci i) e h = .ok (.int i, h) := rfl
theorem ev_st {h : Hs} : ev cf (.v 0) (some (.ref 0) :: e) h = .ok (.ref 0, h) := rfl
theorem set1 {x : Int} : setV (.ref 0) (.int 1) (.int x) (tpH sa ns lo p b s) = .ok (tpH sa ns (min lo 0) x b s) := rfl
theorem set2 {x : Int} : setV (.ref 0) (.int 2) (.int x) (tpH sa ns lo p b s) = .ok (tpH sa ns (min lo 0) p x s) := rfl
theorem set3 {x : Int} : setV (.ref 0) (.int 3) (.int x) (tpH sa ns lo p b s) = .ok (tpH sa ns (min lo 0) p b x) := rfl
theorem pick_len : ev cf (.bi .len false [sv 0]) (some (.ref 0) :: e) (tpH sa ns lo p b s) = .ok (.int (ns.length : Int), tpH sa ns lo p b s) := by
  simp only [ev, evs, ev_s0, T.bind, biV, items, List.length_map]
theorem pick_cell {c : Int} (h0 : 0 ≤ p) (hc : ns[p.toNat]? = some c) : ev cf (.sub (sv 0) (sv 1)) (some (.ref 0) :: e) (tpH sa ns lo p b s) = .ok (.int c, tpH sa ns lo p b s) := by
  have hl : p < ns.length := by
    have := (List.getElem?_eq_some_iff.mp hc).1
    omega
  simp only [ev, ev_s0, ev_s1, T.bind, subV, items, ixI, List.length_map, h0, hl, decide_true, if_true, List.getElem?_map, hc, Option.map_some]

def PkP (sa : Addr) (ns : List Int) (n : Int) (r : Rs) : Prop := ∃ i p b s lo, r.1 = Fl.rt (.int i) ∧ r.2.2 = tpH sa ns lo p b s ∧ 0 ≤ i ∧ i < n ∧ 0 ≤ p ∧ p ≤ 63 ∧ 0 ≤ b ∧ 0 ≤ s ∧ s ≤ 2147483647
theorem log2_lt {i : Int} {k m : Nat} (h : i.natAbs < 2 ^ k) (h2 : k ≤ m) (h3 : 0 < m) : Nat.blt i.natAbs.log2 m = true := by
  rw [Nat.blt_eq]
  by_cases e : i.natAbs = 0
  · rw [e]
    exact h3
  · exact Nat.lt_of_lt_of_le ((Nat.log2_lt e).mpr h) h2
theorem bop_mulS {i j : Int} (h1 : i.natAbs < 2 ^ 64) (h2 : j.natAbs < 2 ^ 64) : bopI .mul i j = some (i * j) := by
  simp only [bopI, log2_lt h1 (by decide : 64 ≤ 400000) (by decide), log2_lt h2 (by decide : 64 ≤ 400000) (by decide), Bool.and_self, if_true]
theorem bop_modS {i j : Int} (h : 0 < j) : bopI .mod i j = some (i % j) := by
  simp only [bopI, h, decide_true, if_true]
theorem bop_divS {i j : Int} (h : 0 < j) (h2 : j.natAbs < 2 ^ 64) : bopI .fdiv i j = some (i / j) := by
  simp only [bopI, h, decide_true, log2_lt h2 (by decide : 64 ≤ 9000) (by decide), Bool.and_self, if_true]
section
variable {h h1 h2 : Hs} {st : Env} {a c : E} {i j k : Int}
theorem evBin {op : Bop} (e1 : ev cf a st h = .ok (.int i, h1)) (e2 : ev cf c st h1 = .ok (.int j, h2)) (e3 : bopI op i j = some k) : ev cf (.bin op false a c) st h = .ok (.int k, h2) := by
  simp only [ev, e1, e2, T.bind, bopV, e3, T.of]
theorem evAdd (e1 : ev cf a st h = .ok (.int i, h1)) (e2 : ev cf c st h1 = .ok (.int j, h2)) : ev cf (.bin .add false a c) st h = .ok (.int (i + j), h2) := evBin e1 e2 rfl
theorem evInt (e1 : ev cf a st h = .ok (.int i, h1)) : ev cf (.bi .int false [a]) st h = .ok (.int i, h1) := by
  simp only [ev, evs, e1, T.bind, biV]
theorem evAbs (e1 : ev cf a st h = .ok (.int i, h1)) : ev cf (.bi .abs false [a]) st h = .ok (.int (if decide (i < 0) then -i else i), h1) := by
  simp only [ev, evs, e1, T.bind, biV]
theorem evCmp {op : Cop} {q : Bool} (e1 : ev cf a st h = .ok (.int i, h1)) (e2 : ev cf c st h1 = .ok (.int j, h2)) (e3 : copI op i j = some q) : ev cf (.cmp op a c) st h = .ok (.bl q, h2) := by
  simp only [ev, e1, e2, T.bind, copV, e3]
theorem evAndT {q : Bool} (e1 : ev cf a st h = .ok (.bl true, h1)) (e2 : ev cf c st h1 = .ok (.bl q, h2)) : ev cf (.and a c) st h = .ok (.bl q, h2) := by
  simp only [ev, e1, e2, T.bind]
theorem evAndF (e1 : ev cf a st h = .ok (.bl false, h1)) : ev cf (.and a c) st h = .ok (.bl false, h1) := by
  simp only [ev, e1, T.bind]
theorem exNm {v : Val} {x : Nat} (e1 : ev cf a st h = .ok (v, h1)) : ex cf fu (.asg (.nm x) a) st h = .ok (.nx, st.set x (some v), h1) := by
  simp only [ex, e1, T.bind, asg]
theorem exSb {v ov iv : Val} {h3 h4 : Hs} {o x : E} (e1 : ev cf a st h = .ok (v, h1)) (e2 : ev cf o st h1 = .ok (ov, h2)) (e3 : ev cf x st h2 = .ok (iv, h3)) (e4 : setV ov iv v h3 = .ok h4) : ex cf fu (.asg (.sb o x) a) st h = .ok (.nx, st, h4) := by
  simp only [ex, e1, T.bind, asg, e2, e3, e4]
theorem exRet {v : Val} (e1 : ev cf a st h = .ok (v, h1)) : ex cf fu (.ret a) st h = .ok (.rt v, st, h1) := by
  simp only [ex, e1, T.bind]
theorem exIf {q : Bool} {x y : List S} (e1 : ev cf a st h = .ok (.bl q, h1)) : ex cf fu (.ite a x y) st h = if q then exs cf fu x st h1 else exs cf fu y st h1 := by
  cases q <;> simp [ex, tst, e1, T.bind, truth]
theorem exsN {t : S} {ts : List S} {st' : Env} (e1 : ex cf fu t st h = .ok (.nx, st', h1)) : exs cf fu (t :: ts) st h = exs cf fu ts st' h1 := by
  simp only [exs, e1, T.bind]
theorem exsR {t : S} {ts : List S} {st' : Env} {v : Val} (e1 : ex cf fu t st h = .ok (.rt v, st', h1)) : exs cf fu (t :: ts) st h = .ok (.rt v, st', h1) := by
  simp only [exs, e1, T.bind]
end
theorem pick_end {x y : Option Val} (hn : 0 < n) (h0 : 0 ≤ p) (h1 : p ≤ 63) (h2 : 0 ≤ b) (h3 : 0 ≤ s) (h4 : s ≤ 2147483647) :
    (exs cf fu (pickB.drop 2) [some (.ref 0), some (.int n), x, y] (tpH sa ns lo p b s)).All (PkP sa ns n) := by
  have m1 : bopI .mul s 48271 = some (s * 48271) := bop_mulS (by omega) (by decide)
  have m2 : bopI .mod (s * 48271) 2147483647 = some (s * 48271 % 2147483647) := bop_modS (by decide)
  have q1 := Int.emod_nonneg (s * 48271) (b := 2147483647) (by decide)
  have q2 := Int.emod_lt_of_pos (s * 48271) (b := 2147483647) (by decide)
  generalize hs : s * 48271 % 2147483647 = t at m2 q1 q2
  have m3 : bopI .fdiv t 5 = some (t / 5) := bop_divS (by decide) (by decide)
  have m4 : bopI .mul t t = some (t * t) := bop_mulS (by omega) (by omega)
  have m5 : bopI .mod (t * t) 2147483629 = some (t * t % 2147483629) := bop_modS (by decide)
  have m6 : bopI .mod (t / 5 + t * t % 2147483629) n = some ((t / 5 + t * t % 2147483629) % n) := bop_modS hn
  have en : ∀ {h : Hs}, ev cf (.v 1) [some (.ref 0), some (.int n), x, y] h = .ok (.int n, h) := rfl
  have st1 : ex cf fu (.asg (.sb (.v 0) (ci 3)) (.bin .mod false (.bi .int false [.bin .mul false (sv 3) (ci 48271)]) (ci 2147483647))) [some (.ref 0), some (.int n), x, y] (tpH sa ns lo p b s) = .ok (.nx, [some (.ref 0), some (.int n), x, y], tpH sa ns (min lo 0) p b t) :=
    exSb (evBin (evInt (evBin ev_s3 ev_ci m1)) ev_ci m2) ev_st ev_ci set3
  have st2 := exRet (fu := fu) (evBin (cf := cf) (evInt (evAdd (evBin (ev_s3 (cf := cf) (sa := sa) (ns := ns) (lo := min lo 0) (p := p) (b := b) (s := t) (e := [some (.int n), x, y])) ev_ci m3) (evBin (evInt (evBin ev_s3 ev_s3 m4)) ev_ci m5))) en m6)
  show (exs cf fu (_ :: _ :: []) _ _).All _
  rw [exsN st1, exsR st2]
  exact ⟨_, p, b, t, _, rfl, rfl, Int.emod_nonneg _ (by omega), Int.emod_lt_of_pos _ hn, h0, h1, h2, q1, by omega⟩
theorem pick_mid {x y : Option Val} (hn : 0 < n) (hn2 : n ≤ 1000000000000000000) (h0 : 0 ≤ p) (h1 : p ≤ 63) (h2 : 0 ≤ b) (h3 : 0 ≤ s) (h4 : s ≤ 2147483647) :
    (exs cf fu (pickB.drop 1) [some (.ref 0), some (.int n), x, y] (tpH sa ns lo p b s)).All (PkP sa ns n) := by
  have en : ∀ {h : Hs} {z : Option Val}, ev cf (.v 1) [some (.ref 0), some (.int n), x, z] h = .ok (.int n, h) := rfl
  have t1 : ev cf (.cmp .gt (sv 2) (ci 0)) [some (.ref 0), some (.int n), x, y] (tpH sa ns lo p b s) = .ok (.bl (decide (b > 0)), tpH sa ns lo p b s) := evCmp ev_s2 ev_ci (by rfl)
  by_cases hb : b > 0
  · rw [decide_eq_true hb] at t1
    have s1 := exNm (fu := fu) (x := 3) (evBin (evInt (ev_s2 (cf := cf) (sa := sa) (ns := ns) (lo := lo) (p := p) (b := b) (s := s) (e := [some (.int n), x, y]))) en (bop_modS (i := b) hn))
    have s2 := exSb (fu := fu) (evBin (ev_s2 (cf := cf) (sa := sa) (ns := ns) (lo := lo) (p := p) (b := b) (s := s) (e := [some (.int n), x, some (.int (b % n))])) en (bop_divS (i := b) hn (by omega))) ev_st ev_ci set2
    have s3 : ex cf fu (.ret (.v 3)) [some (.ref 0), some (.int n), x, some (.int (b % n))] (tpH sa ns (min lo 0) p (b / n) s) = .ok (.rt (.int (b % n)), [some (.ref 0), some (.int n), x, some (.int (b % n))], tpH sa ns (min lo 0) p (b / n) s) := exRet rfl
    have s4 := exIf (fu := fu) (x := [.asg (.nm 3) (.bin .mod false (.bi .int false [sv 2]) (.v 1)), .asg (.sb (.v 0) (ci 2)) (.bin .fdiv false (sv 2) (.v 1)), .ret (.v 3)]) (y := []) t1
    rw [if_pos rfl, exsN s1] at s4
    have s5 := s4.trans ((exsN s2).trans (exsR s3))
    show (exs cf fu (_ :: _) _ _).All _
    rw [exsR s5]
    exact ⟨_, p, b / n, s, _, rfl, rfl, Int.emod_nonneg _ (by omega), Int.emod_lt_of_pos _ hn, h0, h1, Int.ediv_nonneg h2 (by omega), h3, h4⟩
  · rw [decide_eq_false hb] at t1
    have s4 := exIf (fu := fu) (x := [.asg (.nm 3) (.bin .mod false (.bi .int false [sv 2]) (.v 1)), .asg (.sb (.v 0) (ci 2)) (.bin .fdiv false (sv 2) (.v 1)), .ret (.v 3)]) (y := []) t1
    rw [if_neg Bool.false_ne_true] at s4
    show (exs cf fu (_ :: _) _ _).All _
    rw [exsN (s4.trans rfl)]
    exact pick_end hn h0 h1 h2 h3 h4
theorem pick_run (hl : ns.length ≤ 63) {x y : Option Val} (hn : 0 < n) (hn2 : n ≤ 1000000000000000000) (h0 : 0 ≤ p) (h1 : p ≤ 63) (h2 : 0 ≤ b) (h3 : 0 ≤ s) (h4 : s ≤ 2147483647) :
    (exs cf fu pickB [some (.ref 0), some (.int n), x, y] (tpH sa ns lo p b s)).All (PkP sa ns n) := by
  have ta : ev cf (.cmp .eq (sv 2) (ci 0)) [some (.ref 0), some (.int n), x, y] (tpH sa ns lo p b s) = .ok (.bl (decide (b = 0)), tpH sa ns lo p b s) := evCmp ev_s2 ev_ci (by rfl)
  have tb : ev cf (.cmp .lt (sv 1) (.bi .len false [sv 0])) [some (.ref 0), some (.int n), x, y] (tpH sa ns lo p b s) = .ok (.bl (decide (p < ns.length)), tpH sa ns lo p b s) := evCmp ev_s1 pick_len (by rfl)
  have skip : ev cf (.and (.cmp .eq (sv 2) (ci 0)) (.cmp .lt (sv 1) (.bi .len false [sv 0]))) [some (.ref 0), some (.int n), x, y] (tpH sa ns lo p b s) = .ok (.bl false, tpH sa ns lo p b s) → (exs cf fu pickB [some (.ref 0), some (.int n), x, y] (tpH sa ns lo p b s)).All (PkP sa ns n) := fun t => by
    have s4 := exIf (fu := fu) (x := [.asg (.nm 2) (.bi .abs false [.sub (sv 0) (sv 1)]),
      .asg (.sb (.v 0) (ci 1)) (.bin .add false (sv 1) (ci 1)),
      .ite (.cmp .ge (.v 2) (.bin .pow false (ci 10) (ci 18)))
        [.asg (.sb (.v 0) (ci 2)) (.v 2)]
        [.asg (.sb (.v 0) (ci 3)) (.bin .add false (.bin .mod false (.bi .int false [.bin .add false (.bin .mul false (sv 3) (ci 48271)) (.v 2)]) (ci 2147483646)) (ci 1))]]) (y := []) t
    rw [if_neg Bool.false_ne_true] at s4
    show (exs cf fu (_ :: _) _ _).All _
    rw [exsN (s4.trans rfl)]
    exact pick_mid hn hn2 h0 h1 h2 h3 h4
  by_cases hb : b = 0
  · rw [decide_eq_true hb] at ta
    by_cases hp : p < ns.length
    · rw [decide_eq_true hp] at tb
      obtain ⟨c, hc⟩ : ∃ c, ns[p.toNat]? = some c := ⟨_, List.getElem?_eq_getElem (by omega)⟩
      have t := evAndT ta tb
      generalize hC : (if decide (c < 0) then -c else c) = C
      have C0 : 0 ≤ C := by
        rw [← hC]
        by_cases q : c < 0
        · rw [decide_eq_true q, if_pos rfl]; omega
        · rw [decide_eq_false q, if_neg Bool.false_ne_true]; omega
      have a1 := exNm (fu := fu) (x := 2) (evAbs (pick_cell (cf := cf) (sa := sa) (lo := lo) (b := b) (s := s) (e := [some (.int n), x, y]) h0 hc))
      rw [hC] at a1
      have a2 := exSb (fu := fu) (evAdd (ev_s1 (cf := cf) (sa := sa) (ns := ns) (lo := lo) (p := p) (b := b) (s := s) (e := [some (.int n), some (.int C), y])) (ev_ci (i := 1))) ev_st ev_ci set1
      have pw : ev cf (.bin .pow false (ci 10) (ci 18)) [some (.ref 0), some (.int n), some (.int C), y] (tpH sa ns (min lo 0) (p + 1) b s) = .ok (.int 1000000000000000000, tpH sa ns (min lo 0) (p + 1) b s) := evBin ev_ci ev_ci (by decide +kernel)
      have ec : ∀ {h : Hs}, ev cf (.v 2) [some (.ref 0), some (.int n), some (.int C), y] h = .ok (.int C, h) := rfl
      have a3 : ev cf (.cmp .ge (.v 2) (.bin .pow false (ci 10) (ci 18))) [some (.ref 0), some (.int n), some (.int C), y] (tpH sa ns (min lo 0) (p + 1) b s) = .ok (.bl (decide (C ≥ 1000000000000000000)), tpH sa ns (min lo 0) (p + 1) b s) := evCmp ec pw (by rfl)
      have a4 := exIf (fu := fu) (x := [.asg (.sb (.v 0) (ci 2)) (.v 2)]) (y := [.asg (.sb (.v 0) (ci 3)) (.bin .add false (.bin .mod false (.bi .int false [.bin .add false (.bin .mul false (sv 3) (ci 48271)) (.v 2)]) (ci 2147483646)) (ci 1))]) a3
      have s4 := exIf (fu := fu) (x := [.asg (.nm 2) (.bi .abs false [.sub (sv 0) (sv 1)]),
        .asg (.sb (.v 0) (ci 1)) (.bin .add false (sv 1) (ci 1)),
        .ite (.cmp .ge (.v 2) (.bin .pow false (ci 10) (ci 18)))
          [.asg (.sb (.v 0) (ci 2)) (.v 2)]
          [.asg (.sb (.v 0) (ci 3)) (.bin .add false (.bin .mod false (.bi .int false [.bin .add false (.bin .mul false (sv 3) (ci 48271)) (.v 2)]) (ci 2147483646)) (ci 1))]]) (y := []) t
      rw [if_pos rfl, exsN a1] at s4
      have s5 := s4.trans (exsN a2)
      show (exs cf fu (_ :: _) _ _).All _
      by_cases hC2 : C ≥ 1000000000000000000
      · rw [decide_eq_true hC2, if_pos rfl, exsN (exSb ec ev_st ev_ci set2)] at a4
        rw [exsN (s5.trans ((exsN (a4.trans rfl)).trans rfl))]
        exact pick_mid hn hn2 (by omega) (by omega) (by omega) h3 h4
      · have m1 : bopI .mul s 48271 = some (s * 48271) := bop_mulS (by omega) (by decide)
        have q1 := Int.emod_nonneg (s * 48271 + C) (b := 2147483646) (by decide)
        have q2 := Int.emod_lt_of_pos (s * 48271 + C) (b := 2147483646) (by decide)
        rw [decide_eq_false hC2, if_neg Bool.false_ne_true, exsN (exSb (evAdd (evBin (evInt (evAdd (evBin ev_s3 ev_ci m1) ec)) ev_ci (bop_modS (by decide))) ev_ci) ev_st ev_ci set3)] at a4
        rw [exsN (s5.trans ((exsN (a4.trans rfl)).trans rfl))]
        exact pick_mid hn hn2 (by omega) (by omega) h2 (by omega) (by omega)
    · rw [decide_eq_false hp] at tb
      exact skip (evAndT ta tb)
  · rw [decide_eq_false hb] at ta
    exact skip (evAndF ta)
end
end Eng
/-! The draws: start and pick. -/
namespace Eng
open PySem L2
section
variable {P : Program} {w : World} {K : PySem.W.Frag} {mg : Str → Option Value} {base : Heap} {gl : List (Str × Gk)} {mu : List (Nat × Nat)} {adr : List Addr}
theorem callN_nil {fu d i : Nat} {vs : List Val} {h : Hs} : callN [] fu d i vs h = .no := by
  cases d <;> rfl
theorem prim_of {f : Addr} {np nN : Nat} {body : List S} {g : List Val → Hs → T (Val × Hs)} (hE : EnvOk K mg gl adr) (hC : CodeOk K gl mu f np nN body)
    (run : ∀ (cf : Nat → List Val → Hs → T (Val × Hs)) (N : List Str) (us : List V) (H : Hp) (Q : VK), N.length = nN → rP K g us H Q → us.length = np ∧ tS K (exs cf 0 body) { nx := fun _ H' => Q .non H', rt := Q } (L2.start N us) H) : PrimOk P w K mg base f g := by
  intro k
  obtain ⟨x, qual, st, fd, N, ps, F, S, eN, ep, hc, hb⟩ := hC.ex
  subst ep
  have ih : ∀ (i : Nat) (f : Addr), adr[i]? = some f → FnR P w K mg base CX0 k f (fun vs H Q E => rF K (callN [] 0 k) i vs H Q) := fun i f _ A outer s H us vs Q E hr e0 r hs => by
    obtain ⟨K', al, h, xs, eK, rh, rs, p⟩ := hs
    rw [callN_nil] at p
    exact p.elim
  have G : FnOk P w K mg base CX0 (k + 1) f fd ps fun vs H Q E => rP K g vs H Q := by
    refine F.ok S (fun us H Q E h => (run (callN [] 0 k) N us H Q eN h).1) fun cdv A outer s H vs Q E hr hsp => ?_
    exact ⟨_, cD_ok (good_of hE ih S hr) hc, (run (callN [] 0 k) N vs H Q eN hsp).2⟩
  refine FnR.imp (FnOk.raw G (F.binds hb) .nil) fun vs H Q E h => ?_
  rw [List.append_nil]
  exact h
end
def startB (n : Int) : List S := [.ret (.lst true [.v 0, ci 0, ci 0, ci n])]
theorem tapeOk_of {K : Cn} {al : List Addr} {H : Hp} {a sa : Addr} {ns : List Int} {us : List V} {p b s : Int} (hl : ns.length ≤ 63) (e : H a = some (.lst us)) (r : RVs K al H [.sl sa ns, .int p, .int b, .int s] us) (h0 : 0 ≤ p) (h1 : p ≤ 63) (h2 : 0 ≤ b) (h3 : 0 ≤ s) (h4 : s ≤ 2147483647) : TapeOk K al H a ∧ us = [.ref sa, .int p, .int b, .int s] := by
  simp only [RVs, RV] at r
  obtain ⟨_, _, e1, ⟨e2, st⟩, _, _, e3, e4, _, _, e5, e6, _, _, e7, e8, e9⟩ := r
  subst e9 e8 e7 e6 e5 e4 e3 e2 e1
  exact ⟨⟨sa, ns, p, b, s, e, st, hl, h0, h1, h2, h3, h4⟩, rfl⟩
theorem start_run {K : PySem.W.Frag} {n : Int} (h0 : 0 ≤ n) (h1 : n ≤ 2147483647) (cf : Nat → List Val → Hs → T (Val × Hs)) (N : List Str) (us : List V) (H : Hp) (Q : VK) (eN : N.length = 1) (q : rP K startV us H Q) :
    us.length = 1 ∧ tS K (exs cf 0 (startB n)) { nx := fun _ H' => Q .non H', rt := Q } (L2.start N us) H := by
  obtain ⟨K', al, h, vs, eK, rh, rs, p⟩ := q
  unfold startV at p
  split at p
  · obtain ⟨u, eu, ru⟩ := rs.one_of
    subst eu
    obtain ⟨sa, ns, e1, st, hl⟩ := ru.scr_of
    subst e1
    have rs' : RVs K' al H [.sl sa ns] [.ref sa] := .one (by simp only [RV]; exact ⟨trivial, st⟩)
    refine ⟨rfl, K', al, _, h, eK, rh, start_ok rs', ?_⟩
    rw [eN]
    show Pd K' al h H _ (.rt (.ref h.n), _, h.new (.lst [.sl sa ns, .int 0, .int 0, .int n]))
    intro al' H' σ' e rh' re' u ru'
    have hos := rh.os
    obtain ⟨a, eu, ea⟩ := ru'.ref_of
    have g0 : (h.new (.lst [.sl sa ns, .int 0, .int 0, .int n])).get h.n = some (.lst [.sl sa ns, .int 0, .int 0, .int n]) := by
      rw [Hs.get_new _ _ hos, if_pos rfl]
    obtain ⟨us, q1, q2⟩ := rh'.ob h.n a _ ea g0
    have nk : (h.new (.lst [.sl sa ns, .int 0, .int 0, .int n])).lk.contains h.n = false := by
      cases z : h.lk.contains h.n with
      | false => exact z
      | true => exact absurd (rh.lkb _ z) (Nat.lt_irrefl _)
    rw [nk, if_neg Bool.false_ne_true] at q1
    refine p al' H' u { e with sm := fun l l1 l2 => ?_ } ⟨rh'.len, ?_, rh'.nd, rh'.lkb, rh'.fb, fun l b o e1 e2 => ?_⟩ ru'
    · rw [Hs.get_new _ _ hos, if_neg (Nat.ne_of_lt l2)]
    · show _ = h.n + 1
      rw [← hos]; rfl
    · rw [Hs.get_new _ _ hos] at e2
      by_cases z : l = h.n
      · rw [if_pos z] at e2
        cases e2
        subst z
        rw [ea] at e1
        cases e1
        exact (tapeOk_of hl q1 q2 (by omega) (by omega) (by omega) h0 h1).1
      · rw [if_neg z] at e2
        exact rh'.ob l b o e1 (by rw [Hs.get_new _ _ hos, if_neg z]; exact e2)
  · exact p.elim
theorem pick_ok {K : PySem.W.Frag} (cf : Nat → List Val → Hs → T (Val × Hs)) (N : List Str) (us : List V) (H : Hp) (Q : VK) (eN : N.length = 4) (q : rP K pickV us H Q) :
    us.length = 2 ∧ tS K (exs cf 0 pickB) { nx := fun _ H' => Q .non H', rt := Q } (L2.start N us) H := by
  obtain ⟨K', al, h, vs, eK, rh, rs, p⟩ := q
  unfold pickV at p
  split at p
  · rename_i l n
    split at p
    · rename_i q1
      split at p
      · rename_i q2
        rw [Bool.and_eq_true, decide_eq_true_eq, decide_eq_true_eq] at q2
        simp only [RVs] at rs
        obtain ⟨u1, r1, e1, ru1, u2, r2, e2, ru2, e3⟩ := rs
        subst e3 e2 e1
        obtain ⟨a, eu, ea⟩ := ru1.ref_of
        have e4 := ru2.int_of
        subst eu e4
        obtain ⟨sa, ns, pp, b, s, eH, st, hl, i1, i2, i3, i4, i5⟩ := rh.ob l a _ ea q1
        have ne : sa ≠ a ∨ ∃ (o : Obj) (its : Array Value) (n : Nat), K'.K.lookup sa = some o ∧ o.cls = .type "list" ∧ o.dict = none ∧ o.data = .seq its n ∧ its.size ≤ sizeLine ∧ Vals (ns.map V.int) its.toList := by
          rcases st with st | st
          · exact .inl fun z => st.2.1 (z ▸ List.mem_of_getElem? ea)
          · exact .inr st
        have st2 : StL ⟨K'.K, []⟩ [a] H sa (ns.map V.int) := by
          rcases st with st | st
          · refine .inl ⟨st.1, fun m => ?_, by simp⟩
            rw [List.mem_singleton] at m
            exact st.2.1 (m ▸ List.mem_of_getElem? ea)
          · exact .inr st
        have rsl : RVs ⟨K'.K, []⟩ [a] H [.sl sa ns, .int pp, .int b, .int s] [.ref sa, .int pp, .int b, .int s] := by
          simp only [RVs, RV]
          exact ⟨_, _, rfl, ⟨rfl, st2⟩, _, _, rfl, rfl, _, _, rfl, rfl, _, _, rfl, rfl, rfl⟩
        have rh2 : RH ⟨K'.K, []⟩ [a] (tpH sa ns 1 pp b s) H := by
          refine ⟨rfl, rfl, by simp, fun l z => (by cases z), fun x m => (by cases m), fun l x o e1 e2 => ?_⟩
          cases l with
          | succ l => simp at e1
          | zero =>
            cases e1
            cases e2
            exact ⟨_, by rw [if_neg (by show ¬ (([] : List Nat).contains 0 = true); decide)]; exact eH, rsl⟩
        have rs2 : RVs ⟨K'.K, []⟩ [a] H [.ref 0, .int n] [.ref a, .int n] := by
          simp only [RVs, RV]
          exact ⟨_, _, rfl, ⟨a, rfl, rfl⟩, _, _, rfl, rfl, rfl⟩
        refine ⟨rfl, ⟨K'.K, []⟩, [a], _, tpH sa ns 1 pp b s, eK, rh2, start_ok rs2, ?_⟩
        rw [eN]
        refine T.all_mono (fun r z => ?_) (pick_run (cf := cf) (fu := 0) (lo := 1) (sa := sa) (x := none) (y := none) hl q2.1 q2.2 i1 i2 i3 i4 i5)
        obtain ⟨fl, s1, h1⟩ := r
        obtain ⟨i, p', b', s', lo', z1, z2, z3, z4, z5, z6, z7, z8, z9⟩ := z
        simp only at z1 z2
        subst z1 z2
        intro al' H' σ' e rh' re' u ru'
        have eu := ru'.int_of
        subst eu
        have ea' : al'[0]? = some a := e.pre 0 a rfl
        obtain ⟨us, y1, y2⟩ := rh'.ob 0 a _ ea' rfl
        rw [if_neg (by show ¬ (([] : List Nat).contains 0 = true); decide)] at y1
        obtain ⟨⟨sa', ns', p2, b2, s2, yH, yst, yl, y3⟩, y4⟩ := tapeOk_of hl y1 y2 z5 z6 z7 z8 z9
        have keep : ∀ x o, x ≠ a → H x = some o → H' x = some o := fun x o hx hq => (e.keep x o (by simpa using hx) hq).1
        have kp : Kp al H al H' := ⟨fun _ _ z => z, fun x o nx hq => ⟨keep x o (fun z => nx (z ▸ List.mem_of_getElem? ea)) hq, nx⟩⟩
        have ex : Ext al h H al h H' := { kp with frz := fun x o u hq => keep x _ (fun z => by rw [z, eH] at hq; cases hq) hq, lo := Nat.le_refl _, sm := fun _ _ _ => rfl, n := Nat.le_refl _, lk := rfl }
        have z := p i.toNat (by omega) al H' (.int i) ex ⟨rh.len, rh.os, rh.nd, rh.lkb, fun x m => ?_, fun m x o e1 e2 => ?_⟩ (by simp only [RV]; rw [Int.toNat_of_nonneg z3])
        · exact z
        · obtain ⟨m1, o, m2⟩ := rh.fb x m
          exact ⟨m1, o, keep x o (fun z => m1 (z ▸ List.mem_of_getElem? ea)) m2⟩
        · by_cases hm : m = l
          · subst hm
            rw [ea] at e1
            cases e1
            rw [q1] at e2
            cases e2
            have : us = [.ref sa', .int p2, .int b2, .int s2] := by
              rw [y1] at yH
              cases yH
              rfl
            rw [this] at y4
            cases y4
            exact ⟨sa, ns, p', b', s', yH, (st.mono kp), hl, z5, z6, z7, z8, z9⟩
          · have hx : x ≠ a := fun z => hm (rh.inj e1 (z ▸ ea))
            obtain ⟨o2, ho2⟩ := rh.has (List.mem_of_getElem? e1)
            exact (rh.ob m x o e1 e2).mono kp (by rw [ho2]; exact keep x o2 hx ho2)
      · exact p.elim
    · exact p.elim
  · exact p.elim
end Eng
/-! The law's def, the head. -/
namespace Eng
open PySem L2
def h00 : Hs := ⟨[], 0, 0, []⟩
def spL (K : PySem.W.Frag) (cf : Nat → List Val → Hs → T (Val × Hs)) (fu nN : Nat) (body : List S) : Sp := fun vs H Q _ => vs.length = 1 ∧ rP K (runF cf fu nN body false) vs H Q
section
variable {P : Program} {w : World} {K : PySem.W.Frag} {mg : Str → Option Value} {base : Heap} {gl : List (Str × Gk)} {mu : List (Nat × Nat)} {adr : List Addr} {tab : List Fn} {fu : Nat}
theorem law_ok (d : Nat) (hE : EnvOk K mg gl adr) (hT : ∀ (i : Nat) (f : Addr), adr[i]? = some f → ∃ fn, tab[i]? = some fn ∧ EntOk P w K mg base gl mu f fn) {x qual : Str} {st : Stmt} {f : Addr} {fd : FuncData} {N : List Str} {body : List S}
    (F : Fun K x qual st f fd) (S : FnScope N ["script"] (defScope st)) (hc : cD ⟨N, defScope st, fun _ => true, gl, mu⟩ (defBody st) = some body) : FnOk P w K mg base CX0 (d + 1) f fd ["script"] (spL K (callN tab fu d) fu N.length body) := by
  refine F.ok S (fun vs H Q E h => h.1) fun cdv A outer s H vs Q E hr hsp => ?_
  obtain ⟨hl, K', al, h, xs, eK, rh, rs, p⟩ := hsp
  exact ⟨_, cD_ok (good_of hE (all_ok hE hT d) S hr) hc, run_ok eK rh rs p⟩
theorem sp_law {cf : Nat → List Val → Hs → T (Val × Hs)} {nN : Nat} {body : List S} (p : (runF cf fu nN body false [.scr] h00).All fun r => r.1 = .bl true) {H : Hp} {a : Addr} {ns : List Int} (hl : ns.length ≤ 63) (hS : SqL K H a (ns.map V.int)) :
    spL K cf fu nN body [.ref a] H (fun v _ => v = .bl true) fun _ _ _ => False := by
  refine ⟨rfl, ⟨K, []⟩, [], h00, [.scr], rfl, ⟨rfl, rfl, by simp, fun l z => (by cases z), fun x m => (by cases m), fun l x o e => (by simp at e)⟩, .one ?_, T.all_mono (fun r z al' H' u e rh ru => ?_) p⟩
  · simp only [RV]
    refine ⟨a, ns, rfl, ?_, hl⟩
    rcases hS with hS | hS
    · exact .inl ⟨hS, by simp, by simp⟩
    · exact .inr hS
  · rw [z] at ru
    exact ru.bl_of
end
/-- at all draws the law says True -/
structure LawTrue (cf : Nat → List Val → Hs → T (Val × Hs)) (fu nN : Nat) (body : List S) : Prop where
  all : (runF cf fu nN body false [.scr] h00).All fun r => r.1 = .bl true
theorem walk {l : PySem.W.OpenLaw} {q : Program} {loose : List Str} {XP : (Str → Option Value) → Heap → Prop} {YP : World → Heap → Prop} {d : DefRec} {K : Params → PySem.W.Frag} {k : Nat} {cf : Nat → List Val → Hs → T (Val × Hs)} {fu nN : Nat} {body : List S} (hn : l.most = some 63) (hdf : d.params.defaults = []) (hr : Room k callerA)
    (hY : ∀ (w : World) (h : Heap), YP w h → (K w.params).In h)
    (p : LawTrue cf fu nN body)
    (F : ∀ (w : World) (mg : Str → Option Value) (fa : Addr) (h : Heap), (K w.params).In h → h.Ns mainGlobals mg → mg d.name = some (.ref fa) →
      ∃ fd : FuncData, (∀ (s : Shared) (u : Value), BindsTo s fd ⟨[u], []⟩ [("script", u)]) ∧ ∀ base : Heap, (K w.params).In base → base.Ns mainGlobals mg → FnOk l.prog w (K w.params) mg base CX0 k fa fd ["script"] (spL (K w.params) cf fu nN body)) :
    PySem.W.WalkO q loose XP YP l.row.toRowW d [] (fun f vs => PySem.call f vs) :=
  L2.walk_of (n := 63) (k := k) (x := "script") (CX := fun _ => CX0) (sp := fun w => spL (K w.params) cf fu nN body) hn (by decide) hdf hr hY F (fun _ _ a ns hl _ hS => sp_law p.all hl hS) fun _ _ _ _ _ z => z
end Eng
/-! Words to run the evaluator by simp. -/
namespace Eng
open PySem L2
@[simp] theorem T.bind_ok {A B : Type} {a : A} {f : A → T B} : (T.ok a).bind f = f a := rfl
@[simp] theorem T.bind_no {A B : Type} {f : A → T B} : (T.no : T A).bind f = .no := rfl
@[simp] theorem T.all_ok {A : Type} {a : A} {P : A → Prop} : (T.ok a).All P ↔ P a := Iff.rfl
@[simp] theorem T.of_some {A : Type} {a : A} : T.of (some a) = .ok a := rfl
section
variable {cf : Nat → List Val → Hs → T (Val × Hs)} {fu : Nat} {s : Env} {h : Hs}
@[simp] theorem q_c {v : Val} : ev cf (.c v) s h = .ok (v, h) := rfl
@[simp] theorem q_v {i : Nat} : ev cf (.v i) s h = (match s[i]? with
    | some (some v) => .ok (v, h)
    | _ => .no) := rfl
@[simp] theorem q_bin {op : Bop} {m : Bool} {a b : E} : ev cf (.bin op m a b) s h = (ev cf a s h).bind fun p => (ev cf b s p.2).bind fun q => bopV op m p.1 q.1 q.2 := rfl
@[simp] theorem q_neg {a : E} : ev cf (.neg a) s h = (ev cf a s h).bind fun p => match p.1 with
    | .int i => .ok (.int (-i), p.2)
    | _ => .no := rfl
@[simp] theorem q_cmp {op : Cop} {a b : E} : ev cf (.cmp op a b) s h = (ev cf a s h).bind fun p => (ev cf b s p.2).bind fun q => match copV op p.1 q.1 q.2 with
    | some k => .ok (.bl k, q.2)
    | none => .no := rfl
@[simp] theorem q_chn {o1 o2 : Cop} {a b c : E} : ev cf (.chn o1 o2 a b c) s h = (ev cf a s h).bind fun p => (ev cf b s p.2).bind fun q => match copV o1 p.1 q.1 q.2 with
    | some true => (ev cf c s q.2).bind fun r => match copV o2 q.1 r.1 r.2 with
      | some k => .ok (.bl k, r.2)
      | none => .no
    | some false => .ok (.bl false, q.2)
    | none => .no := rfl
@[simp] theorem q_and {a b : E} : ev cf (.and a b) s h = (ev cf a s h).bind fun p => match p.1 with
    | .bl true => ev cf b s p.2
    | .bl false => .ok (.bl false, p.2)
    | _ => .no := rfl
@[simp] theorem q_or {a b : E} : ev cf (.or a b) s h = (ev cf a s h).bind fun p => match p.1 with
    | .bl true => .ok (.bl true, p.2)
    | .bl false => ev cf b s p.2
    | _ => .no := rfl
@[simp] theorem q_not {a : E} : ev cf (.not a) s h = (ev cf a s h).bind fun p => match p.1 with
    | .bl k => .ok (.bl (!k), p.2)
    | _ => .no := rfl
@[simp] theorem q_ite {c a b : E} : ev cf (.ite c a b) s h = (tst cf c s h).bind fun p => match p.1 with
    | true => ev cf a s p.2
    | false => ev cf b s p.2 := rfl
@[simp] theorem q_tup {es : List E} : ev cf (.tup es) s h = (evs cf es s h).bind fun p => if small p.1.length then .ok (.tup p.1, p.2) else .no := rfl
@[simp] theorem q_lst {m : Bool} {es : List E} : ev cf (.lst m es) s h = (evs cf es s h).bind fun p => if small p.1.length then mkL m p.1 p.2 else .no := rfl
@[simp] theorem q_sub {a i : E} : ev cf (.sub a i) s h = (ev cf a s h).bind fun p => (ev cf i s p.2).bind fun q => match subV p.1 q.1 q.2 with
    | some v => .ok (v, q.2)
    | none => .no := rfl
@[simp] theorem q_slc {m : Bool} {a : E} {lo hi : Option E} : ev cf (.slc m a lo hi) s h = (ev cf a s h).bind fun p => (evo cf lo s p.2).bind fun q => (evo cf hi s q.2).bind fun r => slcV m p.1 q.1 r.1 r.2 := rfl
@[simp] theorem q_call {f : Nat} {es : List E} : ev cf (.call f es) s h = (evs cf es s h).bind fun p => cf f p.1 p.2 := rfl
@[simp] theorem q_bi {b : Bi} {m : Bool} {es : List E} : ev cf (.bi b m es) s h = (evs cf es s h).bind fun p => biV b m p.1 p.2 := rfl
@[simp] theorem q_isi {e : E} {t : Ty} : ev cf (.isi e t) s h = (ev cf e s h).bind fun p => match isiV p.2 p.1 t with
    | some k => .ok (.bl k, p.2)
    | none => .no := rfl
@[simp] theorem q_me {o : E} {k : Me} {es : List E} : ev cf (.me o k es) s h = (ev cf o s h).bind fun p => match itemsL p.2 p.1 with
    | some _ => (evs cf es s p.2).bind fun q => meV k p.1 q.1 q.2
    | none => .no := rfl
@[simp] theorem q_mat {t m : Bool} {sk : Sk} {es : List E} : ev cf (.mat t m sk es) s h = (evs cf es s h).bind fun p => match srcV sk p.1 p.2 with
    | some (xs, _) => matV t m xs p.2
    | none => .no := rfl
theorem q_lc {m : Bool} {own : List Nat} {tg : Tg} {sk : Sk} {es cs : List E} {e : E} : ev cf (.lc m own tg sk es cs e) s h = (evs cf es s h).bind fun p => match srcV sk p.1 p.2 with
    | some (xs, none) => if small xs.length then (lcL (fun x => tgS tg x (wipeE s own)) (evt cf cs) (ev cf e) xs p.2).bind fun r => mkL m r.1 r.2 else .no
    | some (xs, some l) => match isVar es && small xs.length with
      | true => (lcL (fun x => tgS tg x (wipeE s own)) (evt cf cs) (ev cf e) xs (p.2.lock l)).bind fun r => mkL m r.1 (r.2.unlock p.2.lk)
      | false => .no
    | none => .no := rfl
@[simp] theorem q_nil : evs cf [] s h = .ok ([], h) := rfl
@[simp] theorem q_cons {e : E} {es : List E} : evs cf (e :: es) s h = (ev cf e s h).bind fun p => (evs cf es s p.2).bind fun q => .ok (p.1 :: q.1, q.2) := rfl
@[simp] theorem q_on : evo cf none s h = .ok (none, h) := rfl
@[simp] theorem q_os {e : E} : evo cf (some e) s h = (ev cf e s h).bind fun p => match p.1 with
    | .int i => .ok (some i, p.2)
    | _ => .no := rfl
@[simp] theorem q_tn : evt cf [] s h = .ok (true, h) := rfl
@[simp] theorem q_t1 {e : E} : evt cf [e] s h = tst cf e s h := rfl
@[simp] theorem q_tst {e : E} : tst cf e s h = (ev cf e s h).bind fun p => match truth p.2 p.1 with
  | some k => .ok (k, p.2)
  | none => .no := rfl
/-! statements -/
@[simp] theorem q_ex {e : E} : ex cf fu (.ex e) s h = (ev cf e s h).bind fun p => .ok (.nx, s, p.2) := rfl
@[simp] theorem q_asg {t : At} {e : E} : ex cf fu (.asg t e) s h = (ev cf e s h).bind fun p => (asg cf t p.1 s p.2).bind fun r => .ok (.nx, r.1, r.2) := rfl
@[simp] theorem q_aug {i : Nat} {op : Bop} {e : E} : ex cf fu (.aug i op e) s h = (match s[i]? with
    | some (some x) => (ev cf e s h).bind fun p => (ipV op x p.1 p.2).bind fun q => .ok (.nx, s.set i (some q.1), q.2)
    | _ => .no) := rfl
@[simp] theorem q_ret {e : E} : ex cf fu (.ret e) s h = (ev cf e s h).bind fun p => .ok (.rt p.1, s, p.2) := rfl
@[simp] theorem q_if {c : E} {a b : List S} : ex cf fu (.ite c a b) s h = (tst cf c s h).bind fun p => match p.1 with
    | true => exs cf fu a s p.2
    | false => exs cf fu b s p.2 := rfl
theorem q_whl {c : E} {b : List S} : ex cf fu (.whl c b) s h = whlL (tst cf c) (exs cf fu b) fu s h := rfl
theorem q_for {tg : Tg} {sk : Sk} {es : List E} {b : List S} : ex cf fu (.for_ tg sk es b) s h = (evs cf es s h).bind fun p => match srcV sk p.1 p.2 with
    | some (xs, none) => forL (tgS tg) (exs cf fu b) xs s p.2
    | some (xs, some l) => match isVar es with
      | true => (forL (tgS tg) (exs cf fu b) xs s (p.2.lock l)).bind fun r => .ok (r.1, r.2.1, r.2.2.unlock p.2.lk)
      | false => .no
    | none => .no := rfl
@[simp] theorem q_pass : ex cf fu .pass s h = .ok (.nx, s, h) := rfl
@[simp] theorem q_brk : ex cf fu .brk s h = .ok (.bk, s, h) := rfl
@[simp] theorem q_cnt : ex cf fu .cnt s h = .ok (.ct, s, h) := rfl
@[simp] theorem q_exsn : exs cf fu [] s h = .ok (.nx, s, h) := rfl
@[simp] theorem q_exsc {t : S} {ts : List S} : exs cf fu (t :: ts) s h = (ex cf fu t s h).bind fun r => match r.1 with
    | .nx => exs cf fu ts r.2.1 r.2.2
    | _ => .ok r := rfl
@[simp] theorem q_nm {i : Nat} {v : Val} : asg cf (.nm i) v s h = .ok (s.set i (some v), h) := rfl
@[simp] theorem q_tp {ts : List At} {xs : List Val} : asg cf (.tp ts) (.tup xs) s h = if xs.length == ts.length then asgs cf ts xs s h else .no := rfl
@[simp] theorem q_asn : asgs cf [] [] s h = .ok (s, h) := rfl
@[simp] theorem q_asc {t : At} {ts : List At} {x : Val} {xs : List Val} : asgs cf (t :: ts) (x :: xs) s h = (asg cf t x s h).bind fun r => asgs cf ts xs r.1 r.2 := rfl
@[simp] theorem q_sb {o i : E} {v : Val} : asg cf (.sb o i) v s h = (ev cf o s h).bind fun p => (ev cf i s p.2).bind fun q => (setV p.1 q.1 v q.2).bind fun h' => .ok (s, h') := rfl
/-! loops -/
@[simp] theorem q_forn {bd : Val → Env → Option Env} {body : Env → Hs → T Rs} : forL bd body [] s h = .ok (.nx, s, h) := rfl
theorem q_forc {bd : Val → Env → Option Env} {body : Env → Hs → T Rs} {x : Val} {xs : List Val} : forL bd body (x :: xs) s h = (match bd x s with
    | none => .no
    | some s1 => (body s1 h).bind fun r => match r.1 with
      | .nx => forL bd body xs r.2.1 r.2.2
      | .ct => forL bd body xs r.2.1 r.2.2
      | .bk => .ok (.nx, r.2.1, r.2.2)
      | .rt v => .ok (.rt v, r.2.1, r.2.2)) := rfl
@[simp] theorem q_lcn {bd : Val → Option Env} {t : Env → Hs → T (Bool × Hs)} {elt : Env → Hs → T (Val × Hs)} : lcL bd t elt [] h = .ok ([], h) := rfl
theorem q_lcc {bd : Val → Option Env} {t : Env → Hs → T (Bool × Hs)} {elt : Env → Hs → T (Val × Hs)} {x : Val} {xs : List Val} : lcL bd t elt (x :: xs) h = (match bd x with
    | none => .no
    | some s => (t s h).bind fun r => match r.1 with
      | true => (elt s r.2).bind fun q => (lcL bd t elt xs q.2).bind fun w => .ok (q.1 :: w.1, w.2)
      | false => lcL bd t elt xs r.2) := rfl
/-! values -/
@[simp] theorem q_tgnm {i : Nat} {v : Val} : tgS (.nm i) v s = some (s.set i (some v)) := rfl
@[simp] theorem q_add {i j : Int} {m : Bool} : bopV .add m (.int i) (.int j) h = .ok (.int (i + j), h) := rfl
@[simp] theorem q_subI {i j : Int} {m : Bool} : bopV .sub m (.int i) (.int j) h = .ok (.int (i - j), h) := rfl
@[simp] theorem q_catT {xs ys : List Val} {m : Bool} : bopV .add m (.tup xs) (.tup ys) h = if small (xs.length + ys.length) then .ok (.tup (xs ++ ys), h) else .no := rfl
theorem q_mul {i j : Int} {m : Bool} (h1 : i.natAbs < 2 ^ 64) (h2 : j.natAbs < 2 ^ 64) : bopV .mul m (.int i) (.int j) h = .ok (.int (i * j), h) := by
  simp only [bopV, bop_mulS h1 h2, T.of_some, T.bind_ok]
@[simp] theorem q_cmpI {op : Cop} {i j : Int} : copV op (.int i) (.int j) h = copI op i j := rfl
@[simp] theorem q_eq {i j : Int} : copI .eq i j = some (decide (i = j)) := rfl
@[simp] theorem q_ne {i j : Int} : copI .ne i j = some (!decide (i = j)) := rfl
@[simp] theorem q_lt {i j : Int} : copI .lt i j = some (decide (i < j)) := rfl
@[simp] theorem q_le {i j : Int} : copI .le i j = some (decide (i ≤ j)) := rfl
@[simp] theorem q_gt {i j : Int} : copI .gt i j = some (decide (j < i)) := rfl
@[simp] theorem q_ge {i j : Int} : copI .ge i j = some (decide (j ≤ i)) := rfl
@[simp] theorem q_trb {b : Bool} : truth h (.bl b) = some b := rfl
@[simp] theorem q_lenT {xs : List Val} {m : Bool} : biV .len m [.tup xs] h = .ok (.int xs.length, h) := rfl
@[simp] theorem q_lenL {xs : List Val} {m : Bool} : biV .len m [.tl xs] h = .ok (.int xs.length, h) := rfl
@[simp] theorem q_tupL {xs : List Val} {m : Bool} : biV .tuple m [.tl xs] h = .ok (.tup xs, h) := rfl
@[simp] theorem q_tupT {xs : List Val} {m : Bool} : biV .tuple m [.tup xs] h = .ok (.tup xs, h) := rfl
@[simp] theorem q_mkF {xs : List Val} : mkL false xs h = .ok (.tl xs, h) := rfl
@[simp] theorem q_listT {xs : List Val} : biV .list false [.tup xs] h = .ok (.tl xs, h) := rfl
@[simp] theorem q_srcT {xs : List Val} : srcV .val [.tup xs] h = some (xs, none) := rfl
@[simp] theorem q_srcL {xs : List Val} : srcV .val [.tl xs] h = some (xs, none) := rfl
@[simp] theorem q_revT {xs : List Val} : srcV .rev [.tup xs] h = some (xs.reverse, none) := rfl
@[simp] theorem q_revL {xs : List Val} : srcV .rev [.tl xs] h = some (xs.reverse, none) := rfl
end
theorem sm_of {n : Nat} (h : n ≤ 1048576) : small n = true := Nat.ble_eq.mpr h
/-- words of numbers -/
def iv (xs : List Int) : List Val := xs.map .int
@[simp] theorem iv_len (xs : List Int) : (iv xs).length = xs.length := List.length_map _
@[simp] theorem iv_nil : iv [] = [] := rfl
@[simp] theorem iv_cons (x : Int) (xs : List Int) : iv (x :: xs) = .int x :: iv xs := rfl
@[simp] theorem iv_app (xs ys : List Int) : iv xs ++ iv ys = iv (xs ++ ys) := List.map_append.symm
@[simp] theorem iv_rev (xs : List Int) : (iv xs).reverse = iv xs.reverse := List.map_reverse.symm
@[simp] theorem iv_dl (xs : List Int) : (iv xs).dropLast = iv xs.dropLast := List.map_dropLast.symm
@[simp] theorem iv_get (xs : List Int) (i : Nat) : (iv xs)[i]? = xs[i]?.map .int := List.getElem?_map
@[simp] theorem iv_take (xs : List Int) (n : Nat) : (iv xs).take n = iv (xs.take n) := List.map_take.symm
@[simp] theorem iv_drop (xs : List Int) (n : Nat) : (iv xs).drop n = iv (xs.drop n) := List.map_drop.symm
/-- a list just made -/
def hl (h : Hs) (xs : List Val) : Hs := ⟨.lst xs :: h.os, h.n + 1, h.n, h.lk⟩
section
variable {h : Hs} {xs ys : List Val}
@[simp] theorem hl_get : (hl h xs).get h.n = some (.lst xs) := by simp [hl, Hs.get]
theorem hl_wl (k : h.lk.contains h.n = false) : (hl h xs).wl h.n = some xs := by
  unfold Hs.wl
  rw [hl_get]
  have : (hl h xs).lk.contains h.n = false := k
  simp only [this, Bool.false_eq_true, if_false]
@[simp] theorem hl_put : (hl h xs).put h.n (.lst ys) = hl h ys := by simp [hl, Hs.put]
@[simp] theorem hl_lk : (hl h xs).lk = h.lk := rfl
@[simp] theorem hl_n : (hl h xs).n = h.n + 1 := rfl
@[simp] theorem hl_lo : (hl h xs).lo = h.n := rfl
@[simp] theorem hl_mk : mkL true xs ⟨h.os, h.n, h.n, h.lk⟩ = .ok (.ref h.n, hl h xs) := rfl
@[simp] theorem hl_len {m : Bool} : biV .len m [.ref h.n] (hl h xs) = .ok (.int xs.length, hl h xs) := by simp only [biV, items, hl_get]
@[simp] theorem hl_tup {m : Bool} : biV .tuple m [.ref h.n] (hl h xs) = .ok (.tup xs, hl h xs) := by simp only [biV, itemsL, hl_get]
@[simp] theorem hl_itemsL : itemsL (hl h xs) (.ref h.n) = some xs := by simp only [itemsL, hl_get]
theorem hl_app {v : Val} (k : h.lk.contains h.n = false) (hs : xs.length ≤ 1048576) : meV .append (.ref h.n) [v] (hl h xs) = .ok (.non, hl h (xs ++ [v])) := by
  simp only [meV, hl_wl k, sm_of hs, if_true, hl_put]
theorem hl_pop {v : Val} (k : h.lk.contains h.n = false) : meV .pop (.ref h.n) [] (hl h (xs ++ [v])) = .ok (v, hl h xs) := by
  simp [meV, hl_wl k]
theorem hl_last {v : Val} : subV (.ref h.n) (.int (-1)) (hl h (xs ++ [v])) = some v := by
  have : ixI (xs ++ [v]).length (-1) = some xs.length := by
    unfold ixI
    rw [List.length_append, List.length_singleton]
    simp
    omega
  simp only [subV, items, hl_get, this]
  simp
theorem subT_nat {i : Nat} {v : Val} (e : xs[i]? = some v) : subV (.tup xs) (.int (i : Int)) h = some v := by
  have hl := (List.getElem?_eq_some_iff.mp e).1
  have : ixI xs.length (i : Int) = some i := by
    unfold ixI
    simp [hl]
  simp only [subV, items, this, e]
theorem subL_nat {i : Nat} {v : Val} (e : xs[i]? = some v) : subV (.tl xs) (.int (i : Int)) h = some v := by
  have hl := (List.getElem?_eq_some_iff.mp e).1
  have : ixI xs.length (i : Int) = some i := by
    unfold ixI
    simp [hl]
  simp only [subV, items, this, e]
end
/-- the run of a function, its end seen -/
theorem runF_of {cf : Nat → List Val → Hs → T (Val × Hs)} {fu nN : Nat} {body : List S} {vs : List Val} {h h1 : Hs} {s1 : Env} {v v' : Val} (e : exs cf fu body (vs.map some ++ List.replicate (nN - vs.length) none) ⟨h.os, h.n, h.n, h.lk⟩ = .ok (.rt v, s1, h1))
    (lo : h.n ≤ h1.lo) (fz : fzV h1 h.n 12 v = some v') : runF cf fu nN body true vs h = .ok (v', h) := by
  unfold runF
  rw [e, T.bind_ok]
  simp only [Bool.true_and, Nat.ble_eq.mpr lo, fz]
theorem fz_int {h : Hs} {n k : Nat} {i : Int} : fzV h n (k + 1) (.int i) = some (.int i) := rfl
theorem fz_bl {h : Hs} {n k : Nat} {i : Bool} : fzV h n (k + 1) (.bl i) = some (.bl i) := rfl
theorem fz_non {h : Hs} {n k : Nat} : fzV h n (k + 1) .non = some .non := rfl
theorem fz_ivs {h : Hs} {n k : Nat} : ∀ xs : List Int, optAll (fzV h n (k + 1)) (iv xs) = some (iv xs)
  | [] => rfl
  | x :: xs => by
    rw [iv_cons]
    unfold optAll
    rw [fz_int]
    simp only [fz_ivs xs]
theorem fz_iv {h : Hs} {n k : Nat} {xs : List Int} : fzV h n (k + 2) (.tup (iv xs)) = some (.tup (iv xs)) := by
  show (optAll (fzV h n (k + 1)) (iv xs)).map Val.tup = _
  rw [fz_ivs]
  rfl
theorem gl_mem {A B : Type} [BEq A] [LawfulBEq A] {x : A} {v : B} : ∀ {l : List (A × B)}, l.lookup x = some v → (x, v) ∈ l
  | [], h => by simp at h
  | (y, w) :: l, h => by
    rw [List.lookup_cons] at h
    split at h
    · rename_i e
      cases h
      rw [eq_of_beq e]
      exact List.mem_cons_self
    · exact List.mem_cons_of_mem _ (gl_mem h)
end Eng
namespace Eng.k03
open PySem L2 Eng
def topS (i : Nat) : Stmt := PySem.Challenge.pw_knotpapers_k03_free_words.main.body.getD i (.Pass ⟨0, 0, 0, 0⟩)
abbrev s_reduced : Stmt := topS 1
abbrev s_inverse_word : Stmt := topS 2
abbrev s_joined : Stmt := topS 3
abbrev s_substituted : Stmt := topS 4
abbrev s_core : Stmt := topS 5
abbrev s_as_conjugate : Stmt := topS 6
abbrev s_counts : Stmt := topS 7
abbrev s_is_free_word : Stmt := topS 8
abbrev s__law_start : Stmt := topS 10
abbrev s__law_pick : Stmt := topS 11
abbrev s__law_same : Stmt := topS 12
abbrev s__law_word : Stmt := topS 13
abbrev s__law_reduced : Stmt := topS 14
abbrev s__law_core : Stmt := topS 15
abbrev s_law : Stmt := topS 16
def gl : List (Str × Gk) := [(("reduced" : Str), .fn 0), (("inverse_word" : Str), .fn 1), (("joined" : Str), .fn 2), (("substituted" : Str), .fn 3), (("core" : Str), .fn 4), (("as_conjugate" : Str), .fn 5), (("counts" : Str), .fn 6), (("is_free_word" : Str), .fn 7), (("_law_start" : Str), .fn 8), (("_law_pick" : Str), .fn 9), (("_law_same" : Str), .fn 10), (("_law_word" : Str), .fn 11), (("_law_reduced" : Str), .fn 12), (("_law_core" : Str), .fn 13), (("tuple" : Str), .blt), (("len" : Str), .blt), (("reversed" : Str), .blt), (("range" : Str), .blt), (("all" : Str), .blt), (("isinstance" : Str), .blt), (("int" : Str), .blt), (("bool" : Str), .blt), (("abs" : Str), .blt), (("str" : Str), .blt), (("list" : Str), .blt)]
def mu : List (Nat × Nat) := [(3, 12), (18, 12), (44, 11), (119, 10)]
def N_reduced : List Str := [("word" : Str), ("found" : Str), ("letter" : Str)]
theorem sc_reduced : FnScope N_reduced [("word" : Str)] (defScope s_reduced) := ⟨rfl, rfl, rfl, by decide +kernel, rfl, by decide +kernel, by decide +kernel⟩
def c_reduced : Option (List S) := cD ⟨N_reduced, defScope s_reduced, fun _ => true, gl, mu⟩ (defBody s_reduced)
def N_inverse_word : List Str := [("word" : Str), ("letter" : Str)]
theorem sc_inverse_word : FnScope N_inverse_word [("word" : Str)] (defScope s_inverse_word) := ⟨rfl, rfl, rfl, by decide +kernel, rfl, by decide +kernel, by decide +kernel⟩
def c_inverse_word : Option (List S) := cD ⟨N_inverse_word, defScope s_inverse_word, fun _ => true, gl, mu⟩ (defBody s_inverse_word)
def N_joined : List Str := [("words" : Str), ("found" : Str), ("word" : Str)]
theorem sc_joined : FnScope N_joined [("words" : Str)] (defScope s_joined) := ⟨rfl, rfl, rfl, by decide +kernel, rfl, by decide +kernel, by decide +kernel⟩
def c_joined : Option (List S) := cD ⟨N_joined, defScope s_joined, fun _ => true, gl, mu⟩ (defBody s_joined)
def N_substituted : List Str := [("word" : Str), ("images" : Str), ("found" : Str), ("letter" : Str), ("image" : Str), ("one" : Str)]
theorem sc_substituted : FnScope N_substituted [("word" : Str), ("images" : Str)] (defScope s_substituted) := ⟨rfl, rfl, rfl, by decide +kernel, rfl, by decide +kernel, by decide +kernel⟩
def c_substituted : Option (List S) := cD ⟨N_substituted, defScope s_substituted, fun _ => true, gl, mu⟩ (defBody s_substituted)
def N_core : List Str := [("word" : Str), ("many" : Str)]
theorem sc_core : FnScope N_core [("word" : Str)] (defScope s_core) := ⟨rfl, rfl, rfl, by decide +kernel, rfl, by decide +kernel, by decide +kernel⟩
def c_core : Option (List S) := cD ⟨N_core, defScope s_core, fun _ => true, gl, mu⟩ (defBody s_core)
def N_as_conjugate : List Str := [("word" : Str), ("outside" : Str), ("inside" : Str)]
theorem sc_as_conjugate : FnScope N_as_conjugate [("word" : Str)] (defScope s_as_conjugate) := ⟨rfl, rfl, rfl, by decide +kernel, rfl, by decide +kernel, by decide +kernel⟩
def c_as_conjugate : Option (List S) := cD ⟨N_as_conjugate, defScope s_as_conjugate, fun _ => true, gl, mu⟩ (defBody s_as_conjugate)
def N_counts : List Str := [("word" : Str), ("many" : Str), ("k" : Str), ("one" : Str)]
theorem sc_counts : FnScope N_counts [("word" : Str), ("many" : Str)] (defScope s_counts) := ⟨rfl, rfl, rfl, by decide +kernel, rfl, by decide +kernel, by decide +kernel⟩
def c_counts : Option (List S) := cD ⟨N_counts, defScope s_counts, fun _ => true, gl, mu⟩ (defBody s_counts)
def N_is_free_word : List Str := [("value" : Str), ("many" : Str), ("one" : Str)]
theorem sc_is_free_word : FnScope N_is_free_word [("value" : Str), ("many" : Str)] (defScope s_is_free_word) := ⟨rfl, rfl, rfl, by decide +kernel, rfl, by decide +kernel, by decide +kernel⟩
def c_is_free_word : Option (List S) := cD ⟨N_is_free_word, defScope s_is_free_word, fun _ => true, gl, mu⟩ (defBody s_is_free_word)
def N__law_start : List Str := [("script" : Str)]
theorem sc__law_start : FnScope N__law_start [("script" : Str)] (defScope s__law_start) := ⟨rfl, rfl, rfl, by decide +kernel, rfl, by decide +kernel, by decide +kernel⟩
def c__law_start : Option (List S) := cD ⟨N__law_start, defScope s__law_start, fun _ => true, gl, mu⟩ (defBody s__law_start)
def N__law_pick : List Str := [("state" : Str), ("limit" : Str), ("cell" : Str), ("drawn" : Str)]
theorem sc__law_pick : FnScope N__law_pick [("state" : Str), ("limit" : Str)] (defScope s__law_pick) := ⟨rfl, rfl, rfl, by decide +kernel, rfl, by decide +kernel, by decide +kernel⟩
def c__law_pick : Option (List S) := cD ⟨N__law_pick, defScope s__law_pick, fun _ => true, gl, mu⟩ (defBody s__law_pick)
def N__law_same : List Str := [("told" : Str), ("due" : Str), ("k" : Str)]
theorem sc__law_same : FnScope N__law_same [("told" : Str), ("due" : Str)] (defScope s__law_same) := ⟨rfl, rfl, rfl, by decide +kernel, rfl, by decide +kernel, by decide +kernel⟩
def c__law_same : Option (List S) := cD ⟨N__law_same, defScope s__law_same, fun _ => true, gl, mu⟩ (defBody s__law_same)
def N__law_word : List Str := [("state" : Str), ("most" : Str), ("many" : Str), ("k" : Str)]
theorem sc__law_word : FnScope N__law_word [("state" : Str), ("most" : Str), ("many" : Str)] (defScope s__law_word) := ⟨rfl, rfl, rfl, by decide +kernel, rfl, by decide +kernel, by decide +kernel⟩
def c__law_word : Option (List S) := cD ⟨N__law_word, defScope s__law_word, fun _ => true, gl, mu⟩ (defBody s__law_word)
def N__law_reduced : List Str := [("state" : Str), ("word" : Str), ("places" : Str), ("at" : Str), ("k" : Str)]
theorem sc__law_reduced : FnScope N__law_reduced [("state" : Str), ("word" : Str)] (defScope s__law_reduced) := ⟨rfl, rfl, rfl, by decide +kernel, rfl, by decide +kernel, by decide +kernel⟩
def c__law_reduced : Option (List S) := cD ⟨N__law_reduced, defScope s__law_reduced, fun _ => true, gl, mu⟩ (defBody s__law_reduced)
def N__law_core : List Str := [("word" : Str), ("many" : Str), ("ahead" : Str), ("one" : Str)]
theorem sc__law_core : FnScope N__law_core [("word" : Str)] (defScope s__law_core) := ⟨rfl, rfl, rfl, by decide +kernel, rfl, by decide +kernel, by decide +kernel⟩
def c__law_core : Option (List S) := cD ⟨N__law_core, defScope s__law_core, fun _ => true, gl, mu⟩ (defBody s__law_core)
def N_law : List Str := [("script" : Str), ("state" : Str), ("word" : Str), ("due" : Str), ("back" : Str), ("other" : Str), ("third" : Str), ("images" : Str), ("parts" : Str), ("letter" : Str), ("image" : Str), ("told" : Str), ("k" : Str), ("odd" : Str), ("one" : Str)]
theorem sc_law : FnScope N_law [("script" : Str)] (defScope s_law) := ⟨rfl, rfl, rfl, by decide +kernel, rfl, by decide +kernel, by decide +kernel⟩
def c_law : Option (List S) := cD ⟨N_law, defScope s_law, fun _ => true, gl, mu⟩ (defBody s_law)
def b_reduced : List S := [(.asg (.nm 1) (.lst true [])), (.for_ (.nm 2) .val [(.v 0)] [(.ite (.and (.cmp .gt (.bi .len false [(.v 1)]) (.c (.int 0))) (.cmp .eq (.sub (.v 1) (.neg (.c (.int 1)))) (.bin .sub false (.c (.int 0)) (.v 2)))) [(.ex (.me (.v 1) .pop []))] [(.ex (.me (.v 1) .append [(.v 2)]))])]), (.ret (.bi .tuple false [(.v 1)]))]
def b_inverse_word : List S := [(.ret (.bi .tuple false [(.lc false [1] (.nm 1) .rev [(.v 0)] [] (.bin .sub false (.c (.int 0)) (.v 1)))]))]
def b_joined : List S := [(.asg (.nm 1) (.tup [])), (.for_ (.nm 2) .val [(.v 0)] [(.asg (.nm 1) (.call 0 [(.bin .add false (.v 1) (.bi .tuple false [(.v 2)]))]))]), (.ret (.v 1))]
def b_substituted : List S := [(.asg (.nm 2) (.lst true [])), (.for_ (.nm 3) .val [(.v 0)] [(.asg (.nm 4) (.ite (.cmp .gt (.v 3) (.c (.int 0))) (.sub (.v 1) (.bin .sub false (.v 3) (.c (.int 1)))) (.call 1 [(.sub (.v 1) (.bin .sub false (.bin .sub false (.c (.int 0)) (.v 3)) (.c (.int 1))))]))), (.for_ (.nm 5) .val [(.v 4)] [(.ite (.and (.cmp .gt (.bi .len false [(.v 2)]) (.c (.int 0))) (.cmp .eq (.sub (.v 2) (.neg (.c (.int 1)))) (.bin .sub false (.c (.int 0)) (.v 5)))) [(.ex (.me (.v 2) .pop []))] [(.ex (.me (.v 2) .append [(.v 5)]))])])]), (.ret (.bi .tuple false [(.v 2)]))]
def b_core : List S := [(.asg (.nm 0) (.call 0 [(.v 0)])), (.asg (.nm 1) (.c (.int 0))), (.whl (.and (.cmp .lt (.bin .add false (.bin .mul false (.c (.int 2)) (.v 1)) (.c (.int 1))) (.bi .len false [(.v 0)])) (.cmp .eq (.sub (.v 0) (.v 1)) (.bin .sub false (.c (.int 0)) (.sub (.v 0) (.bin .sub false (.bin .sub false (.bi .len false [(.v 0)]) (.c (.int 1))) (.v 1)))))) [(.aug 1 .add (.c (.int 1)))]), (.ret (.tup [(.slc false (.v 0) none (some (.v 1))), (.slc false (.v 0) (some (.v 1)) (some (.bin .sub false (.bi .len false [(.v 0)]) (.v 1))))]))]
def b_as_conjugate : List S := [(.asg (.tp [(.nm 1), (.nm 2)]) (.call 4 [(.v 0)])), (.ret (.ite (.cmp .eq (.bi .len false [(.v 2)]) (.c (.int 1))) (.tup [(.v 1), (.sub (.v 2) (.c (.int 0)))]) (.c .non)))]
def b_counts : List S := [(.ret (.bi .tuple false [(.lc false [2] (.nm 2) .rng [(.c (.int 1)), (.bin .add false (.v 1) (.c (.int 1)))] [] (.bin .sub false (.bi .len false [(.lc false [3] (.nm 3) .val [(.v 0)] [(.cmp .eq (.v 3) (.v 2))] (.c (.int 1)))]) (.bi .len false [(.lc false [3] (.nm 3) .val [(.v 0)] [(.cmp .eq (.v 3) (.bin .sub false (.c (.int 0)) (.v 2)))] (.c (.int 1)))])))]))]
def b_is_free_word : List S := [(.ite (.not (.isi (.v 0) .tuple)) [(.ret (.c (.bl false)))] []), (.ret (.bi .all false [(.lc false [2] (.nm 2) .val [(.v 0)] [] (.and (.isi (.v 2) .int) (.and (.not (.isi (.v 2) .bool)) (.chn .lt .le (.c (.int 0)) (.bi .abs false [(.v 2)]) (.v 1)))))]))]
def b__law_start : List S := [(.ret (.lst true [(.v 0), (.c (.int 0)), (.c (.int 0)), (.c (.int 7))]))]
def b__law_pick : List S := [(.ite (.and (.cmp .eq (.sub (.v 0) (.c (.int 2))) (.c (.int 0))) (.cmp .lt (.sub (.v 0) (.c (.int 1))) (.bi .len false [(.sub (.v 0) (.c (.int 0)))]))) [(.asg (.nm 2) (.bi .abs false [(.sub (.sub (.v 0) (.c (.int 0))) (.sub (.v 0) (.c (.int 1))))])), (.asg (.sb (.v 0) (.c (.int 1))) (.bin .add false (.sub (.v 0) (.c (.int 1))) (.c (.int 1)))), (.ite (.cmp .ge (.v 2) (.bin .pow false (.c (.int 10)) (.c (.int 18)))) [(.asg (.sb (.v 0) (.c (.int 2))) (.v 2))] [(.asg (.sb (.v 0) (.c (.int 3))) (.bin .add false (.bin .mod false (.bi .int false [(.bin .add false (.bin .mul false (.sub (.v 0) (.c (.int 3))) (.c (.int 48271))) (.v 2))]) (.c (.int 2147483646))) (.c (.int 1))))])] []), (.ite (.cmp .gt (.sub (.v 0) (.c (.int 2))) (.c (.int 0))) [(.asg (.nm 3) (.bin .mod false (.bi .int false [(.sub (.v 0) (.c (.int 2)))]) (.v 1))), (.asg (.sb (.v 0) (.c (.int 2))) (.bin .fdiv false (.sub (.v 0) (.c (.int 2))) (.v 1))), (.ret (.v 3))] []), (.asg (.sb (.v 0) (.c (.int 3))) (.bin .mod false (.bi .int false [(.bin .mul false (.sub (.v 0) (.c (.int 3))) (.c (.int 48271)))]) (.c (.int 2147483647)))), (.ret (.bin .mod false (.bi .int false [(.bin .add false (.bin .fdiv false (.sub (.v 0) (.c (.int 3))) (.c (.int 5))) (.bin .mod false (.bi .int false [(.bin .mul false (.sub (.v 0) (.c (.int 3))) (.sub (.v 0) (.c (.int 3))))]) (.c (.int 2147483629))))]) (.v 1)))]
def b__law_same : List S := [(.ite (.cmp .is (.v 1) (.c .non)) [(.ret (.cmp .is (.v 0) (.c .non)))] []), (.ite (.isi (.v 1) .bool) [(.ret (.and (.isi (.v 0) .bool) (.cmp .eq (.v 0) (.v 1))))] []), (.ite (.isi (.v 1) .int) [(.ret (.and (.isi (.v 0) .int) (.and (.not (.isi (.v 0) .bool)) (.cmp .eq (.v 0) (.v 1)))))] []), (.ite (.isi (.v 1) .str) [(.ret (.and (.isi (.v 0) .str) (.cmp .eq (.v 0) (.v 1))))] []), (.ite (.or (.and (.isi (.v 1) .list) (.not (.isi (.v 0) .list))) (.and (.isi (.v 1) .tuple) (.not (.isi (.v 0) .tuple)))) [(.ret (.c (.bl false)))] []), (.ret (.and (.cmp .eq (.bi .len false [(.v 0)]) (.bi .len false [(.v 1)])) (.cmp .eq (.lc false [2] (.nm 2) .rng [(.bi .len false [(.v 1)])] [(.not (.call 10 [(.sub (.v 0) (.v 2)), (.sub (.v 1) (.v 2))]))] (.c (.int 1))) (.lst false []))))]
def b__law_word : List S := [(.ret (.bi .tuple false [(.lc false [3] (.nm 3) .rng [(.call 9 [(.v 0), (.bin .add false (.v 1) (.c (.int 1)))])] [] (.bin .mul false (.bin .add false (.c (.int 1)) (.call 9 [(.v 0), (.v 2)])) (.sub (.lst false [(.c (.int 1)), (.neg (.c (.int 1)))]) (.call 9 [(.v 0), (.c (.int 2))]))))]))]
def b__law_reduced : List S := [(.whl (.c (.bl true)) [(.asg (.nm 2) (.lc false [4] (.nm 4) .rng [(.bin .sub false (.bi .len false [(.v 1)]) (.c (.int 1)))] [(.cmp .eq (.sub (.v 1) (.v 4)) (.bin .sub false (.c (.int 0)) (.sub (.v 1) (.bin .add false (.v 4) (.c (.int 1))))))] (.v 4))), (.ite (.cmp .eq (.v 2) (.lst false [])) [(.ret (.v 1))] []), (.asg (.nm 3) (.sub (.v 2) (.call 9 [(.v 0), (.bi .len false [(.v 2)])]))), (.asg (.nm 1) (.bin .add false (.slc false (.v 1) none (some (.v 3))) (.slc false (.v 1) (some (.bin .add false (.v 3) (.c (.int 2)))) none)))])]
def b__law_core : List S := [(.for_ (.nm 1) .rng [(.bi .len false [(.v 0)]), (.neg (.c (.int 1))), (.neg (.c (.int 1)))] [(.ite (.or (.cmp .lt (.bin .mul false (.c (.int 2)) (.v 1)) (.bi .len false [(.v 0)])) (.cmp .eq (.v 1) (.c (.int 0)))) [(.asg (.nm 2) (.slc false (.v 0) none (some (.v 1)))), (.ite (.cmp .eq (.bi .tuple false [(.lc false [3] (.nm 3) .rev [(.v 2)] [] (.bin .sub false (.c (.int 0)) (.v 3)))]) (.slc false (.v 0) (some (.bin .sub false (.bi .len false [(.v 0)]) (.v 1))) none)) [(.ret (.tup [(.v 2), (.slc false (.v 0) (some (.v 1)) (some (.bin .sub false (.bi .len false [(.v 0)]) (.v 1))))]))] [])] [])]), (.ret (.c .non))]
def b_law : List S := [(.asg (.nm 1) (.call 8 [(.v 0)])), (.asg (.nm 2) (.call 11 [(.v 1), (.c (.int 10)), (.c (.int 3))])), (.asg (.nm 3) (.call 12 [(.v 1), (.v 2)])), (.ite (.or (.not (.call 10 [(.call 0 [(.v 2)]), (.v 3)])) (.not (.call 10 [(.call 0 [(.bi .list false [(.v 2)])]), (.v 3)]))) [(.ret (.c (.bl false)))] []), (.asg (.nm 4) (.bi .tuple false [(.lc false [14] (.nm 14) .rev [(.v 2)] [] (.bin .sub false (.c (.int 0)) (.v 14)))])), (.ite (.or (.not (.call 10 [(.call 1 [(.v 2)]), (.v 4)])) (.not (.call 10 [(.call 2 [(.v 2), (.v 4)]), (.tup [])]))) [(.ret (.c (.bl false)))] []), (.asg (.nm 5) (.call 11 [(.v 1), (.c (.int 8)), (.c (.int 4))])), (.asg (.nm 6) (.call 11 [(.v 1), (.c (.int 5)), (.c (.int 4))])), (.ite (.or (.not (.call 10 [(.call 2 [(.v 2), (.v 5), (.v 6)]), (.call 12 [(.v 1), (.bin .add false (.bin .add false (.v 2) (.v 5)) (.v 6))])])) (.cmp .ne (.call 2 []) (.tup []))) [(.ret (.c (.bl false)))] []), (.asg (.nm 7) (.lc false [12] (.nm 12) .rng [(.c (.int 4))] [] (.call 11 [(.v 1), (.c (.int 3)), (.c (.int 4))]))), (.asg (.nm 8) (.tup [])), (.for_ (.nm 9) .val [(.v 5)] [(.asg (.nm 10) (.sub (.v 7) (.bin .sub false (.bi .abs false [(.v 9)]) (.c (.int 1))))), (.ite (.cmp .lt (.v 9) (.c (.int 0))) [(.asg (.nm 10) (.bi .tuple false [(.lc false [14] (.nm 14) .rev [(.v 10)] [] (.bin .sub false (.c (.int 0)) (.v 14)))]))] []), (.asg (.nm 8) (.bin .add false (.v 8) (.v 10)))]), (.ite (.not (.call 10 [(.call 3 [(.v 5), (.v 7)]), (.call 12 [(.v 1), (.v 8)])])) [(.ret (.c (.bl false)))] []), (.ite (.not (.call 10 [(.call 4 [(.v 2)]), (.call 13 [(.v 3)])])) [(.ret (.c (.bl false)))] []), (.asg (.nm 9) (.bin .add false (.c (.int 1)) (.call 9 [(.v 1), (.c (.int 4))]))), (.asg (.nm 11) (.call 5 [(.bin .add false (.bin .add false (.v 5) (.tup [(.v 9)])) (.bi .tuple false [(.lc false [14] (.nm 14) .rev [(.v 5)] [] (.bin .sub false (.c (.int 0)) (.v 14)))]))])), (.ite (.or (.cmp .is (.v 11) (.c .non)) (.not (.call 10 [(.sub (.v 11) (.c (.int 1))), (.v 9)]))) [(.ret (.c (.bl false)))] []), (.ite (.cmp .ne (.call 12 [(.v 1), (.bin .add false (.bin .add false (.sub (.v 11) (.c (.int 0))) (.tup [(.v 9)])) (.bi .tuple false [(.lc false [14] (.nm 14) .rev [(.sub (.v 11) (.c (.int 0)))] [] (.bin .sub false (.c (.int 0)) (.v 14)))]))]) (.call 12 [(.v 1), (.bin .add false (.bin .add false (.v 5) (.tup [(.v 9)])) (.bi .tuple false [(.lc false [14] (.nm 14) .rev [(.v 5)] [] (.bin .sub false (.c (.int 0)) (.v 14)))]))])) [(.ret (.c (.bl false)))] []), (.ite (.cmp .ne (.cmp .is (.call 5 [(.v 2)]) (.c .non)) (.cmp .ne (.bi .len false [(.sub (.call 13 [(.v 3)]) (.c (.int 1)))]) (.c (.int 1)))) [(.ret (.c (.bl false)))] []), (.asg (.nm 3) (.lst true [])), (.for_ (.nm 12) .rng [(.c (.int 1)), (.c (.int 4))] [(.ex (.me (.v 3) .append [(.bin .sub false (.bi .len false [(.lc false [14] (.nm 14) .val [(.v 2)] [(.cmp .eq (.v 14) (.v 12))] (.c (.int 1)))]) (.bi .len false [(.lc false [14] (.nm 14) .val [(.v 2)] [(.cmp .eq (.v 14) (.bin .sub false (.c (.int 0)) (.v 12)))] (.c (.int 1)))]))]))]), (.ite (.not (.call 10 [(.call 6 [(.v 2), (.c (.int 3))]), (.bi .tuple false [(.v 3)])])) [(.ret (.c (.bl false)))] []), (.asg (.nm 13) (.sub (.lst false [(.bin .add false (.v 2) (.tup [(.c (.int 0))])), (.bin .add false (.v 2) (.tup [(.c (.int 4))])), (.bi .list false [(.v 2)]), (.c .non), (.bin .add false (.v 2) (.tup [(.c (.bl true))])), (.bin .add false (.v 2) (.tup [(.c (.str ("1" : Str)))])), (.bin .add false (.v 2) (.tup [(.neg (.c (.int 4)))]))]) (.call 9 [(.v 1), (.c (.int 7))]))), (.ret (.and (.cmp .is (.call 7 [(.v 2), (.c (.int 3))]) (.c (.bl true))) (.cmp .is (.call 7 [(.v 13), (.c (.int 3))]) (.c (.bl false)))))]
def tab : List Fn := [.code 1 false 3 b_reduced true, .code 1 false 2 b_inverse_word true, .code 1 true 3 b_joined true, .code 2 false 6 b_substituted true, .code 1 false 2 b_core true, .code 1 false 3 b_as_conjugate true, .code 2 false 4 b_counts true, .code 2 false 3 b_is_free_word true, .start, .pick, .code 2 false 3 b__law_same true, .code 3 false 4 b__law_word true, .code 2 false 5 b__law_reduced true, .code 1 false 4 b__law_core true]
def fue : Nat := 1000
def dep : Nat := 60
theorem room : Room (dep + 1) PySem.callerA := ⟨rfl, by decide +kernel, by decide +kernel⟩
theorem cc_reduced : c_reduced = some b_reduced := rfl
theorem cc_inverse_word : c_inverse_word = some b_inverse_word := rfl
theorem cc_joined : c_joined = some b_joined := rfl
theorem cc_substituted : c_substituted = some b_substituted := rfl
theorem cc_core : c_core = some b_core := rfl
theorem cc_as_conjugate : c_as_conjugate = some b_as_conjugate := rfl
theorem cc_counts : c_counts = some b_counts := rfl
theorem cc_is_free_word : c_is_free_word = some b_is_free_word := rfl
theorem cc__law_start : c__law_start = some b__law_start := rfl
theorem cc__law_pick : c__law_pick = some b__law_pick := rfl
theorem cc__law_same : c__law_same = some b__law_same := rfl
theorem cc__law_word : c__law_word = some b__law_word := rfl
theorem cc__law_reduced : c__law_reduced = some b__law_reduced := rfl
theorem cc__law_core : c__law_core = some b__law_core := rfl
theorem cc_law : c_law = some b_law := rfl
theorem all_mk {l : PySem.W.OpenLaw} {w : World} {K : PySem.W.Frag} {h : Heap} {mg : Str → Option Value} {fa f0 f1 f2 f3 f4 f5 f6 f7 f8 f9 f10 f11 f12 f13 f14 : Addr} (X : K.In h) (G : h.Ns mainGlobals mg) (hfa : mg "law" = some (.ref fa))
    {od0 an0 od1 an1 od2 an2 od3 an3 od4 an4 od5 an5 od6 an6 od7 an7 od8 an8 od9 an9 od10 an10 od11 an11 od12 an12 od13 an13 od14 an14 : Option Addr} {sl0 sl1 sl2 sl3 sl4 sl5 sl6 sl7 sl8 sl9 sl10 sl11 sl12 sl13 sl14 : Array (Option Value)} {oc0 kV0 dc0 pm0 cd0 ct0 oc1 kV1 dc1 pm1 cd1 ct1 oc2 kV2 dc2 pm2 cd2 ct2 oc3 kV3 dc3 pm3 cd3 ct3 oc4 kV4 dc4 pm4 cd4 ct4 oc5 kV5 dc5 pm5 cd5 ct5 oc6 kV6 dc6 pm6 cd6 ct6 oc7 kV7 dc7 pm7 cd7 ct7 oc8 kV8 dc8 pm8 cd8 ct8 oc9 kV9 dc9 pm9 cd9 ct9 oc10 kV10 dc10 pm10 cd10 ct10 oc11 kV11 dc11 pm11 cd11 ct11 oc12 kV12 dc12 pm12 cd12 ct12 oc13 kV13 dc13 pm13 cd13 ct13 oc14 kV14 dc14 pm14 cd14 ct14 : Value}
    (a0 : PySem.W.nsIn K mainGlobals "reduced" = some (some (.ref f0))) (l0 : K.lookup f0 = some ⟨oc0, od0, .func (PySem.W.fnOf "reduced" "reduced" (defArgs s_reduced) (defBody s_reduced) (defScope s_reduced) .none kV0 dc0 pm0 an0 cd0 ct0), sl0⟩) (c0 : PySem.W.codeIn K cd0 "reduced" = true) (k0 : PySem.W.keepIn K (.ref f0) = true)
    (a1 : PySem.W.nsIn K mainGlobals "inverse_word" = some (some (.ref f1))) (l1 : K.lookup f1 = some ⟨oc1, od1, .func (PySem.W.fnOf "inverse_word" "inverse_word" (defArgs s_inverse_word) (defBody s_inverse_word) (defScope s_inverse_word) .none kV1 dc1 pm1 an1 cd1 ct1), sl1⟩) (c1 : PySem.W.codeIn K cd1 "inverse_word" = true) (k1 : PySem.W.keepIn K (.ref f1) = true)
    (a2 : PySem.W.nsIn K mainGlobals "joined" = some (some (.ref f2))) (l2 : K.lookup f2 = some ⟨oc2, od2, .func (PySem.W.fnOf "joined" "joined" (defArgs s_joined) (defBody s_joined) (defScope s_joined) .none kV2 dc2 pm2 an2 cd2 ct2), sl2⟩) (c2 : PySem.W.codeIn K cd2 "joined" = true) (k2 : PySem.W.keepIn K (.ref f2) = true)
    (a3 : PySem.W.nsIn K mainGlobals "substituted" = some (some (.ref f3))) (l3 : K.lookup f3 = some ⟨oc3, od3, .func (PySem.W.fnOf "substituted" "substituted" (defArgs s_substituted) (defBody s_substituted) (defScope s_substituted) .none kV3 dc3 pm3 an3 cd3 ct3), sl3⟩) (c3 : PySem.W.codeIn K cd3 "substituted" = true) (k3 : PySem.W.keepIn K (.ref f3) = true)
    (a4 : PySem.W.nsIn K mainGlobals "core" = some (some (.ref f4))) (l4 : K.lookup f4 = some ⟨oc4, od4, .func (PySem.W.fnOf "core" "core" (defArgs s_core) (defBody s_core) (defScope s_core) .none kV4 dc4 pm4 an4 cd4 ct4), sl4⟩) (c4 : PySem.W.codeIn K cd4 "core" = true) (k4 : PySem.W.keepIn K (.ref f4) = true)
    (a5 : PySem.W.nsIn K mainGlobals "as_conjugate" = some (some (.ref f5))) (l5 : K.lookup f5 = some ⟨oc5, od5, .func (PySem.W.fnOf "as_conjugate" "as_conjugate" (defArgs s_as_conjugate) (defBody s_as_conjugate) (defScope s_as_conjugate) .none kV5 dc5 pm5 an5 cd5 ct5), sl5⟩) (c5 : PySem.W.codeIn K cd5 "as_conjugate" = true) (k5 : PySem.W.keepIn K (.ref f5) = true)
    (a6 : PySem.W.nsIn K mainGlobals "counts" = some (some (.ref f6))) (l6 : K.lookup f6 = some ⟨oc6, od6, .func (PySem.W.fnOf "counts" "counts" (defArgs s_counts) (defBody s_counts) (defScope s_counts) .none kV6 dc6 pm6 an6 cd6 ct6), sl6⟩) (c6 : PySem.W.codeIn K cd6 "counts" = true) (k6 : PySem.W.keepIn K (.ref f6) = true)
    (a7 : PySem.W.nsIn K mainGlobals "is_free_word" = some (some (.ref f7))) (l7 : K.lookup f7 = some ⟨oc7, od7, .func (PySem.W.fnOf "is_free_word" "is_free_word" (defArgs s_is_free_word) (defBody s_is_free_word) (defScope s_is_free_word) .none kV7 dc7 pm7 an7 cd7 ct7), sl7⟩) (c7 : PySem.W.codeIn K cd7 "is_free_word" = true) (k7 : PySem.W.keepIn K (.ref f7) = true)
    (a8 : PySem.W.nsIn K mainGlobals "_law_start" = some (some (.ref f8))) (l8 : K.lookup f8 = some ⟨oc8, od8, .func (PySem.W.fnOf "_law_start" "_law_start" (defArgs s__law_start) (defBody s__law_start) (defScope s__law_start) .none kV8 dc8 pm8 an8 cd8 ct8), sl8⟩) (c8 : PySem.W.codeIn K cd8 "_law_start" = true) (k8 : PySem.W.keepIn K (.ref f8) = true)
    (a9 : PySem.W.nsIn K mainGlobals "_law_pick" = some (some (.ref f9))) (l9 : K.lookup f9 = some ⟨oc9, od9, .func (PySem.W.fnOf "_law_pick" "_law_pick" (defArgs s__law_pick) (defBody s__law_pick) (defScope s__law_pick) .none kV9 dc9 pm9 an9 cd9 ct9), sl9⟩) (c9 : PySem.W.codeIn K cd9 "_law_pick" = true) (k9 : PySem.W.keepIn K (.ref f9) = true)
    (a10 : PySem.W.nsIn K mainGlobals "_law_same" = some (some (.ref f10))) (l10 : K.lookup f10 = some ⟨oc10, od10, .func (PySem.W.fnOf "_law_same" "_law_same" (defArgs s__law_same) (defBody s__law_same) (defScope s__law_same) .none kV10 dc10 pm10 an10 cd10 ct10), sl10⟩) (c10 : PySem.W.codeIn K cd10 "_law_same" = true) (k10 : PySem.W.keepIn K (.ref f10) = true)
    (a11 : PySem.W.nsIn K mainGlobals "_law_word" = some (some (.ref f11))) (l11 : K.lookup f11 = some ⟨oc11, od11, .func (PySem.W.fnOf "_law_word" "_law_word" (defArgs s__law_word) (defBody s__law_word) (defScope s__law_word) .none kV11 dc11 pm11 an11 cd11 ct11), sl11⟩) (c11 : PySem.W.codeIn K cd11 "_law_word" = true) (k11 : PySem.W.keepIn K (.ref f11) = true)
    (a12 : PySem.W.nsIn K mainGlobals "_law_reduced" = some (some (.ref f12))) (l12 : K.lookup f12 = some ⟨oc12, od12, .func (PySem.W.fnOf "_law_reduced" "_law_reduced" (defArgs s__law_reduced) (defBody s__law_reduced) (defScope s__law_reduced) .none kV12 dc12 pm12 an12 cd12 ct12), sl12⟩) (c12 : PySem.W.codeIn K cd12 "_law_reduced" = true) (k12 : PySem.W.keepIn K (.ref f12) = true)
    (a13 : PySem.W.nsIn K mainGlobals "_law_core" = some (some (.ref f13))) (l13 : K.lookup f13 = some ⟨oc13, od13, .func (PySem.W.fnOf "_law_core" "_law_core" (defArgs s__law_core) (defBody s__law_core) (defScope s__law_core) .none kV13 dc13 pm13 an13 cd13 ct13), sl13⟩) (c13 : PySem.W.codeIn K cd13 "_law_core" = true) (k13 : PySem.W.keepIn K (.ref f13) = true)
    (a14 : PySem.W.nsIn K mainGlobals "law" = some (some (.ref f14))) (l14 : K.lookup f14 = some ⟨oc14, od14, .func (PySem.W.fnOf "law" "law" (defArgs s_law) (defBody s_law) (defScope s_law) .none kV14 dc14 pm14 an14 cd14 ct14), sl14⟩) (c14 : PySem.W.codeIn K cd14 "law" = true) (k14 : PySem.W.keepIn K (.ref f14) = true)
    (z0 : PySem.W.nsIn K mainGlobals "tuple" = some none)
    (z1 : PySem.W.nsIn K mainGlobals "len" = some none)
    (z2 : PySem.W.nsIn K mainGlobals "reversed" = some none)
    (z3 : PySem.W.nsIn K mainGlobals "range" = some none)
    (z4 : PySem.W.nsIn K mainGlobals "all" = some none)
    (z5 : PySem.W.nsIn K mainGlobals "isinstance" = some none)
    (z6 : PySem.W.nsIn K mainGlobals "int" = some none)
    (z7 : PySem.W.nsIn K mainGlobals "bool" = some none)
    (z8 : PySem.W.nsIn K mainGlobals "abs" = some none)
    (z9 : PySem.W.nsIn K mainGlobals "str" = some none)
    (z10 : PySem.W.nsIn K mainGlobals "list" = some none)
    : ∃ fd : FuncData, (∀ (s : Shared) (v : Value), BindsTo s fd ⟨[v], []⟩ [("script", v)]) ∧ ∀ base : Heap, K.In base → base.Ns mainGlobals mg → FnOk l.prog w K mg base CX0 (dep + 1) fa fd ["script"] (spL K (callN tab fue dep) fue N_law.length b_law) := by
  have e := hfa.symm.trans (PySem.W.mg_of X G a14)
  cases e
  have F0 := fun_mk (st := s_reduced) l0 c0 k0
  have F1 := fun_mk (st := s_inverse_word) l1 c1 k1
  have F2 := fun_mk (st := s_joined) l2 c2 k2
  have F3 := fun_mk (st := s_substituted) l3 c3 k3
  have F4 := fun_mk (st := s_core) l4 c4 k4
  have F5 := fun_mk (st := s_as_conjugate) l5 c5 k5
  have F6 := fun_mk (st := s_counts) l6 c6 k6
  have F7 := fun_mk (st := s_is_free_word) l7 c7 k7
  have F8 := fun_mk (st := s__law_start) l8 c8 k8
  have F9 := fun_mk (st := s__law_pick) l9 c9 k9
  have F10 := fun_mk (st := s__law_same) l10 c10 k10
  have F11 := fun_mk (st := s__law_word) l11 c11 k11
  have F12 := fun_mk (st := s__law_reduced) l12 c12 k12
  have F13 := fun_mk (st := s__law_core) l13 c13 k13
  have hE : EnvOk K mg gl [f0, f1, f2, f3, f4, f5, f6, f7, f8, f9, f10, f11, f12, f13] := by
    refine ⟨fun x q => ?_, fun x v q => ?_, fun x i q => ?_⟩
    · have m := gl_mem q
      simp only [gl, List.mem_cons, List.not_mem_nil, or_false, Prod.mk.injEq, reduceCtorEq, and_false, and_true, false_or] at m
      rcases m with e | e | e | e | e | e | e | e | e | e | e
      · subst e; exact PySem.W.mg_none_of X G z0
      · subst e; exact PySem.W.mg_none_of X G z1
      · subst e; exact PySem.W.mg_none_of X G z2
      · subst e; exact PySem.W.mg_none_of X G z3
      · subst e; exact PySem.W.mg_none_of X G z4
      · subst e; exact PySem.W.mg_none_of X G z5
      · subst e; exact PySem.W.mg_none_of X G z6
      · subst e; exact PySem.W.mg_none_of X G z7
      · subst e; exact PySem.W.mg_none_of X G z8
      · subst e; exact PySem.W.mg_none_of X G z9
      · subst e; exact PySem.W.mg_none_of X G z10
    · have m := gl_mem q
      simp only [gl, List.mem_cons, List.not_mem_nil, or_false, Prod.mk.injEq, reduceCtorEq, and_false] at m
    · have m := gl_mem q
      simp only [gl, List.mem_cons, List.not_mem_nil, or_false, Prod.mk.injEq, reduceCtorEq, and_false, Gk.fn.injEq] at m
      rcases m with ⟨e, e2⟩ | ⟨e, e2⟩ | ⟨e, e2⟩ | ⟨e, e2⟩ | ⟨e, e2⟩ | ⟨e, e2⟩ | ⟨e, e2⟩ | ⟨e, e2⟩ | ⟨e, e2⟩ | ⟨e, e2⟩ | ⟨e, e2⟩ | ⟨e, e2⟩ | ⟨e, e2⟩ | ⟨e, e2⟩
      · subst e e2; exact ⟨f0, rfl, PySem.W.mg_of X G a0, k0⟩
      · subst e e2; exact ⟨f1, rfl, PySem.W.mg_of X G a1, k1⟩
      · subst e e2; exact ⟨f2, rfl, PySem.W.mg_of X G a2, k2⟩
      · subst e e2; exact ⟨f3, rfl, PySem.W.mg_of X G a3, k3⟩
      · subst e e2; exact ⟨f4, rfl, PySem.W.mg_of X G a4, k4⟩
      · subst e e2; exact ⟨f5, rfl, PySem.W.mg_of X G a5, k5⟩
      · subst e e2; exact ⟨f6, rfl, PySem.W.mg_of X G a6, k6⟩
      · subst e e2; exact ⟨f7, rfl, PySem.W.mg_of X G a7, k7⟩
      · subst e e2; exact ⟨f8, rfl, PySem.W.mg_of X G a8, k8⟩
      · subst e e2; exact ⟨f9, rfl, PySem.W.mg_of X G a9, k9⟩
      · subst e e2; exact ⟨f10, rfl, PySem.W.mg_of X G a10, k10⟩
      · subst e e2; exact ⟨f11, rfl, PySem.W.mg_of X G a11, k11⟩
      · subst e e2; exact ⟨f12, rfl, PySem.W.mg_of X G a12, k12⟩
      · subst e e2; exact ⟨f13, rfl, PySem.W.mg_of X G a13, k13⟩
  refine ⟨PySem.W.fnOf "law" "law" (defArgs s_law) (defBody s_law) (defScope s_law) .none kV14 dc14 pm14 an14 cd14 ct14, fun s v => .of_eq rfl, fun base _ _ => ?_⟩
  refine law_ok (adr := [f0, f1, f2, f3, f4, f5, f6, f7, f8, f9, f10, f11, f12, f13]) dep hE (fun i f e => ?_) (fun_mk (st := s_law) l14 c14 k14) sc_law cc_law
  match i, e with
  | 0, e => cases e; exact ⟨_, rfl, ⟨⟨_, _, _, _, N_reduced, _, F0, sc_reduced, rfl, rfl, cc_reduced, fun _ _ _ _ _ _ us hl => match us, hl with | [_], _ => rfl⟩⟩⟩
  | 1, e => cases e; exact ⟨_, rfl, ⟨⟨_, _, _, _, N_inverse_word, _, F1, sc_inverse_word, rfl, rfl, cc_inverse_word, fun _ _ _ _ _ _ us hl => match us, hl with | [_], _ => rfl⟩⟩⟩
  | 2, e => cases e; exact ⟨_, rfl, ⟨⟨_, _, _, _, N_joined, [], _, F2, sc_joined, rfl, rfl, cc_joined, fun _ _ _ _ _ _ us rest hl => match us, rest, hl with | [], [], _ => rfl | [], _ :: _, _ => rfl⟩⟩⟩
  | 3, e => cases e; exact ⟨_, rfl, ⟨⟨_, _, _, _, N_substituted, _, F3, sc_substituted, rfl, rfl, cc_substituted, fun _ _ _ _ _ _ us hl => match us, hl with | [_, _], _ => rfl⟩⟩⟩
  | 4, e => cases e; exact ⟨_, rfl, ⟨⟨_, _, _, _, N_core, _, F4, sc_core, rfl, rfl, cc_core, fun _ _ _ _ _ _ us hl => match us, hl with | [_], _ => rfl⟩⟩⟩
  | 5, e => cases e; exact ⟨_, rfl, ⟨⟨_, _, _, _, N_as_conjugate, _, F5, sc_as_conjugate, rfl, rfl, cc_as_conjugate, fun _ _ _ _ _ _ us hl => match us, hl with | [_], _ => rfl⟩⟩⟩
  | 6, e => cases e; exact ⟨_, rfl, ⟨⟨_, _, _, _, N_counts, _, F6, sc_counts, rfl, rfl, cc_counts, fun _ _ _ _ _ _ us hl => match us, hl with | [_, _], _ => rfl⟩⟩⟩
  | 7, e => cases e; exact ⟨_, rfl, ⟨⟨_, _, _, _, N_is_free_word, _, F7, sc_is_free_word, rfl, rfl, cc_is_free_word, fun _ _ _ _ _ _ us hl => match us, hl with | [_, _], _ => rfl⟩⟩⟩
  | 8, e => cases e; exact ⟨_, rfl, prim_of hE (nN := 1) (np := 1) (body := startB 7) ⟨⟨_, _, _, _, N__law_start, _, F8, sc__law_start, rfl, rfl, cc__law_start, fun _ _ _ _ _ _ us hl => match us, hl with | [_], _ => rfl⟩⟩ (start_run (by decide) (by decide))⟩
  | 9, e => cases e; exact ⟨_, rfl, prim_of hE (nN := 4) (np := 2) (body := pickB) ⟨⟨_, _, _, _, N__law_pick, _, F9, sc__law_pick, rfl, rfl, cc__law_pick, fun _ _ _ _ _ _ us hl => match us, hl with | [_, _], _ => rfl⟩⟩ pick_ok⟩
  | 10, e => cases e; exact ⟨_, rfl, ⟨⟨_, _, _, _, N__law_same, _, F10, sc__law_same, rfl, rfl, cc__law_same, fun _ _ _ _ _ _ us hl => match us, hl with | [_, _], _ => rfl⟩⟩⟩
  | 11, e => cases e; exact ⟨_, rfl, ⟨⟨_, _, _, _, N__law_word, _, F11, sc__law_word, rfl, rfl, cc__law_word, fun _ _ _ _ _ _ us hl => match us, hl with | [_, _, _], _ => rfl⟩⟩⟩
  | 12, e => cases e; exact ⟨_, rfl, ⟨⟨_, _, _, _, N__law_reduced, _, F12, sc__law_reduced, rfl, rfl, cc__law_reduced, fun _ _ _ _ _ _ us hl => match us, hl with | [_, _], _ => rfl⟩⟩⟩
  | 13, e => cases e; exact ⟨_, rfl, ⟨⟨_, _, _, _, N__law_core, _, F13, sc__law_core, rfl, rfl, cc__law_core, fun _ _ _ _ _ _ us hl => match us, hl with | [_], _ => rfl⟩⟩⟩
  | i + 14, e => simp at e
end Eng.k03
/-! k03: free words. The evaluator on the defs of the text. -/
namespace Eng.k03
open PySem L2 Eng
def push (ys : List Int) (x : Int) : List Int := if ys.getLast? = some (0 - x) then ys.dropLast else ys ++ [x]
def red (ws : List Int) : List Int := ws.foldl push []
def inv (ws : List Int) : List Int := (ws.map fun x => 0 - x).reverse
theorem push_len (ys : List Int) (x : Int) : (push ys x).length ≤ ys.length + 1 := by
  unfold push
  split
  · rw [List.length_dropLast]; omega
  · rw [List.length_append]; simp
theorem fold_len : ∀ (ws ys : List Int), (ws.foldl push ys).length ≤ ys.length + ws.length
  | [], ys => by simp
  | x :: ws, ys => by
    have h1 := fold_len ws (push ys x)
    have h2 := push_len ys x
    rw [List.foldl_cons, List.length_cons]
    omega
theorem red_len (ws : List Int) : (red ws).length ≤ ws.length := by
  show (ws.foldl push []).length ≤ _
  have := fold_len ws []
  simpa using this
section
variable {cf : Nat → List Val → Hs → T (Val × Hs)} {fu : Nat} {h : Hs} {s : Env}
def stepB (i j : Nat) : S := .ite (.and (.cmp .gt (.bi .len false [.v i]) (.c (.int 0))) (.cmp .eq (.sub (.v i) (.neg (.c (.int 1)))) (.bin .sub false (.c (.int 0)) (.v j)))) [.ex (.me (.v i) .pop [])] [.ex (.me (.v i) .append [.v j])]
theorem step_ok {i j : Nat} {x : Int} {ys : List Int} (k : h.lk.contains h.n = false) (hi : s[i]? = some (some (.ref h.n))) (hj : s[j]? = some (some (.int x))) (hs : ys.length ≤ 100000) : exs cf fu [stepB i j] s (hl h (iv ys)) = .ok (.nx, s, hl h (iv (push ys x))) := by
  rcases List.eq_nil_or_concat ys with e | ⟨zs, z, e⟩
  · subst e
    simp [stepB, hi, hj, hl_app k, push, iv]
  · subst e
    have hz : (iv (zs.concat z)).length ≤ 1048576 := by simp at hs ⊢; omega
    have e1 : iv (zs.concat z) = iv zs ++ [.int z] := by simp [iv]
    have e2 : ∀ m, biV .len m [.ref h.n] (hl h (iv zs ++ [.int z])) = .ok (.int (zs.length + 1 : Nat), hl h (iv zs ++ [.int z])) := fun m => by
      rw [hl_len]; simp
    by_cases q : z = 0 - x
    · have e3 : push (zs.concat z) x = zs := by simp [push, q]
      rw [e3, e1]
      simp only [stepB, q_exsc, q_if, q_tst, q_and, q_cmp, q_bi, q_cons, q_nil, q_v, hi, hj, T.bind_ok, e2, q_c, q_cmpI, q_gt, q_sub, q_neg, hl_last, q_bin, q_subI, q_eq, q_ex, q_me, hl_itemsL, hl_pop k]
      have p1 : (0 : Int) < ((zs.length + 1 : Nat) : Int) := by omega
      simp [p1, q, hl_pop k]
    · have e3 : push (zs.concat z) x = zs.concat z ++ [x] := by
        unfold push
        rw [if_neg (by simp; omega)]
      rw [e3, e1]
      have e4 : meV .append (.ref h.n) [.int x] (hl h (iv zs ++ [.int z])) = .ok (.non, hl h (iv zs ++ [.int z] ++ [.int x])) := hl_app k (by rw [← e1]; exact hz)
      have e5 : iv (zs.concat z ++ [x]) = iv zs ++ [.int z] ++ [.int x] := by simp [iv]
      rw [e5]
      simp only [stepB, q_exsc, q_if, q_tst, q_and, q_cmp, q_bi, q_cons, q_nil, q_v, hi, hj, T.bind_ok, e2, q_c, q_cmpI, q_gt, q_sub, q_neg, hl_last, q_bin, q_subI, q_eq, q_ex, q_me, hl_itemsL, e4]
      have p1 : (0 : Int) < ((zs.length + 1 : Nat) : Int) := by omega
      have p2 : ¬ z = -x := by omega
      simp [p1, p2, e4]
theorem loop_ok {i j : Nat} (hij : i ≠ j) (hjl : j < s.length) (k : h.lk.contains h.n = false) : ∀ (ws ys : List Int) (s : Env), j < s.length → s[i]? = some (some (.ref h.n)) → ys.length + ws.length ≤ 100000 →
    ∃ s', forL (tgS (.nm j)) (exs cf fu [stepB i j]) (iv ws) s (hl h (iv ys)) = .ok (.nx, s', hl h (iv (ws.foldl push ys))) ∧ s'.length = s.length ∧ ∀ m, m ≠ j → s'[m]? = s[m]?
  | [], ys, s, hl0, hi, hs => ⟨s, rfl, rfl, fun _ _ => rfl⟩
  | x :: ws, ys, s, hl0, hi, hs => by
    rw [List.length_cons] at hs
    have h1 : (s.set j (some (.int x)))[i]? = some (some (.ref h.n)) := by rw [List.getElem?_set_ne (Ne.symm hij)]; exact hi
    have h2 : (s.set j (some (.int x)))[j]? = some (some (.int x)) := by rw [List.getElem?_set_self hl0]
    have hp := push_len ys x
    obtain ⟨s', e1, e2, e3⟩ := loop_ok hij hjl k ws (push ys x) (s.set j (some (.int x))) (by simpa using hl0) h1 (by omega)
    refine ⟨s', ?_, by simpa using e2, fun m hm => by rw [e3 m hm, List.getElem?_set_ne (Ne.symm hm)]⟩
    rw [iv_cons, q_forc]
    simp only [q_tgnm, step_ok k h1 h2 (by omega : ys.length ≤ 100000), T.bind_ok]
    exact e1
end
theorem mk_hl {h : Hs} : mkL true [] ⟨h.os, h.n, h.n, h.lk⟩ = .ok (.ref h.n, hl h (iv [])) := rfl
theorem fn_reduced {fu d : Nat} {ws : List Int} {v : Val} {h : Hs} (hv : v = .tup (iv ws) ∨ v = .tl (iv ws)) (hs : ws.length ≤ 100000) (k : h.lk.contains h.n = false) : callN tab fu (d + 1) 0 [v] h = .ok (.tup (iv (red ws)), h) := by
  show runF (callN tab fu d) fu 3 b_reduced true [v] h = _
  obtain ⟨s', e1, e2, e3⟩ := loop_ok (cf := callN tab fu d) (fu := fu) (h := h) (i := 1) (j := 2) (s := [some v, some (.ref h.n), none]) (by decide) (by simp) k ws [] [some v, some (.ref h.n), none] (by simp) rfl (by simpa using hs)
  have src : srcV .val [v] (hl h (iv [])) = some (iv ws, none) := by rcases hv with rfl | rfl <;> rfl
  have s1 : s'[1]? = some (some (.ref h.n)) := e3 1 (by decide)
  refine runF_of (s1 := s') (h1 := hl h (iv (red ws))) (v := .tup (iv (red ws))) ?_ (by simp) fz_iv
  show exs (callN tab fu d) fu b_reduced [some v, none, none] ⟨h.os, h.n, h.n, h.lk⟩ = _
  have e1 : forL (tgS (.nm 2)) (exs (callN tab fu d) fu [stepB 1 2]) (iv ws) [some v, some (.ref h.n), none] (hl h (iv [])) = .ok (.nx, s', hl h (iv (red ws))) := e1
  have ef : ex (callN tab fu d) fu (.for_ (.nm 2) .val [.v 0] [stepB 1 2]) [some v, some (.ref h.n), none] (hl h (iv [])) = .ok (.nx, s', hl h (iv (red ws))) := by
    rw [q_for]
    simp only [q_cons, q_v, List.getElem?_cons_zero, T.bind_ok, q_nil, src, e1]
  have ea : ex (callN tab fu d) fu (.asg (.nm 1) (.lst true [])) [some v, none, none] ⟨h.os, h.n, h.n, h.lk⟩ = .ok (.nx, [some v, some (.ref h.n), none], hl h (iv [])) := rfl
  have er : ex (callN tab fu d) fu (.ret (.bi .tuple false [.v 1])) s' (hl h (iv (red ws))) = .ok (.rt (.tup (iv (red ws))), s', hl h (iv (red ws))) := by
    simp [s1]
  show exs (callN tab fu d) fu [.asg (.nm 1) (.lst true []), .for_ (.nm 2) .val [.v 0] [stepB 1 2], .ret (.bi .tuple false [.v 1])] _ _ = _
  rw [exsN ea, exsN ef, exsR er]
end Eng.k03
namespace Eng.k03
open PySem L2 Eng
section
variable {cf : Nat → List Val → Hs → T (Val × Hs)} {fu : Nat} {h : Hs} {s : Env}
theorem lc_map {bd : Val → Option Env} {t : Env → Hs → T (Bool × Hs)} {elt : Env → Hs → T (Val × Hs)} {A : Type} {g : A → Val} {f : A → Val} : ∀ {xs : List A}, (∀ x ∈ xs, ∃ s, bd (g x) = some s ∧ t s h = .ok (true, h) ∧ elt s h = .ok (f x, h)) → lcL bd t elt (xs.map g) h = .ok (xs.map f, h)
  | [], _ => rfl
  | x :: xs, H => by
    obtain ⟨s, e1, e2, e3⟩ := H x List.mem_cons_self
    rw [List.map_cons, q_lcc]
    simp only [e1, e2, e3, T.bind_ok, lc_map (fun y m => H y (List.mem_cons_of_mem _ m)), List.map_cons]
theorem lc_filter {bd : Val → Option Env} {t : Env → Hs → T (Bool × Hs)} {elt : Env → Hs → T (Val × Hs)} {A : Type} {g : A → Val} {f : A → Val} {p : A → Bool} : ∀ {xs : List A}, (∀ x ∈ xs, ∃ s, bd (g x) = some s ∧ t s h = .ok (p x, h) ∧ (p x = true → elt s h = .ok (f x, h))) → lcL bd t elt (xs.map g) h = .ok ((xs.filter p).map f, h)
  | [], _ => rfl
  | x :: xs, H => by
    obtain ⟨s, e1, e2, e3⟩ := H x List.mem_cons_self
    have ih := lc_filter (xs := xs) (fun y m => H y (List.mem_cons_of_mem _ m))
    rw [List.map_cons, q_lcc]
    cases q : p x with
    | true =>
      rw [q] at e2
      simp only [e1, e2, e3 q, T.bind_ok, ih, List.filter_cons, q, if_true, List.map_cons]
    | false =>
      rw [q] at e2
      simp only [e1, e2, T.bind_ok, ih, List.filter_cons, q, if_false, Bool.false_eq_true]
theorem inv_map (ws : List Int) : inv ws = ws.reverse.map fun x => 0 - x := by simp [inv]
theorem inv_len (ws : List Int) : (inv ws).length = ws.length := by simp [inv]
theorem ev_rev {e : E} {j : Nat} {ws : List Int} (he : ev cf e s h = .ok (.tup (iv ws), h)) (hj : j < s.length) (hs : ws.length ≤ 1000000) :
    ev cf (.bi .tuple false [.lc false [j] (.nm j) .rev [e] [] (.bin .sub false (.c (.int 0)) (.v j))]) s h = .ok (.tup (iv (inv ws)), h) := by
  have m := lc_map (h := h) (bd := fun x => tgS (.nm j) x (wipeE s [j])) (t := evt cf []) (elt := ev cf (.bin .sub false (.c (.int 0)) (.v j))) (g := Val.int) (f := fun x => .int (0 - x)) (xs := ws.reverse) fun x _ => by
    refine ⟨(wipeE s [j]).set j (some (.int x)), rfl, rfl, ?_⟩
    have : ((wipeE s [j]).set j (some (.int x)))[j]? = some (some (.int x)) := by
      rw [List.getElem?_set_self]
      simpa [wipeE] using hj
    simp [this]
  have e1 : (iv ws).reverse = ws.reverse.map Val.int := by simp [iv]
  simp only [q_bi, q_cons, q_nil, q_lc, he, T.bind_ok, q_revT, e1, m, List.length_map, List.length_reverse, sm_of (show ws.length ≤ 1048576 by omega), if_true, q_mkF, q_tupL]
  simp [inv_map, iv]
theorem slX_nat {n d a : Nat} : slX n d (some (a : Int)) = min a n := by
  unfold slX
  simp only
  rw [decide_eq_false (by omega), if_neg Bool.false_ne_true, Int.toNat_natCast]
theorem cut_to {xs : List Val} {n : Nat} : cutL xs none (some (n : Int)) = xs.take n := by
  unfold cutL
  rw [slX_nat]
  show ((xs.drop 0).take (min n xs.length - 0)) = _
  rw [List.drop_zero, Nat.sub_zero]
  by_cases q : n ≤ xs.length
  · rw [Nat.min_eq_left q]
  · rw [Nat.min_eq_right (by omega), List.take_length, List.take_of_length_le (by omega)]
theorem cut_from {xs : List Val} {n : Nat} : cutL xs (some (n : Int)) none = xs.drop n := by
  unfold cutL
  rw [slX_nat]
  show ((xs.drop (min n xs.length)).take (xs.length - min n xs.length)) = _
  by_cases q : n ≤ xs.length
  · rw [Nat.min_eq_left q, List.take_of_length_le (by simp)]
  · rw [Nat.min_eq_right (by omega), List.drop_eq_nil_of_le (by omega), List.drop_eq_nil_of_le (by omega)]
    simp
theorem cut_mid {xs : List Val} {a b : Nat} (hb : b ≤ xs.length) (hab : a ≤ b) : cutL xs (some (a : Int)) (some (b : Int)) = (xs.take b).drop a := by
  unfold cutL
  rw [slX_nat, slX_nat, Nat.min_eq_left hb, Nat.min_eq_left (by omega), List.drop_take]
end
section
variable {cf : Nat → List Val → Hs → T (Val × Hs)} {fu : Nat} {h : Hs} {s : Env}
theorem exForV {tg : Tg} {sk : Sk} {e : E} {b : List S} {v : Val} {xs : List Val} {h1 : Hs} {r : T Rs} (he : ev cf e s h = .ok (v, h1)) (hs : srcV sk [v] h1 = some (xs, none)) (hf : forL (tgS tg) (exs cf fu b) xs s h1 = r) : ex cf fu (.for_ tg sk [e] b) s h = r := by
  rw [q_for]
  simp only [q_cons, q_nil, he, T.bind_ok, hs]
  exact hf
end
/-! ### the defs -/
section
variable {fu d : Nat} {h : Hs}
theorem fn_inv {ws : List Int} (hs : ws.length ≤ 1000000) : callN tab fu (d + 1) 1 [.tup (iv ws)] h = .ok (.tup (iv (inv ws)), h) := by
  show runF (callN tab fu d) fu 2 b_inverse_word true [.tup (iv ws)] h = _
  refine runF_of (s1 := [some (.tup (iv ws)), none]) (h1 := ⟨h.os, h.n, h.n, h.lk⟩) (v := .tup (iv (inv ws))) ?_ (Nat.le_refl _) fz_iv
  have e := ev_rev (cf := callN tab fu d) (e := .v 0) (j := 1) (s := [some (.tup (iv ws)), none]) (h := ⟨h.os, h.n, h.n, h.lk⟩) rfl (by simp) hs
  show exs (callN tab fu d) fu [.ret _] [some (.tup (iv ws)), none] _ = _
  exact exsR (exRet e)
/-- joined -/
def joinW (a : List Int) (wss : List (List Int)) : List Int := wss.foldl (fun a w => red (a ++ w)) a
theorem join_loop (k : h.lk.contains h.n = false) {w0 : Option Val} : ∀ (wss : List (List Int)) (a : List Int) (o : Option Val), a.length + (wss.map List.length).sum ≤ 100000 →
    ∃ o', forL (tgS (.nm 2)) (exs (callN tab fu (d + 1)) fu [.asg (.nm 1) (.call 0 [.bin .add false (.v 1) (.bi .tuple false [.v 2])])]) (wss.map fun w => .tup (iv w)) [w0, some (.tup (iv a)), o] h = .ok (.nx, [w0, some (.tup (iv (joinW a wss))), o'], h)
  | [], a, o, _ => ⟨o, rfl⟩
  | w :: wss, a, o, hs => by
    rw [List.map_cons, List.sum_cons] at hs
    have hr := red_len (a ++ w)
    rw [List.length_append] at hr
    obtain ⟨o', e⟩ := join_loop k wss (red (a ++ w)) (some (.tup (iv w))) (by omega)
    refine ⟨o', ?_⟩
    rw [List.map_cons, q_forc]
    have c : callN tab fu (d + 1) 0 [.tup (iv (a ++ w))] h = .ok (.tup (iv (red (a ++ w))), h) := fn_reduced (.inl rfl) (by rw [List.length_append]; omega) k
    simp [sm_of (show a.length + w.length ≤ 1048576 by omega), c]
    exact e
theorem fn_joined {wss : List (List Int)} (k : h.lk.contains h.n = false) (hs : (wss.map List.length).sum ≤ 100000) (hn : wss.length ≤ 1000) : callN tab fu (d + 2) 2 (wss.map fun w => .tup (iv w)) h = .ok (.tup (iv (joinW [] wss)), h) := by
  have c : callN tab fu (d + 2) 2 (wss.map fun w => .tup (iv w)) h = runF (callN tab fu (d + 1)) fu 3 b_joined true [.tup (wss.map fun w => .tup (iv w))] h := by
    show (if Nat.ble 0 _ && small _ then _ else _) = _
    rw [if_pos]
    · rfl
    · rw [sm_of (by rw [List.length_map]; omega), Bool.and_true]
      exact Nat.ble_eq.mpr (Nat.zero_le _)
  rw [c]
  obtain ⟨o', e⟩ := join_loop (fu := fu) (d := d) (h := ⟨h.os, h.n, h.n, h.lk⟩) (w0 := some (.tup (wss.map fun w => .tup (iv w)))) k wss [] none (by simpa using hs)
  refine runF_of (s1 := [some (.tup (wss.map fun w => .tup (iv w))), some (.tup (iv (joinW [] wss))), o']) (h1 := ⟨h.os, h.n, h.n, h.lk⟩) (v := .tup (iv (joinW [] wss))) ?_ (Nat.le_refl _) fz_iv
  show exs (callN tab fu (d + 1)) fu [.asg (.nm 1) (.tup []), .for_ (.nm 2) .val [.v 0] _, .ret (.v 1)] [some (.tup (wss.map fun w => .tup (iv w))), none, none] _ = _
  have ea : ex (callN tab fu (d + 1)) fu (.asg (.nm 1) (.tup [])) [some (.tup (wss.map fun w => .tup (iv w))), none, none] ⟨h.os, h.n, h.n, h.lk⟩ = .ok (.nx, [some (.tup (wss.map fun w => .tup (iv w))), some (.tup (iv [])), none], ⟨h.os, h.n, h.n, h.lk⟩) := rfl
  rw [exsN ea, exsN (exForV rfl rfl e), exsR (exRet rfl)]
end
end Eng.k03
namespace Eng.k03
open PySem L2 Eng
/-! ### substituted -/
def tw (w : List Int) : Val := .tup (iv w)
def img (imgs : List (List Int)) (x : Int) : List Int := if 0 < x then imgs.getD (x - 1).toNat [] else inv (imgs.getD (0 - x - 1).toNat [])
theorem subL_int {xs : List Val} {h : Hs} {i : Int} {v : Val} (h0 : 0 ≤ i) (e : xs[i.toNat]? = some v) : subV (.tl xs) (.int i) h = some v := by
  have := subL_nat (h := h) e
  rwa [Int.toNat_of_nonneg h0] at this
theorem subT_int {xs : List Val} {h : Hs} {i : Int} {v : Val} (h0 : 0 ≤ i) (e : xs[i.toNat]? = some v) : subV (.tup xs) (.int i) h = some v := by
  have := subT_nat (h := h) e
  rwa [Int.toNat_of_nonneg h0] at this
section
variable {fu d : Nat} {h : Hs}
theorem img_ev {s : Env} {imgs : List (List Int)} {x : Int} (h1 : s[1]? = some (some (.tl (imgs.map tw)))) (h3 : s[3]? = some (some (.int x))) (hx : x ≠ 0) (hb : x.natAbs ≤ imgs.length) (hs : ∀ w ∈ imgs, w.length ≤ 1000) :
    ev (callN tab fu (d + 1)) (.ite (.cmp .gt (.v 3) (.c (.int 0))) (.sub (.v 1) (.bin .sub false (.v 3) (.c (.int 1)))) (.call 1 [.sub (.v 1) (.bin .sub false (.bin .sub false (.c (.int 0)) (.v 3)) (.c (.int 1)))])) s h = .ok (tw (img imgs x), h) := by
  by_cases q : 0 < x
  · have hl : (x - 1).toNat < imgs.length := by omega
    have e : (imgs.map tw)[(x - 1).toNat]? = some (tw (imgs[(x - 1).toNat])) := by rw [List.getElem?_map, List.getElem?_eq_getElem hl]; rfl
    have gd : imgs.getD (x - 1).toNat [] = imgs[(x - 1).toNat] := by rw [List.getD_eq_getElem?_getD, List.getElem?_eq_getElem hl]; rfl
    have ei : img imgs x = imgs[(x - 1).toNat] := by rw [← gd]; exact if_pos q
    rw [ei]
    simp only [q_ite, q_tst, q_cmp, q_v, h3, T.bind_ok, q_c, q_cmpI, q_gt, decide_eq_true q, q_trb, q_sub, h1, q_bin, q_subI, subL_int (h := h) (show 0 ≤ x - 1 by omega) e]
  · have hl : (0 - x - 1).toNat < imgs.length := by omega
    have e : (imgs.map tw)[(0 - x - 1).toNat]? = some (tw (imgs[(0 - x - 1).toNat])) := by rw [List.getElem?_map, List.getElem?_eq_getElem hl]; rfl
    have c : callN tab fu (d + 1) 1 [tw (imgs[(0 - x - 1).toNat])] h = .ok (tw (inv (imgs[(0 - x - 1).toNat])), h) := fn_inv (by have := hs _ (List.getElem_mem hl); omega)
    have e2 := subL_int (h := h) (show 0 ≤ 0 - x - 1 by omega) e
    simp only [q_ite, q_tst, q_cmp, q_v, h3, T.bind_ok, q_c, q_cmpI, q_gt, decide_eq_false q, q_trb, q_call, q_cons, q_nil, q_sub, h1, q_bin, q_subI, e2, c]
    have gd : imgs.getD (0 - x - 1).toNat [] = imgs[(0 - x - 1).toNat] := by rw [List.getD_eq_getElem?_getD, List.getElem?_eq_getElem hl]; rfl
    have ei : img imgs x = inv imgs[(0 - x - 1).toNat] := by rw [← gd]; exact if_neg q
    rw [ei]
theorem img_len {imgs : List (List Int)} {x : Int} (hs : ∀ w ∈ imgs, w.length ≤ 1000) : (img imgs x).length ≤ 1000 := by
  have g : ∀ i, (imgs.getD i []).length ≤ 1000 := fun i => by
    rw [List.getD_eq_getElem?_getD]
    cases q : imgs[i]? with
    | none => simp
    | some w => exact hs w (List.mem_of_getElem? q)
  unfold img
  split
  · exact g _
  · rw [inv_len]; exact g _
def sbB : List S := [.asg (.nm 4) (.ite (.cmp .gt (.v 3) (.c (.int 0))) (.sub (.v 1) (.bin .sub false (.v 3) (.c (.int 1)))) (.call 1 [.sub (.v 1) (.bin .sub false (.bin .sub false (.c (.int 0)) (.v 3)) (.c (.int 1)))])), .for_ (.nm 5) .val [.v 4] [stepB 2 5]]
theorem sub_loop (k : h.lk.contains h.n = false) {imgs : List (List Int)} (hs : ∀ w ∈ imgs, w.length ≤ 1000) : ∀ (ws ys : List Int) (s : Env), s.length = 6 → s[1]? = some (some (.tl (imgs.map tw))) → s[2]? = some (some (.ref h.n)) → (∀ x ∈ ws, x ≠ 0 ∧ x.natAbs ≤ imgs.length) → ys.length + 1000 * ws.length ≤ 99000 →
    ∃ s', forL (tgS (.nm 3)) (exs (callN tab fu (d + 1)) fu sbB) (iv ws) s (hl h (iv ys)) = .ok (.nx, s', hl h (iv (ws.foldl (fun a x => (img imgs x).foldl push a) ys))) ∧ s'[2]? = some (some (.ref h.n))
  | [], ys, s, _, _, h2, _, _ => ⟨s, rfl, h2⟩
  | x :: ws, ys, s, hl0, h1, h2, hx, hb => by
    rw [List.length_cons] at hb
    obtain ⟨x0, xb⟩ := hx x List.mem_cons_self
    have il := img_len (x := x) hs
    have a1 : ((s.set 3 (some (.int x))))[1]? = some (some (.tl (imgs.map tw))) := by rw [List.getElem?_set_ne (by decide)]; exact h1
    have a3 : ((s.set 3 (some (.int x))))[3]? = some (some (.int x)) := by rw [List.getElem?_set_self (by omega)]
    have e1 := img_ev (fu := fu) (d := d) (h := hl h (iv ys)) a1 a3 x0 xb hs
    have b2 : ((s.set 3 (some (.int x))).set 4 (some (tw (img imgs x))))[2]? = some (some (.ref h.n)) := by rw [List.getElem?_set_ne (by decide), List.getElem?_set_ne (by decide)]; exact h2
    have b4 : ((s.set 3 (some (.int x))).set 4 (some (tw (img imgs x))))[4]? = some (some (tw (img imgs x))) := by rw [List.getElem?_set_self (by simp; omega)]
    obtain ⟨s1, f1, f2, f3⟩ := loop_ok (cf := callN tab fu (d + 1)) (fu := fu) (h := h) (i := 2) (j := 5) (s := (s.set 3 (some (.int x))).set 4 (some (tw (img imgs x)))) (by decide) (by simp; omega) k (img imgs x) ys _ (by simp; omega) b2 (by omega)
    have fl := fold_len (img imgs x) ys
    obtain ⟨s', g1, g2⟩ := sub_loop k hs ws ((img imgs x).foldl push ys) s1 (by rw [f2]; simp; omega) (by rw [f3 1 (by decide), List.getElem?_set_ne (by decide)]; exact a1) (by rw [f3 2 (by decide)]; exact b2) (fun y m => hx y (List.mem_cons_of_mem _ m)) (by omega)
    refine ⟨s', ?_, g2⟩
    rw [iv_cons, q_forc]
    simp only [q_tgnm]
    have body : exs (callN tab fu (d + 1)) fu sbB (s.set 3 (some (.int x))) (hl h (iv ys)) = .ok (.nx, s1, hl h (iv ((img imgs x).foldl push ys))) := by
      have z1 : ex (callN tab fu (d + 1)) fu (.asg (.nm 4) _) (s.set 3 (some (.int x))) (hl h (iv ys)) = .ok (.nx, (s.set 3 (some (.int x))).set 4 (some (tw (img imgs x))), hl h (iv ys)) := exNm e1
      have z2 : ev (callN tab fu (d + 1)) (.v 4) ((s.set 3 (some (.int x))).set 4 (some (tw (img imgs x)))) (hl h (iv ys)) = .ok (tw (img imgs x), hl h (iv ys)) := by rw [q_v, b4]
      show exs _ _ [_, _] _ _ = _
      rw [exsN z1, exsN (exForV z2 rfl f1)]
      rfl
    rw [body]
    exact g1
theorem fn_subst {ws : List Int} {imgs : List (List Int)} (k : h.lk.contains h.n = false) (hs : ∀ w ∈ imgs, w.length ≤ 1000) (hx : ∀ x ∈ ws, x ≠ 0 ∧ x.natAbs ≤ imgs.length) (hl : ws.length ≤ 90) :
    callN tab fu (d + 2) 3 [tw ws, .tl (imgs.map tw)] h = .ok (tw (red (ws.flatMap (img imgs))), h) := by
  show runF (callN tab fu (d + 1)) fu 6 b_substituted true [tw ws, .tl (imgs.map tw)] h = _
  obtain ⟨s', e1, e2⟩ := sub_loop (fu := fu) (d := d) k hs ws [] [some (tw ws), some (.tl (imgs.map tw)), some (.ref h.n), none, none, none] rfl rfl rfl hx (by simp; omega)
  have er : red (ws.flatMap (img imgs)) = ws.foldl (fun a x => (img imgs x).foldl push a) [] := by
    unfold red
    rw [List.foldl_flatMap]
  rw [er]
  refine runF_of (s1 := s') (h1 := Eng.hl h (iv (ws.foldl (fun a x => (img imgs x).foldl push a) []))) (v := tw (ws.foldl (fun a x => (img imgs x).foldl push a) [])) ?_ (by simp) fz_iv
  have ea : ex (callN tab fu (d + 1)) fu (.asg (.nm 2) (.lst true [])) [some (tw ws), some (.tl (imgs.map tw)), none, none, none, none] ⟨h.os, h.n, h.n, h.lk⟩ = .ok (.nx, [some (tw ws), some (.tl (imgs.map tw)), some (.ref h.n), none, none, none], Eng.hl h (iv [])) := rfl
  have er : ex (callN tab fu (d + 1)) fu (.ret (.bi .tuple false [.v 2])) s' (Eng.hl h (iv (ws.foldl (fun a x => (img imgs x).foldl push a) []))) = .ok (.rt (tw (ws.foldl (fun a x => (img imgs x).foldl push a) [])), s', Eng.hl h (iv (ws.foldl (fun a x => (img imgs x).foldl push a) []))) := by
    simp [e2, tw]
  show exs (callN tab fu (d + 1)) fu [.asg (.nm 2) (.lst true []), .for_ (.nm 3) .val [.v 0] sbB, .ret (.bi .tuple false [.v 2])] [some (tw ws), some (.tl (imgs.map tw)), none, none, none, none] _ = _
  rw [exsN ea, exsN (exForV rfl rfl e1), exsR er]
/-! ### core -/
def cnd (r : List Int) (m : Nat) : Bool := decide (2 * m + 1 < r.length) && decide (r[m]? = (r[r.length - 1 - m]?).map fun x => 0 - x)
def mid (r : List Int) (m : Nat) : List Int := (r.take (r.length - m)).drop m
def CoreP (r : List Int) (m : Nat) : Prop := (∀ j, j < m → cnd r j = true) ∧ cnd r m = false
def tstE : E := .and (.cmp .lt (.bin .add false (.bin .mul false (.c (.int 2)) (.v 1)) (.c (.int 1))) (.bi .len false [.v 0])) (.cmp .eq (.sub (.v 0) (.v 1)) (.bin .sub false (.c (.int 0)) (.sub (.v 0) (.bin .sub false (.bin .sub false (.bi .len false [.v 0]) (.c (.int 1))) (.v 1)))))
theorem tst_cnd {cf : Nat → List Val → Hs → T (Val × Hs)} {r : List Int} {m : Nat} (hm : m ≤ 100000) : tst cf tstE [some (tw r), some (.int m)] h = .ok (cnd r m, h) := by
  have ml : ∀ {b : Bool}, bopV .mul b (.int 2) (.int (m : Int)) h = .ok (.int (2 * m), h) := q_mul (by decide) (by omega)
  by_cases q : 2 * m + 1 < r.length
  · have q' : (2 : Int) * m + 1 < r.length := by omega
    have i1 : r[m]? = some r[m] := List.getElem?_eq_getElem (by omega)
    have i2 : r[r.length - 1 - m]? = some r[r.length - 1 - m] := List.getElem?_eq_getElem (by omega)
    have g1 : subV (tw r) (.int (m : Int)) h = some (.int r[m]) := subT_nat (by rw [iv_get, i1]; rfl)
    have g2 : subV (tw r) (.int ((r.length : Int) - 1 - m)) h = some (.int r[r.length - 1 - m]) := by
      have : ((r.length : Int) - 1 - m).toNat = r.length - 1 - m := by omega
      exact subT_int (by omega) (by rw [this, iv_get, i2]; rfl)
    have e0 : cnd r m = decide (r[m] = 0 - r[r.length - 1 - m]) := by
      unfold cnd
      rw [decide_eq_true q, Bool.true_and, i1, i2]
      simp
    rw [e0]
    have lt : ∀ b, biV .len b [tw r] h = .ok (.int r.length, h) := fun b => by simp [tw]
    simp only [tstE, q_tst, q_and, q_cmp, q_bin, q_c, T.bind_ok, q_v, List.getElem?_cons_zero, List.getElem?_cons_succ, ml, q_add, q_bi, q_cons, q_nil, lt, q_cmpI, q_lt, decide_eq_true q', q_sub, g1, q_subI, g2, q_eq, q_trb]
  · have q' : ¬ (2 : Int) * m + 1 < r.length := by omega
    have e0 : cnd r m = false := by
      unfold cnd
      rw [decide_eq_false q, Bool.false_and]
    rw [e0]
    have lt : ∀ b, biV .len b [tw r] h = .ok (.int r.length, h) := fun b => by simp [tw]
    simp only [tstE, q_tst, q_and, q_cmp, q_bin, q_c, T.bind_ok, q_v, List.getElem?_cons_zero, List.getElem?_cons_succ, ml, q_add, q_bi, q_cons, q_nil, lt, q_cmpI, q_lt, decide_eq_false q', q_trb]
theorem core_loop {cf : Nat → List Val → Hs → T (Val × Hs)} {r : List Int} (hr : r.length ≤ 1000) : ∀ (f m : Nat), r.length + 1 < f + m → m ≤ r.length + 1 → (∀ j, j < m → cnd r j = true) →
    ∃ m' : Nat, whlL (tst cf tstE) (exs cf fu [.aug 1 .add (.c (.int 1))]) f [some (tw r), some (.int (m : Int))] h = .ok (.nx, [some (tw r), some (.int (m' : Int))], h) ∧ CoreP r m'
  | 0, m, h1, h2, _ => by omega
  | f + 1, m, h1, h2, hc => by
    unfold whlL
    rw [tst_cnd (by omega)]
    cases q : cnd r m with
    | false => exact ⟨m, by simp, hc, q⟩
    | true =>
      have hm : 2 * m + 1 < r.length := by
        unfold cnd at q
        rw [Bool.and_eq_true, decide_eq_true_eq] at q
        exact q.1
      obtain ⟨m', e, p⟩ := core_loop (cf := cf) hr f (m + 1) (by omega) (by omega) fun j hj => by
        by_cases z : j = m
        · rw [z]; exact q
        · exact hc j (by omega)
      refine ⟨m', ?_, p⟩
      have eb : exs cf fu [.aug 1 .add (.c (.int 1))] [some (tw r), some (.int (m : Int))] h = .ok (.nx, [some (tw r), some (.int ((m + 1 : Nat) : Int))], h) := by
        simp [ipV]
      simp only [T.bind_ok, eb]
      exact e
theorem CoreP.le {r : List Int} {m : Nat} (c : CoreP r m) : 2 * m ≤ r.length := by
  cases m with
  | zero => omega
  | succ m =>
    have := c.1 m (by omega)
    unfold cnd at this
    rw [Bool.and_eq_true, decide_eq_true_eq] at this
    omega
theorem fz_pair {h : Hs} {n k : Nat} {a b : List Int} : fzV h n (k + 3) (.tup [tw a, tw b]) = some (.tup [tw a, tw b]) := by
  show (optAll (fzV h n (k + 2)) [tw a, tw b]).map Val.tup = _
  simp only [optAll, tw, fz_iv]
  rfl
theorem fn_core {ws : List Int} (hs : ws.length ≤ 900) (k : h.lk.contains h.n = false) : ∃ m : Nat, CoreP (red ws) m ∧ callN tab fue (d + 2) 4 [tw ws] h = .ok (.tup [tw ((red ws).take m), tw (mid (red ws) m)], h) := by
  have hr := red_len ws
  obtain ⟨m, e, p⟩ := core_loop (cf := callN tab fue (d + 1)) (fu := fue) (h := ⟨h.os, h.n, h.n, h.lk⟩) (r := red ws) (by omega) fue 0 (by show _ < 1000 + 0; omega) (by omega) fun j hj => absurd hj (by omega)
  refine ⟨m, p, ?_⟩
  show runF (callN tab fue (d + 1)) fue 2 b_core true [tw ws] h = _
  have le := p.le
  refine runF_of (s1 := [some (tw (red ws)), some (.int (m : Int))]) (h1 := ⟨h.os, h.n, h.n, h.lk⟩) (v := .tup [tw ((red ws).take m), tw (mid (red ws) m)]) ?_ (Nat.le_refl _) fz_pair
  have c : callN tab fue (d + 1) 0 [tw ws] ⟨h.os, h.n, h.n, h.lk⟩ = .ok (tw (red ws), ⟨h.os, h.n, h.n, h.lk⟩) := fn_reduced (.inl rfl) (by omega) k
  have e1 : ex (callN tab fue (d + 1)) fue (.asg (.nm 0) (.call 0 [.v 0])) [some (tw ws), none] ⟨h.os, h.n, h.n, h.lk⟩ = .ok (.nx, [some (tw (red ws)), none], ⟨h.os, h.n, h.n, h.lk⟩) := exNm (by simp [c])
  have e2 : ex (callN tab fue (d + 1)) fue (.asg (.nm 1) (.c (.int 0))) [some (tw (red ws)), none] ⟨h.os, h.n, h.n, h.lk⟩ = .ok (.nx, [some (tw (red ws)), some (.int ((0 : Nat) : Int))], ⟨h.os, h.n, h.n, h.lk⟩) := rfl
  have s1 : slcV false (tw (red ws)) none (some (m : Int)) ⟨h.os, h.n, h.n, h.lk⟩ = .ok (tw ((red ws).take m), ⟨h.os, h.n, h.n, h.lk⟩) := by
    simp only [slcV, tw, cut_to, iv_take]
  have s2 : slcV false (tw (red ws)) (some (m : Int)) (some (((red ws).length : Int) - m)) ⟨h.os, h.n, h.n, h.lk⟩ = .ok (tw (mid (red ws) m), ⟨h.os, h.n, h.n, h.lk⟩) := by
    have z : ((red ws).length : Int) - m = (((red ws).length - m : Nat) : Int) := by omega
    rw [z]
    simp only [slcV, tw]
    rw [cut_mid (by simp) (by omega), iv_take, iv_drop]
    rfl
  have lt : ∀ b, biV .len b [tw (red ws)] ⟨h.os, h.n, h.n, h.lk⟩ = .ok (.int (red ws).length, ⟨h.os, h.n, h.n, h.lk⟩) := fun b => by simp [tw]
  show exs (callN tab fue (d + 1)) fue [.asg (.nm 0) (.call 0 [.v 0]), .asg (.nm 1) (.c (.int 0)), .whl tstE [.aug 1 .add (.c (.int 1))], .ret _] [some (tw ws), none] _ = _
  rw [exsN e1, exsN e2, exsN (q_whl.trans e)]
  refine exsR (exRet ?_)
  simp [s1, s2, lt, sm_of]
theorem fn_conj {ws : List Int} (hs : ws.length ≤ 900) (k : h.lk.contains h.n = false) : ∃ m : Nat, CoreP (red ws) m ∧ callN tab fue (d + 3) 5 [tw ws] h = .ok (match mid (red ws) m with
    | [x] => .tup [tw ((red ws).take m), .int x]
    | _ => .non, h) := by
  obtain ⟨m, p, c⟩ := fn_core (d := d) (h := ⟨h.os, h.n, h.n, h.lk⟩) hs k
  refine ⟨m, p, ?_⟩
  show runF (callN tab fue (d + 2)) fue 3 b_as_conjugate true [tw ws] h = _
  have e1 : ex (callN tab fue (d + 2)) fue (.asg (.tp [.nm 1, .nm 2]) (.call 4 [.v 0])) [some (tw ws), none, none] ⟨h.os, h.n, h.n, h.lk⟩ = .ok (.nx, [some (tw ws), some (tw ((red ws).take m)), some (tw (mid (red ws) m))], ⟨h.os, h.n, h.n, h.lk⟩) := by
    simp [c]
  have lt : ∀ b, biV .len b [tw (mid (red ws) m)] ⟨h.os, h.n, h.n, h.lk⟩ = .ok (.int (mid (red ws) m).length, ⟨h.os, h.n, h.n, h.lk⟩) := fun b => by simp [tw]
  have go : ∀ {v : Val}, ev (callN tab fue (d + 2)) (.ite (.cmp .eq (.bi .len false [.v 2]) (.c (.int 1))) (.tup [.v 1, .sub (.v 2) (.c (.int 0))]) (.c .non)) [some (tw ws), some (tw ((red ws).take m)), some (tw (mid (red ws) m))] ⟨h.os, h.n, h.n, h.lk⟩ = .ok (v, ⟨h.os, h.n, h.n, h.lk⟩) → fzV ⟨h.os, h.n, h.n, h.lk⟩ h.n 12 v = some v → runF (callN tab fue (d + 2)) fue 3 b_as_conjugate true [tw ws] h = .ok (v, h) := fun {v} e fz =>
    runF_of (s1 := [some (tw ws), some (tw ((red ws).take m)), some (tw (mid (red ws) m))]) (h1 := ⟨h.os, h.n, h.n, h.lk⟩) (v := v) (by
      show exs _ _ [.asg (.tp [.nm 1, .nm 2]) (.call 4 [.v 0]), .ret _] [some (tw ws), none, none] _ = _
      rw [exsN e1]
      exact exsR (exRet e)) (Nat.le_refl _) fz
  split
  · rename_i x q
    refine go ?_ ?_
    · have g : subV (tw [x]) (.int 0) ⟨h.os, h.n, h.n, h.lk⟩ = some (.int x) := rfl
      rw [q] at lt ⊢
      simp [lt, g, sm_of]
    · show (optAll (fzV _ h.n 11) [tw ((red ws).take m), .int x]).map Val.tup = _
      simp only [optAll, tw, fz_iv, fz_int]
      rfl
  · rename_i q
    have ql : ¬ ((mid (red ws) m).length : Int) = 1 := fun z => by
      have z : (mid (red ws) m).length = 1 := by omega
      obtain ⟨x, hx⟩ := List.length_eq_one_iff.mp z
      exact q x hx
    refine go ?_ rfl
    simp [lt, ql]
end
end Eng.k03
namespace Eng.k03
open PySem L2 Eng
/-! ### _law_same, of a value and itself -/
theorem rngL_eq : ∀ (n : Nat) (lo : Int), rngL lo n = (List.range n).map fun (i : Nat) => Val.int (lo + i)
  | 0, lo => rfl
  | n + 1, lo => by
    show Val.int lo :: rngL (lo + 1) n = _
    rw [rngL_eq n, List.range_succ_eq_map, List.map_cons, List.map_map]
    refine congr (congrArg _ (by simp)) (List.map_congr_left fun i _ => ?_)
    show Val.int (lo + 1 + i) = Val.int (lo + ((i + 1 : Nat) : Int))
    congr 1
    omega
theorem src_rng {h : Hs} {n : Nat} (hn : n ≤ 1000000) : srcV .rng [.int (n : Int)] h = some (rngL 0 n, none) := by
  have : (bd62 (n : Int) && decide ((n : Int) ≤ 1000000)) = true := by
    unfold bd62
    simp
    omega
  unfold srcV
  simp only [this, if_true, Int.toNat_natCast]
theorem ev_lc {cf : Nat → List Val → Hs → T (Val × Hs)} {m : Bool} {own : List Nat} {tg : Tg} {sk : Sk} {es cs : List E} {e : E} {s : Env} {h h1 h2 : Hs} {vs xs r : List Val} (ha : evs cf es s h = .ok (vs, h1)) (hs : srcV sk vs h1 = some (xs, none)) (hn : small xs.length = true)
    (hl : lcL (fun x => tgS tg x (wipeE s own)) (evt cf cs) (ev cf e) xs h1 = .ok (r, h2)) : ev cf (.lc m own tg sk es cs e) s h = mkL m r h2 := by
  rw [q_lc, ha, T.bind_ok]
  simp only [hs, hn, if_true, hl, T.bind_ok]
/-! ### == of rows of numbers -/
theorem toD_iv {h : Hs} {k : Nat} : ∀ a : List Int, optAll (toD h (k + 1)) (iv a) = some (a.map PyData.int)
  | [] => rfl
  | x :: a => by
    rw [iv_cons]
    unfold optAll
    simp only [toD, toD_iv a]
    rfl
theorem eqvAll_int : ∀ a b : List Int, PyData.eqvAll (a.map PyData.int) (b.map PyData.int) = decide (a = b)
  | [], [] => by simp [PyData.eqvAll]
  | [], _ :: _ => by simp [PyData.eqvAll]
  | _ :: _, [] => by simp [PyData.eqvAll]
  | x :: a, y :: b => by
    rw [List.map_cons, List.map_cons, PyData.eqvAll, PyData.eqv, eqvAll_int a b]
    by_cases q : x = y
    · subst q; simp
    · simp [q]
theorem eq_tup {h : Hs} {a b : List Int} : copV .eq (tw a) (tw b) h = some (decide (a = b)) := by
  show veq h (.tup (iv a)) (.tup (iv b)) = _
  simp only [veq, toD, toD_iv, Option.map_some, PyData.eqv, eqvAll_int]
theorem eq_tl {h : Hs} {a b : List Int} : copV .eq (.tl (iv a)) (.tl (iv b)) h = some (decide (a = b)) := by
  show veq h (.tl (iv a)) (.tl (iv b)) = _
  simp only [veq, toD, toD_iv, Option.map_some, PyData.eqv, eqvAll_int]
theorem ne_tup {h : Hs} {a b : List Int} : copV .ne (tw a) (tw b) h = some (!decide (a = b)) := by
  show (veq h (.tup (iv a)) (.tup (iv b))).map (!·) = _
  have := eq_tup (h := h) (a := a) (b := b)
  rw [show veq h (.tup (iv a)) (.tup (iv b)) = some (decide (a = b)) from this]
  rfl
section
variable {fu : Nat}
theorem same_int {D : Nat} {i : Int} {h : Hs} : callN tab fu (D + 1) 10 [.int i, .int i] h = .ok (.bl true, h) := by
  show runF (callN tab fu D) fu 3 b__law_same true [.int i, .int i] h = _
  refine runF_of (s1 := [some (.int i), some (.int i), none]) (h1 := ⟨h.os, h.n, h.n, h.lk⟩) (v := .bl true) ?_ (Nat.le_refl _) rfl
  have er : ex (callN tab fu D) fu (.ret (.and (.isi (.v 0) .int) (.and (.not (.isi (.v 0) .bool)) (.cmp .eq (.v 0) (.v 1))))) [some (.int i), some (.int i), none] ⟨h.os, h.n, h.n, h.lk⟩ = .ok (.rt (.bl true), [some (.int i), some (.int i), none], ⟨h.os, h.n, h.n, h.lk⟩) := by
    refine exRet ?_
    have e1 : ev (callN tab fu D) (.cmp .eq (.v 0) (.v 1)) [some (.int i), some (.int i), none] ⟨h.os, h.n, h.n, h.lk⟩ = .ok (.bl true, ⟨h.os, h.n, h.n, h.lk⟩) := evCmp rfl rfl (by simp)
    exact evAndT rfl (evAndT rfl e1)
  show exs (callN tab fu D) fu (_ :: _ :: (.ite _ _ _) :: _) [some (.int i), some (.int i), none] _ = _
  rw [exsN rfl, exsN rfl]
  refine exsR ?_
  rw [exIf (q := true) rfl, if_pos rfl]
  exact exsR er
def sameE : E := .and (.cmp .eq (.bi .len false [.v 0]) (.bi .len false [.v 1])) (.cmp .eq (.lc false [2] (.nm 2) .rng [.bi .len false [.v 1]] [.not (.call 10 [.sub (.v 0) (.v 2), .sub (.v 1) (.v 2)])] (.c (.int 1))) (.lst false []))
theorem same_tup {D : Nat} {xs : List Val} {h : Hs} (H : ∀ x ∈ xs, ∀ h, callN tab fu D 10 [x, x] h = .ok (.bl true, h)) (hl : xs.length ≤ 1000000) : callN tab fu (D + 1) 10 [.tup xs, .tup xs] h = .ok (.bl true, h) := by
  show runF (callN tab fu D) fu 3 b__law_same true [.tup xs, .tup xs] h = _
  generalize hh : (⟨h.os, h.n, h.n, h.lk⟩ : Hs) = h0
  have lc := lc_filter (h := h0) (bd := fun x => tgS (.nm 2) x (wipeE [some (.tup xs), some (.tup xs), none] [2])) (t := evt (callN tab fu D) [.not (.call 10 [.sub (.v 0) (.v 2), .sub (.v 1) (.v 2)])]) (elt := ev (callN tab fu D) (.c (.int 1))) (g := fun (i : Nat) => Val.int (0 + i)) (f := fun _ => .int 1) (p := fun _ => false) (xs := List.range xs.length) fun i hi => by
    have hi : i < xs.length := List.mem_range.mp hi
    refine ⟨[some (.tup xs), some (.tup xs), some (.int (0 + i))], rfl, ?_, fun z => by cases z⟩
    have e : xs[i]? = some xs[i] := List.getElem?_eq_getElem hi
    have g : subV (.tup xs) (.int (0 + (i : Int))) h0 = some xs[i] := by rw [Int.zero_add]; exact subT_nat e
    have c := H xs[i] (List.getElem_mem hi) h0
    simp only [q_t1, q_tst, q_not, q_call, q_cons, q_nil, q_sub, q_v, List.getElem?_cons_zero, List.getElem?_cons_succ, T.bind_ok, g, c, q_trb, Bool.not_true]
  rw [← rngL_eq, show (List.range xs.length).filter (fun _ => false) = [] by simp, List.map_nil] at lc
  have ls : small (rngL 0 xs.length).length = true := by
    rw [rngL_eq, List.length_map, List.length_range]
    exact sm_of (by omega)
  have ee : ev (callN tab fu D) sameE [some (.tup xs), some (.tup xs), none] h0 = .ok (.bl true, h0) := by
    have e1 : ev (callN tab fu D) (.cmp .eq (.bi .len false [.v 0]) (.bi .len false [.v 1])) [some (.tup xs), some (.tup xs), none] h0 = .ok (.bl true, h0) := by
      simp
    have e2 : ev (callN tab fu D) (.lc false [2] (.nm 2) .rng [.bi .len false [.v 1]] [.not (.call 10 [.sub (.v 0) (.v 2), .sub (.v 1) (.v 2)])] (.c (.int 1))) [some (.tup xs), some (.tup xs), none] h0 = .ok (.tl [], h0) := by
      have ea : evs (callN tab fu D) [.bi .len false [.v 1]] [some (.tup xs), some (.tup xs), none] h0 = .ok ([.int xs.length], h0) := by simp
      exact ev_lc ea (src_rng hl) ls lc
    refine evAndT e1 ?_
    have z : copV .eq (.tl []) (.tl []) h0 = some true := eq_tl (a := []) (b := [])
    have e3 : ev (callN tab fu D) (.lst false []) [some (.tup xs), some (.tup xs), none] h0 = .ok (.tl [], h0) := rfl
    rw [q_cmp, e2, T.bind_ok, e3, T.bind_ok, z]
  refine runF_of (s1 := [some (.tup xs), some (.tup xs), none]) (h1 := h0) (v := .bl true) ?_ (by rw [← hh]; exact Nat.le_refl _) rfl
  rw [hh]
  show exs (callN tab fu D) fu (_ :: _ :: _ :: _ :: _ :: [.ret sameE]) [some (.tup xs), some (.tup xs), none] h0 = _
  rw [exsN rfl, exsN rfl, exsN rfl, exsN rfl, exsN rfl]
  exact exsR (exRet ee)
theorem same_w {D : Nat} {ws : List Int} {h : Hs} (hl : ws.length ≤ 1000000) : callN tab fu (D + 2) 10 [tw ws, tw ws] h = .ok (.bl true, h) :=
  same_tup (fun x m h => by
    obtain ⟨i, _, rfl⟩ := List.mem_map.mp m
    exact same_int) (by rw [iv_len]; exact hl)
theorem same_p {D : Nat} {a b : List Int} {h : Hs} (hl : a.length ≤ 1000000) (hl2 : b.length ≤ 1000000) : callN tab fu (D + 3) 10 [.tup [tw a, tw b], .tup [tw a, tw b]] h = .ok (.bl true, h) :=
  same_tup (fun x m h => by
    rcases List.mem_cons.mp m with e | m
    · rw [e]; exact same_w hl
    · rw [List.mem_singleton.mp m]; exact same_w hl2) (by simp)
end
/-! ### counts -/
def cnt (ws : List Int) (k : Int) : Int := ((ws.filter fun x => decide (x = k)).length : Nat)
section
variable {cf : Nat → List Val → Hs → T (Val × Hs)} {fu d : Nat} {h : Hs} {s : Env}
theorem ev_cnt {e ke : E} {j : Nat} {ws : List Int} {k : Int} (he : ev cf e s h = .ok (tw ws, h)) (hk : ∀ x, ev cf ke ((wipeE s [j]).set j (some (.int x))) h = .ok (.int k, h)) (hj : j < s.length) (hs : ws.length ≤ 1000000) :
    ev cf (.bi .len false [.lc false [j] (.nm j) .val [e] [.cmp .eq (.v j) ke] (.c (.int 1))]) s h = .ok (.int (cnt ws k), h) := by
  have lc := lc_filter (h := h) (bd := fun x => tgS (.nm j) x (wipeE s [j])) (t := evt cf [.cmp .eq (.v j) ke]) (elt := ev cf (.c (.int 1))) (g := Val.int) (f := fun _ => .int 1) (p := fun x => decide (x = k)) (xs := ws) fun x _ => by
    refine ⟨(wipeE s [j]).set j (some (.int x)), rfl, ?_, fun _ => rfl⟩
    have : ((wipeE s [j]).set j (some (.int x)))[j]? = some (some (.int x)) := by
      rw [List.getElem?_set_self]
      simpa [wipeE] using hj
    simp only [q_t1, q_tst, q_cmp, q_v, this, T.bind_ok, hk, q_cmpI, q_eq, q_trb]
  simp only [q_bi, q_cons, q_nil, q_lc, he, T.bind_ok, tw, q_srcT, iv, lc, List.length_map, sm_of (show ws.length ≤ 1048576 by omega), if_true, q_mkF, q_lenL]
  rfl
theorem fn_counts {ws : List Int} (hs : ws.length ≤ 1000000) : callN tab fu (d + 1) 6 [tw ws, .int 3] h = .ok (tw [cnt ws 1 - cnt ws (0 - 1), cnt ws 2 - cnt ws (0 - 2), cnt ws 3 - cnt ws (0 - 3)], h) := by
  show runF (callN tab fu d) fu 4 b_counts true [tw ws, .int 3] h = _
  refine runF_of (s1 := [some (tw ws), some (.int 3), none, none]) (h1 := ⟨h.os, h.n, h.n, h.lk⟩) (v := tw [cnt ws 1 - cnt ws (0 - 1), cnt ws 2 - cnt ws (0 - 2), cnt ws 3 - cnt ws (0 - 3)]) ?_ (Nat.le_refl _) fz_iv
  have lc := lc_map (h := ⟨h.os, h.n, h.n, h.lk⟩) (bd := fun x => tgS (.nm 2) x (wipeE [some (tw ws), some (.int 3), none, none] [2])) (t := evt (callN tab fu d) []) (elt := ev (callN tab fu d) (.bin .sub false (.bi .len false [.lc false [3] (.nm 3) .val [.v 0] [.cmp .eq (.v 3) (.v 2)] (.c (.int 1))]) (.bi .len false [.lc false [3] (.nm 3) .val [.v 0] [.cmp .eq (.v 3) (.bin .sub false (.c (.int 0)) (.v 2))] (.c (.int 1))]))) (g := Val.int) (f := fun k => .int (cnt ws k - cnt ws (0 - k))) (xs := [1, 2, 3]) fun k _ => by
    refine ⟨[some (tw ws), some (.int 3), some (.int k), none], rfl, rfl, ?_⟩
    have a := ev_cnt (cf := callN tab fu d) (h := ⟨h.os, h.n, h.n, h.lk⟩) (s := [some (tw ws), some (.int 3), some (.int k), none]) (e := .v 0) (ke := .v 2) (j := 3) (k := k) rfl (fun x => rfl) (by simp) hs
    have b := ev_cnt (cf := callN tab fu d) (h := ⟨h.os, h.n, h.n, h.lk⟩) (s := [some (tw ws), some (.int 3), some (.int k), none]) (e := .v 0) (ke := .bin .sub false (.c (.int 0)) (.v 2)) (j := 3) (k := 0 - k) rfl (fun x => rfl) (by simp) hs
    rw [q_bin, a, T.bind_ok, b]
    rfl
  have sr : srcV .rng [.int 1, .int (3 + 1)] ⟨h.os, h.n, h.n, h.lk⟩ = some ([1, 2, 3].map Val.int, none) := rfl
  show exs (callN tab fu d) fu [.ret _] [some (tw ws), some (.int 3), none, none] _ = _
  refine exsR (exRet ?_)
  simp only [q_bi, q_cons, q_nil, q_lc, q_c, q_bin, q_v, List.getElem?_cons_zero, List.getElem?_cons_succ, T.bind_ok, q_add, sr, lc, List.length_map, List.length_cons, List.length_nil, sm_of (show 0 + 1 + 1 + 1 ≤ 1048576 by omega), if_true, q_mkF, q_tupL]
  rfl
/-! ### is_free_word -/
def okV : Val → Bool
  | .int x => decide (0 < x.natAbs) && decide (x.natAbs ≤ 3)
  | _ => false
def flat : Val → Bool
  | .int _ | .bl _ | .str _ => true
  | _ => false
theorem vbl_map {f : Val → Bool} : ∀ xs : List Val, optAll vbl (xs.map fun v => .bl (f v)) = some (xs.map f)
  | [] => rfl
  | x :: xs => by
    rw [List.map_cons]
    unfold optAll
    simp only [vbl, vbl_map xs]
    rfl
theorem fn_free {xs : List Val} (hf : ∀ v ∈ xs, flat v = true) (hs : xs.length ≤ 1000000) : callN tab fu (d + 1) 7 [.tup xs, .int 3] h = .ok (.bl (xs.all okV), h) := by
  show runF (callN tab fu d) fu 3 b_is_free_word true [.tup xs, .int 3] h = _
  refine runF_of (s1 := [some (.tup xs), some (.int 3), none]) (h1 := ⟨h.os, h.n, h.n, h.lk⟩) (v := .bl (xs.all okV)) ?_ (Nat.le_refl _) rfl
  have lc := lc_map (h := ⟨h.os, h.n, h.n, h.lk⟩) (bd := fun x => tgS (.nm 2) x (wipeE [some (.tup xs), some (.int 3), none] [2])) (t := evt (callN tab fu d) []) (elt := ev (callN tab fu d) (.and (.isi (.v 2) .int) (.and (.not (.isi (.v 2) .bool)) (.chn .lt .le (.c (.int 0)) (.bi .abs false [.v 2]) (.v 1))))) (g := fun v => v) (f := fun v => .bl (okV v)) (xs := xs) fun v hv => by
    refine ⟨[some (.tup xs), some (.int 3), some v], rfl, rfl, ?_⟩
    have fv := hf v hv
    cases v with
    | int x =>
      have ab : biV .abs false [.int x] ⟨h.os, h.n, h.n, h.lk⟩ = .ok (.int x.natAbs, ⟨h.os, h.n, h.n, h.lk⟩) := by
        show T.ok (Val.int (if decide (x < 0) = true then -x else x), _) = _
        by_cases q : x < 0
        · rw [decide_eq_true q, if_pos rfl]
          have : -x = (x.natAbs : Int) := by omega
          rw [this]
        · rw [decide_eq_false q, if_neg Bool.false_ne_true]
          have : x = (x.natAbs : Int) := by omega
          rw [← this]
      simp only [q_and, q_isi, q_v, List.getElem?_cons_zero, List.getElem?_cons_succ, T.bind_ok, isiV, tyOf, q_not, Bool.not_false, q_chn, q_c, q_bi, q_cons, q_nil, ab, q_cmpI, q_lt, q_le, okV]
      by_cases q : 0 < x.natAbs
      · have q1 : (0 : Int) < x.natAbs := by omega
        rw [decide_eq_true q1, decide_eq_true q]
        by_cases q2 : x.natAbs ≤ 3
        · have q3 : (x.natAbs : Int) ≤ 3 := by omega
          rw [decide_eq_true q2]; simp [q3]
        · have q3 : ¬ (x.natAbs : Int) ≤ 3 := by omega
          rw [decide_eq_false q2]; simp [q3]
      · have q1 : ¬ (0 : Int) < x.natAbs := by omega
        rw [decide_eq_false q1, decide_eq_false q]
        rfl
    | bl b => rfl
    | str b => rfl
    | _ => simp [flat] at fv
  rw [List.map_id''] at lc
  · show exs (callN tab fu d) fu [.ite (.not (.isi (.v 0) .tuple)) [.ret (.c (.bl false))] [], .ret _] [some (.tup xs), some (.int 3), none] _ = _
    have e1 : ex (callN tab fu d) fu (.ite (.not (.isi (.v 0) .tuple)) [.ret (.c (.bl false))] []) [some (.tup xs), some (.int 3), none] ⟨h.os, h.n, h.n, h.lk⟩ = .ok (.nx, [some (.tup xs), some (.int 3), none], ⟨h.os, h.n, h.n, h.lk⟩) := rfl
    rw [exsN e1]
    refine exsR (exRet ?_)
    simp only [q_bi, q_cons, q_nil, q_lc, q_v, List.getElem?_cons_zero, T.bind_ok, q_srcT, lc, sm_of (show xs.length ≤ 1048576 by omega), if_true, q_mkF, biV, itemsL, vbl_map]
    congr 2
    simp [List.all_map]
  · exact fun _ => rfl
theorem fn_freeL {xs : List Val} : callN tab fu (d + 1) 7 [.tl xs, .int 3] h = .ok (.bl false, h) := by
  show runF (callN tab fu d) fu 3 b_is_free_word true [.tl xs, .int 3] h = _
  exact runF_of (s1 := [some (.tl xs), some (.int 3), none]) (h1 := ⟨h.os, h.n, h.n, h.lk⟩) (v := .bl false) rfl (Nat.le_refl _) rfl
theorem fn_freeN : callN tab fu (d + 1) 7 [.non, .int 3] h = .ok (.bl false, h) := by
  show runF (callN tab fu d) fu 3 b_is_free_word true [.non, .int 3] h = _
  exact runF_of (s1 := [some .non, some (.int 3), none]) (h1 := ⟨h.os, h.n, h.n, h.lk⟩) (v := .bl false) rfl (Nat.le_refl _) rfl
end
end Eng.k03
/-! k03: free words, plain. -/
namespace Eng.k03
/-! ### push, from the other end -/
def pushR : List Int → Int → List Int
  | [], x => [x]
  | y :: r, x => if y = 0 - x then r else x :: y :: r
theorem pushR_c (y : Int) (r : List Int) (x : Int) : pushR (y :: r) x = if y = 0 - x then r else x :: y :: r := rfl
theorem push_R (ys : List Int) (x : Int) : push ys x = (pushR ys.reverse x).reverse := by
  rcases List.eq_nil_or_concat ys with e | ⟨zs, z, e⟩
  · subst e; rfl
  · subst e
    have e1 : (zs.concat z).reverse = z :: zs.reverse := by simp
    rw [e1, pushR_c]
    unfold push
    by_cases q : z = 0 - x
    · rw [if_pos (by simp; omega), if_pos q]; simp
    · rw [if_neg (by simp; omega), if_neg q]; simp
theorem fold_R : ∀ (ws ys : List Int), ws.foldl push ys = (ws.foldl pushR ys.reverse).reverse
  | [], ys => by simp
  | x :: ws, ys => by
    rw [List.foldl_cons, List.foldl_cons, fold_R ws, push_R, List.reverse_reverse]
def na : List Int → Prop
  | [] => True
  | x :: r => (∀ y, r.head? = some y → x ≠ 0 - y) ∧ na r
theorem na_push : ∀ {acc : List Int} {x : Int}, na acc → na (pushR acc x)
  | [], x, _ => ⟨fun y h => by simp at h, trivial⟩
  | z :: r, x, h => by
    rw [pushR_c]
    split
    · exact h.2
    · rename_i q
      refine ⟨fun y e => ?_, h⟩
      simp at e
      omega
theorem na_fold : ∀ {ws acc : List Int}, na acc → na (ws.foldl pushR acc)
  | [], acc, h => h
  | x :: ws, acc, h => na_fold (ws := ws) (na_push h)
theorem push2 {acc : List Int} {x y : Int} (h : na acc) (e : x = 0 - y) : pushR (pushR acc x) y = acc := by
  cases acc with
  | nil => simp [pushR, e]
  | cons z r =>
    by_cases q : z = 0 - x
    · have e1 : pushR (z :: r) x = r := by rw [pushR_c, if_pos q]
      rw [e1]
      cases r with
      | nil => simp [pushR]; omega
      | cons v r' =>
        have hv := h.1 v rfl
        rw [pushR_c, if_neg (by omega)]
        have : y = z := by omega
        rw [this]
    · have e1 : pushR (z :: r) x = x :: z :: r := by rw [pushR_c, if_neg q]
      rw [e1, pushR_c, if_pos e]
theorem na_nil : na [] := trivial
theorem red_R (ws : List Int) : red ws = (ws.foldl pushR []).reverse := fold_R ws []
/-- a pair that goes -/
theorem red_pair {a b : List Int} {x y : Int} (e : x = 0 - y) : red (a ++ x :: y :: b) = red (a ++ b) := by
  rw [red_R, red_R, List.foldl_append, List.foldl_append, List.foldl_cons, List.foldl_cons, push2 (na_fold na_nil) e]
theorem fold_na : ∀ {ws acc : List Int}, na ws → (∀ x y, ws.head? = some x → acc.head? = some y → y ≠ 0 - x) → ws.foldl pushR acc = ws.reverse ++ acc
  | [], acc, _, _ => rfl
  | x :: ws, acc, h, hh => by
    have e : pushR acc x = x :: acc := by
      cases acc with
      | nil => rfl
      | cons y r =>
        rw [pushR_c, if_neg (hh x y rfl rfl)]
    rw [List.foldl_cons, e, fold_na h.2 fun a b e1 e2 => ?_]
    · simp
    · simp at e2
      subst e2
      exact h.1 a e1
theorem red_na {ws : List Int} (h : na ws) : red ws = ws := by
  rw [red_R, fold_na h fun _ _ _ e => by simp at e]
  simp
theorem na_app1 : ∀ {ws : List Int} {z : Int}, na (ws ++ [z]) ↔ na ws ∧ ∀ y, ws.getLast? = some y → y ≠ 0 - z
  | [], z => by simp [na]
  | x :: r, z => by
    have ih := na_app1 (ws := r) (z := z)
    constructor
    · intro h
      rw [List.cons_append] at h
      obtain ⟨h1, h2⟩ := h
      obtain ⟨i1, i2⟩ := ih.mp h2
      refine ⟨⟨fun y e => h1 y (by rw [List.head?_append, e]; rfl), i1⟩, fun y e => ?_⟩
      cases r with
      | nil =>
        simp at e
        subst e
        exact h1 z rfl
      | cons v r' => exact i2 y (by rw [List.getLast?_cons_cons] at e; exact e)
    · intro ⟨h, hl⟩
      rw [List.cons_append]
      refine ⟨fun y e => ?_, ih.mpr ⟨h.2, fun y e => ?_⟩⟩
      · cases r with
        | nil =>
          simp at e
          subst e
          exact hl x rfl
        | cons v r' =>
          simp at e
          exact h.1 y (by simp [e])
      · cases r with
        | nil => simp at e
        | cons v r' => exact hl y (by rw [List.getLast?_cons_cons]; exact e)
theorem na_rev : ∀ {ws : List Int}, na ws → na ws.reverse
  | [], _ => trivial
  | x :: r, h => by
    rw [List.reverse_cons, na_app1]
    refine ⟨na_rev h.2, fun y e => ?_⟩
    rw [List.getLast?_reverse] at e
    have := h.1 y e
    omega
theorem na_red (ws : List Int) : na (red ws) := by
  rw [red_R]
  exact na_rev (na_fold na_nil)
theorem red_red (ws : List Int) : red (red ws) = red ws := red_na (na_red ws)
/-- either no pair goes, or one does -/
theorem na_or : ∀ ws : List Int, na ws ∨ ∃ a b x y, ws = a ++ x :: y :: b ∧ x = 0 - y
  | [] => .inl trivial
  | x :: r => by
    rcases na_or r with h | ⟨a, b, u, v, e, q⟩
    · cases r with
      | nil => exact .inl ⟨fun y e => by simp at e, trivial⟩
      | cons y r' =>
        by_cases q : x = 0 - y
        · exact .inr ⟨[], r', x, y, rfl, q⟩
        · exact .inl ⟨fun z e => by simp at e; subst e; exact q, h⟩
    · exact .inr ⟨x :: a, b, u, v, by rw [e]; rfl, q⟩
theorem red_mid (a c : List Int) : ∀ (n : Nat) (b : List Int), b.length ≤ n → red (a ++ b ++ c) = red (a ++ red b ++ c)
  | n, b, hn => by
    rcases na_or b with h | ⟨p, q, x, y, e, hxy⟩
    · rw [red_na h]
    · subst e
      match n, hn with
      | n + 1, hn =>
        have ih := red_mid a c n (p ++ q) (by simp at hn ⊢; omega)
        rw [red_pair hxy, ← ih]
        have e1 : a ++ (p ++ x :: y :: q) ++ c = (a ++ p) ++ x :: y :: (q ++ c) := by simp
        rw [e1, red_pair hxy]
        simp
      | 0, hn => simp at hn
theorem red_l (a b : List Int) : red (red a ++ b) = red (a ++ b) := by
  have := red_mid [] b a.length a (Nat.le_refl _)
  simpa using this.symm
/-- joined -/
theorem inv_cons (x : Int) (u : List Int) : inv (x :: u) = inv u ++ [0 - x] := by simp [inv]
theorem inv_app (a b : List Int) : inv (a ++ b) = inv b ++ inv a := by simp [inv]
theorem red_inv : ∀ w : List Int, red (w ++ inv w) = []
  | [] => rfl
  | x :: u => by
    have ih := red_inv u
    rw [inv_cons]
    have e1 : x :: u ++ (inv u ++ [0 - x]) = [x] ++ (u ++ inv u) ++ [0 - x] := by simp
    rw [e1, red_mid _ _ _ _ (Nat.le_refl _), ih]
    have e2 : [x] ++ [] ++ [0 - x] = [] ++ x :: (0 - x) :: [] := by simp
    rw [e2, red_pair (by omega)]
    rfl
/-! ### conjugates -/
theorem inv_last (b : Int) (t : List Int) : (inv (b :: t)).getLast? = some (0 - b) := by rw [inv_cons]; simp
theorem na_mid {b : Int} {u : List Int} {c : Int} (h : na (b :: u ++ [c])) : na u := (na_app1.mp (show na (b :: (u ++ [c])) from h).2).1
theorem conj_form (x : Int) : ∀ u : List Int, ∃ t, red (u ++ [x] ++ inv u) = t ++ [x] ++ inv t
  | [] => ⟨[], by rw [show inv [] = [] from rfl]; exact red_na ⟨fun y e => by simp at e, trivial⟩⟩
  | a :: u => by
    obtain ⟨t, ht⟩ := conj_form x u
    have e0 : a :: u ++ [x] ++ inv (a :: u) = [a] ++ (u ++ [x] ++ inv u) ++ [0 - a] := by rw [inv_cons]; simp
    have nt : na (t ++ [x] ++ inv t) := by rw [← ht]; exact na_red _
    rw [e0, red_mid _ _ _ _ (Nat.le_refl _), ht]
    cases t with
    | nil =>
      rw [show inv [] = [] from rfl]
      by_cases q1 : a = 0 - x
      · refine ⟨[], ?_⟩
        have : [a] ++ ([] ++ [x] ++ []) ++ [0 - a] = [] ++ a :: x :: [0 - a] := by simp
        rw [this, red_pair q1, show (0 : Int) - a = x by omega]
        rw [show inv [] = [] from rfl]
        exact red_na ⟨fun y e => by simp at e, trivial⟩
      · by_cases q2 : a = x
        · refine ⟨[], ?_⟩
          have : [a] ++ ([] ++ [x] ++ []) ++ [0 - a] = [a] ++ x :: (0 - a) :: [] := by simp
          rw [this, red_pair (by omega), q2, show inv [] = [] from rfl]
          exact red_na ⟨fun y e => by simp at e, trivial⟩
        · refine ⟨[a], ?_⟩
          rw [show inv [a] = [0 - a] from rfl]
          refine red_na ⟨fun y e => ?_, fun y e => ?_, fun y e => ?_, trivial⟩
          · simp at e; omega
          · simp at e; omega
          · simp at e
    | cons b t1 =>
      by_cases q : a = 0 - b
      · refine ⟨t1, ?_⟩
        have e1 : [a] ++ (b :: t1 ++ [x] ++ inv (b :: t1)) ++ [0 - a] = [] ++ a :: b :: (t1 ++ [x] ++ inv t1 ++ (0 - b) :: (0 - a) :: []) := by rw [inv_cons]; simp
        rw [e1, red_pair q, List.nil_append, red_pair (show 0 - b = 0 - (0 - a) by omega), List.append_nil]
        have e2 : b :: t1 ++ [x] ++ inv (b :: t1) = b :: (t1 ++ [x] ++ inv t1) ++ [0 - b] := by rw [inv_cons]; simp
        rw [e2] at nt
        exact red_na (na_mid nt)
      · refine ⟨a :: b :: t1, ?_⟩
        have e1 : a :: b :: t1 ++ [x] ++ inv (a :: b :: t1) = a :: ((b :: t1 ++ [x] ++ inv (b :: t1)) ++ [0 - a]) := by rw [inv_cons a]; simp
        have e2 : [a] ++ (b :: t1 ++ [x] ++ inv (b :: t1)) ++ [0 - a] = a :: ((b :: t1 ++ [x] ++ inv (b :: t1)) ++ [0 - a]) := by simp
        rw [e1, e2]
        refine red_na ⟨fun y e => ?_, na_app1.mpr ⟨nt, fun y e => ?_⟩⟩
        · simp at e; omega
        · have : (b :: t1 ++ [x] ++ inv (b :: t1)).getLast? = some (0 - b) := by
            rw [List.getLast?_append, inv_last]; rfl
          rw [this] at e
          simp at e
          omega
end Eng.k03
namespace Eng.k03
open PySem L2 Eng
/-! ### draws -/
theorem all_dr {A : Type} {P : A → Prop} {n : Nat} {f : Nat → T A} (H : ∀ i, i < n → (f i).All P) : (T.dr n f).All P := H
theorem pick_all {fu d : Nat} {h : Hs} {l : Nat} {n : Int} {P : Val × Hs → Prop} (ht : h.get l = some .tape) (h0 : 0 < n) (h1 : n ≤ 1000000000000000000) (H : ∀ i : Int, 0 ≤ i → i < n → P (.int i, h)) : (callN tab fu (d + 1) 9 [.ref l, .int n] h).All P := by
  show (pickV [.ref l, .int n] h).All P
  unfold pickV
  simp only [ht, decide_eq_true h0, decide_eq_true h1, Bool.and_self, if_true]
  exact all_dr fun i hi => H i (by omega) (by omega)
theorem lc_all {bd : Val → Option Env} {t : Env → Hs → T (Bool × Hs)} {elt : Env → Hs → T (Val × Hs)} {R : Val → Prop} {h : Hs} : ∀ {xs : List Val}, (∀ x ∈ xs, ∃ s, bd x = some s ∧ t s h = .ok (true, h) ∧ (elt s h).All fun r => r.2 = h ∧ R r.1) → (lcL bd t elt xs h).All fun r => r.2 = h ∧ r.1.length = xs.length ∧ ∀ v ∈ r.1, R v
  | [], _ => ⟨rfl, rfl, fun v m => by cases m⟩
  | x :: xs, H => by
    obtain ⟨s, e1, e2, e3⟩ := H x List.mem_cons_self
    rw [q_lcc]
    simp only [e1, e2, T.bind_ok]
    refine T.all_bind.mpr (T.all_mono (fun q z => ?_) e3)
    obtain ⟨z1, z2⟩ := z
    rw [z1]
    refine T.all_bind.mpr (T.all_mono (fun w y => ?_) (lc_all (fun y m => H y (List.mem_cons_of_mem _ m))))
    refine ⟨y.1, by simp [y.2.1], fun v m => ?_⟩
    rcases List.mem_cons.mp m with e | m
    · rw [e]; exact z2
    · exact y.2.2 v m
theorem runF_all {cf : Nat → List Val → Hs → T (Val × Hs)} {fu nN : Nat} {body : List S} {vs : List Val} {h : Hs} {P : Val × Hs → Prop} (e : (exs cf fu body (vs.map some ++ List.replicate (nN - vs.length) none) ⟨h.os, h.n, h.n, h.lk⟩).All fun r => ∃ v v', r.1 = .rt v ∧ h.n ≤ r.2.2.lo ∧ fzV r.2.2 h.n 12 v = some v' ∧ P (v', h)) : (runF cf fu nN body true vs h).All P := by
  unfold runF
  refine T.all_bind.mpr (T.all_mono (fun r z => ?_) e)
  obtain ⟨v, v', e1, lo, fz, p⟩ := z
  rw [e1]
  simp only [Bool.true_and, Nat.ble_eq.mpr lo, fz]
  exact p
def letter (many : Int) (x : Int) : Prop := x ≠ 0 ∧ (x.natAbs : Int) ≤ many
theorem ints_of {R : Int → Prop} : ∀ {vs : List Val}, (∀ v ∈ vs, ∃ x, v = .int x ∧ R x) → ∃ ws : List Int, vs = iv ws ∧ ∀ x ∈ ws, R x
  | [], _ => ⟨[], rfl, fun x m => by cases m⟩
  | v :: vs, H => by
    obtain ⟨x, e, r⟩ := H v List.mem_cons_self
    obtain ⟨ws, e2, r2⟩ := ints_of fun y m => H y (List.mem_cons_of_mem _ m)
    refine ⟨x :: ws, by rw [e, e2]; rfl, fun y m => ?_⟩
    rcases List.mem_cons.mp m with e | m
    · rw [e]; exact r
    · exact r2 y m
theorem src_rngI {h : Hs} {j : Int} (h0 : -1000 ≤ j) (hn : j ≤ 1000000) : srcV .rng [.int j] h = some (rngL 0 j.toNat, none) := by
  have : (bd62 j && decide (j ≤ 1000000)) = true := by
    unfold bd62
    simp
    omega
  unfold srcV
  simp only [this, if_true]
section
variable {fu d : Nat} {h : Hs}
theorem fn_word {l : Nat} {most many : Int} (ht : h.get l = some .tape) (m0 : 0 ≤ most) (m1 : most ≤ 1000) (k0 : 0 < many) (k1 : many ≤ 1000) :
    (callN tab fu (d + 2) 11 [.ref l, .int most, .int many] h).All fun r => ∃ ws, r = (tw ws, h) ∧ (ws.length : Int) ≤ most ∧ ∀ x ∈ ws, letter many x := by
  show (runF (callN tab fu (d + 1)) fu 4 b__law_word true [.ref l, .int most, .int many] h).All _
  refine runF_all ?_
  generalize hh : (⟨h.os, h.n, h.n, h.lk⟩ : Hs) = h0
  have ht0 : h0.get l = some .tape := by rw [← hh]; exact ht
  have lo : h.n ≤ h0.lo := by rw [← hh]; exact Nat.le_refl _
  show (exs (callN tab fu (d + 1)) fu [.ret (.bi .tuple false [.lc false [3] (.nm 3) .rng [.call 9 [.v 0, .bin .add false (.v 1) (.c (.int 1))]] [] _])] [some (.ref l), some (.int most), some (.int many), none] h0).All _
  rw [q_exsc, T.all_bind, q_ret, T.all_bind, q_bi, T.all_bind, q_cons, T.all_bind, q_lc, T.all_bind, q_cons, T.all_bind, q_call, T.all_bind]
  simp only [q_cons, q_v, List.getElem?_cons_zero, List.getElem?_cons_succ, T.bind_ok, q_bin, q_c, q_add, q_nil, T.all_ok]
  refine pick_all ht0 (by omega) (by omega) fun i i0 i1 => ?_
  simp only [src_rngI (h := h0) (show -1000 ≤ i by omega) (show i ≤ 1000000 by omega)]
  rw [rngL_eq, List.length_map, List.length_range, if_pos (sm_of (by omega)), T.all_bind]
  refine T.all_mono (fun r z => ?_) (lc_all (R := fun v => ∃ x, v = .int x ∧ letter many x) fun v hv => ?_)
  · obtain ⟨z1, z2, z3⟩ := z
    obtain ⟨ws, e, p⟩ := ints_of z3
    obtain ⟨r1, r2⟩ := r
    simp only at z1 z2 e
    subst e z1
    rw [iv_len, List.length_map, List.length_range] at z2
    exact ⟨tw ws, tw ws, rfl, lo, fz_iv, ws, rfl, by omega, p⟩
  · obtain ⟨j, _, rfl⟩ := List.mem_map.mp hv
    refine ⟨[some (.ref l), some (.int most), some (.int many), some (.int (0 + j))], rfl, rfl, ?_⟩
    rw [q_bin, T.all_bind, q_bin, T.all_bind]
    simp only [q_c, T.all_ok]
    rw [T.all_bind, q_call, T.all_bind]
    simp only [q_cons, q_v, List.getElem?_cons_zero, List.getElem?_cons_succ, T.bind_ok, q_nil, T.all_ok]
    refine pick_all ht0 k0 (by omega) fun a a0 a1 => ?_
    simp only [q_add, T.all_ok]
    rw [T.all_bind, q_sub, T.all_bind]
    have e1 : ev (callN tab fu (d + 1)) (.lst false [.c (.int 1), .neg (.c (.int 1))]) [some (.ref l), some (.int most), some (.int many), some (.int (0 + j))] h0 = .ok (.tl [.int 1, .int (-1)], h0) := rfl
    rw [e1, T.all_ok, T.all_bind, q_call, T.all_bind]
    simp only [q_cons, q_v, List.getElem?_cons_zero, List.getElem?_cons_succ, T.bind_ok, q_nil, T.all_ok, q_c]
    refine pick_all ht0 (by decide) (by decide) fun b b0 b1 => ?_
    rcases (show b = 0 ∨ b = 1 by omega) with rfl | rfl
    · have g : subV (.tl [.int 1, .int (-1)]) (.int 0) h0 = some (.int 1) := rfl
      simp only [g, T.all_ok]
      rw [q_mul (by omega) (by decide), T.all_ok]
      exact ⟨rfl, _, rfl, by omega, by omega⟩
    · have g : subV (.tl [.int 1, .int (-1)]) (.int 1) h0 = some (.int (-1)) := rfl
      simp only [g, T.all_ok]
      rw [q_mul (by omega) (by decide), T.all_ok]
      exact ⟨rfl, _, rfl, by omega, by omega⟩
/-! ### reduced in any order -/
def pls (ws : List Int) : List Int := ((List.range (ws.length - 1)).filter fun k => decide (ws[k]? = (ws[k + 1]?).map fun x => 0 - x)).map fun (k : Nat) => (k : Int)
def redE : E := .lc false [4] (.nm 4) .rng [.bin .sub false (.bi .len false [.v 1]) (.c (.int 1))] [.cmp .eq (.sub (.v 1) (.v 4)) (.bin .sub false (.c (.int 0)) (.sub (.v 1) (.bin .add false (.v 4) (.c (.int 1)))))] (.v 4)
theorem pls_ev {cf : Nat → List Val → Hs → T (Val × Hs)} {ws : List Int} {o0 o2 o3 o4 : Option Val} (hs : ws.length ≤ 1000) : ev cf redE [o0, some (tw ws), o2, o3, o4] h = .ok (.tl (iv (pls ws)), h) := by
  have lc := lc_filter (h := h) (bd := fun x => tgS (.nm 4) x (wipeE [o0, some (tw ws), o2, o3, o4] [4])) (t := evt cf [.cmp .eq (.sub (.v 1) (.v 4)) (.bin .sub false (.c (.int 0)) (.sub (.v 1) (.bin .add false (.v 4) (.c (.int 1)))))]) (elt := ev cf (.v 4)) (g := fun (i : Nat) => Val.int (0 + i)) (f := fun (i : Nat) => .int (i : Int)) (p := fun k => decide (ws[k]? = (ws[k + 1]?).map fun x => 0 - x)) (xs := List.range (ws.length - 1)) fun i hi => by
    have hi : i + 1 < ws.length := by have := List.mem_range.mp hi; omega
    refine ⟨[o0, some (tw ws), o2, o3, some (.int (0 + i))], rfl, ?_, fun _ => by simp⟩
    have i1 : ws[i]? = some ws[i] := List.getElem?_eq_getElem (by omega)
    have i2 : ws[i + 1]? = some ws[i + 1] := List.getElem?_eq_getElem hi
    have g1 : subV (tw ws) (.int (0 + (i : Int))) h = some (.int ws[i]) := by rw [Int.zero_add]; exact subT_nat (by rw [iv_get, i1]; rfl)
    have g2 : subV (tw ws) (.int (0 + (i : Int) + 1)) h = some (.int ws[i + 1]) := by
      have : (0 : Int) + i + 1 = ((i + 1 : Nat) : Int) := by omega
      rw [this]
      exact subT_nat (by rw [iv_get, i2]; rfl)
    rw [i1, i2]
    simp only [q_t1, q_tst, q_cmp, q_sub, q_v, List.getElem?_cons_zero, List.getElem?_cons_succ, T.bind_ok, g1, q_bin, q_c, q_add, g2, q_subI, q_cmpI, q_eq, q_trb, Option.map_some, Option.some.injEq]
  have ea : evs cf [.bin .sub false (.bi .len false [.v 1]) (.c (.int 1))] [o0, some (tw ws), o2, o3, o4] h = .ok ([.int ((ws.length : Int) - 1)], h) := by
    have lt : ∀ b, biV .len b [tw ws] h = .ok (.int ws.length, h) := fun b => by simp [tw]
    simp [lt]
  have en : ((ws.length : Int) - 1).toNat = ws.length - 1 := by omega
  have sr := src_rngI (h := h) (j := (ws.length : Int) - 1) (by omega) (by omega)
  rw [en] at sr
  have sl : small (rngL 0 (ws.length - 1)).length = true := by
    rw [rngL_eq, List.length_map, List.length_range]
    exact sm_of (by omega)
  rw [← rngL_eq] at lc
  have := ev_lc (m := false) (own := [4]) ea sr sl lc
  refine this.trans ?_
  rw [q_mkF]
  unfold pls iv
  rw [List.map_map]
  rfl
theorem pls_mem {ws : List Int} {a : Int} (h : a ∈ pls ws) : ∃ k : Nat, a = k ∧ ∃ p q x y, ws = p ++ x :: y :: q ∧ p.length = k ∧ x = 0 - y := by
  obtain ⟨k, hk, rfl⟩ := List.mem_map.mp h
  obtain ⟨h1, h2⟩ := List.mem_filter.mp hk
  have h1 := List.mem_range.mp h1
  have h2 := of_decide_eq_true h2
  have i1 : ws[k]? = some ws[k] := List.getElem?_eq_getElem (by omega)
  have i2 : ws[k + 1]? = some ws[k + 1] := List.getElem?_eq_getElem (by omega)
  rw [i1, i2] at h2
  simp only [Option.map_some, Option.some.injEq] at h2
  refine ⟨k, rfl, ws.take k, ws.drop (k + 2), ws[k], ws[k + 1], ?_, by rw [List.length_take]; omega, h2⟩
  rw [← List.drop_eq_getElem_cons (by omega), ← List.drop_eq_getElem_cons (by omega), List.take_append_drop]
theorem pls_nil {ws : List Int} (h : pls ws = []) : na ws := by
  rcases na_or ws with z | ⟨a, b, x, y, e, q⟩
  · exact z
  · exfalso
    have m : (a.length : Int) ∈ pls ws := by
      refine List.mem_map.mpr ⟨a.length, List.mem_filter.mpr ⟨List.mem_range.mpr (by rw [e]; simp), ?_⟩, rfl⟩
      rw [e]
      simp [q]
    rw [h] at m
    cases m
def redB : List S := [.asg (.nm 2) redE, .ite (.cmp .eq (.v 2) (.lst false [])) [.ret (.v 1)] [], .asg (.nm 3) (.sub (.v 2) (.call 9 [.v 0, .bi .len false [.v 2]])), .asg (.nm 1) (.bin .add false (.slc false (.v 1) none (some (.v 3))) (.slc false (.v 1) (some (.bin .add false (.v 3) (.c (.int 2)))) none))]
theorem lred_loop {l : Nat} (ht : h.get l = some .tape) : ∀ (f : Nat) (ws : List Int) (o2 o3 : Option Val), ws.length < f → ws.length ≤ 1000 →
    (whlL (tst (callN tab fu (d + 1)) (.c (.bl true))) (exs (callN tab fu (d + 1)) fu redB) f [some (.ref l), some (tw ws), o2, o3, none] h).All fun r => r.1 = .rt (tw (red ws)) ∧ r.2.2 = h
  | 0, ws, o2, o3, hf, hs => by omega
  | f + 1, ws, o2, o3, hf, hs => by
    unfold whlL
    have t1 : tst (callN tab fu (d + 1)) (.c (.bl true)) [some (.ref l), some (tw ws), o2, o3, none] h = .ok (true, h) := rfl
    rw [t1, T.bind_ok]
    dsimp only
    rw [T.all_bind]
    have e1 : ex (callN tab fu (d + 1)) fu (.asg (.nm 2) redE) [some (.ref l), some (tw ws), o2, o3, none] h = .ok (.nx, [some (.ref l), some (tw ws), some (.tl (iv (pls ws))), o3, none], h) := exNm (pls_ev hs)
    have cmp : ev (callN tab fu (d + 1)) (.cmp .eq (.v 2) (.lst false [])) [some (.ref l), some (tw ws), some (.tl (iv (pls ws))), o3, none] h = .ok (.bl (decide (pls ws = [])), h) := by
      have z : copV .eq (.tl (iv (pls ws))) (.tl []) h = some (decide (pls ws = [])) := eq_tl (b := [])
      have e3 : ev (callN tab fu (d + 1)) (.lst false []) [some (.ref l), some (tw ws), some (.tl (iv (pls ws))), o3, none] h = .ok (.tl [], h) := rfl
      rw [q_cmp, q_v]
      simp only [List.getElem?_cons_zero, List.getElem?_cons_succ, T.bind_ok, e3, z]
    show ((exs (callN tab fu (d + 1)) fu (_ :: _ :: _) [some (.ref l), some (tw ws), o2, o3, none] h).All _)
    rw [exsN e1]
    by_cases q : pls ws = []
    · rw [decide_eq_true q] at cmp
      have e2 := exIf (fu := fu) (x := [.ret (.v 1)]) (y := []) cmp
      rw [if_pos rfl] at e2
      rw [exsR (e2.trans (exsR (exRet rfl)))]
      rw [red_na (pls_nil q)]
      exact ⟨rfl, rfl⟩
    · rw [decide_eq_false q] at cmp
      have e2 := exIf (fu := fu) (x := [.ret (.v 1)]) (y := []) cmp
      rw [if_neg Bool.false_ne_true] at e2
      rw [exsN (e2.trans rfl), q_exsc, T.all_bind, q_asg, T.all_bind, q_sub, T.all_bind, q_v]
      simp only [List.getElem?_cons_zero, List.getElem?_cons_succ, T.all_ok]
      rw [T.all_bind, q_call, T.all_bind]
      have pl : 0 < (pls ws).length := by
        rcases List.eq_nil_or_concat (pls ws) with e | ⟨a, b, e⟩
        · exact absurd e q
        · rw [e]; simp
      have pl2 : (pls ws).length ≤ 1000 := by
        unfold pls
        rw [List.length_map]
        have := List.length_filter_le (fun k => decide (ws[k]? = (ws[k + 1]?).map fun x => 0 - x)) (List.range (ws.length - 1))
        rw [List.length_range] at this
        omega
      simp only [q_cons, q_v, List.getElem?_cons_zero, List.getElem?_cons_succ, T.bind_ok, q_bi, q_nil, q_lenL, iv_len, T.all_ok]
      refine pick_all ht (by omega) (by omega) fun i i0 i1 => ?_
      have hi : i.toNat < (pls ws).length := by omega
      have gi : subV (.tl (iv (pls ws))) (.int i) h = some (.int (pls ws)[i.toNat]) := subL_int i0 (by rw [iv_get, List.getElem?_eq_getElem hi]; rfl)
      obtain ⟨k, ek, p, r, x, y, ew, hp, hxy⟩ := pls_mem (List.getElem_mem hi)
      rw [ek] at gi
      simp only [gi, T.all_ok, q_nm, List.set_cons_succ, List.set_cons_zero]
      have s1 : slcV false (tw ws) none (some (k : Int)) h = .ok (tw p, h) := by
        simp only [slcV, tw, cut_to, iv_take]
        rw [ew, ← hp, List.take_left']
        rfl
      have s2 : slcV false (tw ws) (some ((k : Int) + 2)) none h = .ok (tw r, h) := by
        have : (k : Int) + 2 = ((k + 2 : Nat) : Int) := by omega
        simp only [slcV, tw, this, cut_from, iv_drop]
        have e3 : ws.drop (k + 2) = r := by
          rw [ew, ← hp, ← List.drop_drop, List.drop_left']
          · rfl
          · rfl
        rw [e3]
      have len : ws.length = p.length + r.length + 2 := by rw [ew]; simp; omega
      have sm : small (p.length + r.length) = true := sm_of (by omega)
      have c1 : bopV .add false (tw p) (tw r) h = .ok (tw (p ++ r), h) := by
        simp only [tw, q_catT, iv_len, sm, if_true, iv_app]
      have e4 : exs (callN tab fu (d + 1)) fu [.asg (.nm 1) (.bin .add false (.slc false (.v 1) none (some (.v 3))) (.slc false (.v 1) (some (.bin .add false (.v 3) (.c (.int 2)))) none))] [some (.ref l), some (tw ws), some (.tl (iv (pls ws))), some (.int (k : Int)), none] h = .ok (.nx, [some (.ref l), some (tw (p ++ r)), some (.tl (iv (pls ws))), some (.int (k : Int)), none], h) := by
        simp only [q_exsc, q_exsn, q_asg, q_bin, q_slc, q_v, List.getElem?_cons_zero, List.getElem?_cons_succ, T.bind_ok, q_on, q_os, s1, q_c, q_add, s2, c1, q_nm, List.set_cons_succ, List.set_cons_zero]
      rw [T.bind_ok, T.all_ok]
      dsimp only
      rw [e4, T.all_ok]
      have ih := lred_loop ht f (p ++ r) (some (.tl (iv (pls ws)))) (some (.int (k : Int))) (by simp; omega) (by simp; omega)
      have er : red ws = red (p ++ r) := by rw [ew, red_pair hxy]
      rw [er]
      exact ih
theorem fn_lred {l : Nat} {ws : List Int} (ht : h.get l = some .tape) (hs : ws.length ≤ 900) : (callN tab fue (d + 2) 12 [.ref l, tw ws] h).All fun r => r = (tw (red ws), h) := by
  show (runF (callN tab fue (d + 1)) fue 5 b__law_reduced true [.ref l, tw ws] h).All _
  refine runF_all ?_
  generalize hh : (⟨h.os, h.n, h.n, h.lk⟩ : Hs) = h0
  have ht0 : h0.get l = some .tape := by rw [← hh]; exact ht
  have lo : h.n ≤ h0.lo := by rw [← hh]; exact Nat.le_refl _
  show (exs (callN tab fue (d + 1)) fue [.whl (.c (.bl true)) redB] [some (.ref l), some (tw ws), none, none, none] h0).All _
  rw [q_exsc, T.all_bind, q_whl]
  refine T.all_mono (fun r z => ?_) (lred_loop ht0 fue ws none none (by show _ < 1000; omega) (by omega))
  obtain ⟨z1, z2⟩ := z
  obtain ⟨fl, s1, h1⟩ := r
  simp only at z1 z2
  subst z1 z2
  exact ⟨tw (red ws), tw (red ws), rfl, lo, fz_iv, rfl⟩
end
end Eng.k03
namespace Eng.k03
open PySem L2 Eng
/-! ### the core, by the law's own search -/
def Qb (r : List Int) (m : Nat) : Bool := (decide (2 * m < r.length) || decide (m = 0)) && decide (inv (r.take m) = r.drop (r.length - m))
theorem neg_flip {a b : Option Int} (h : a = b.map fun x => 0 - x) : b = a.map fun x => 0 - x := by
  subst h
  cases b with
  | none => rfl
  | some x => simp
theorem inv_get {r : List Int} {m i : Nat} (hm : m ≤ r.length) (hi : i < m) : (inv (r.take m))[i]? = (r[m - 1 - i]?).map fun x => 0 - x := by
  rw [inv_map, List.getElem?_map, List.getElem?_reverse (by rw [List.length_take]; omega), List.length_take, Nat.min_eq_left hm, List.getElem?_take_of_lt (by omega)]
theorem inv_iff {r : List Int} {m : Nat} (hm : m ≤ r.length) : inv (r.take m) = r.drop (r.length - m) ↔ ∀ j, j < m → r[j]? = (r[r.length - 1 - j]?).map fun x => 0 - x := by
  constructor
  · intro h j hj
    have e : (inv (r.take m))[m - 1 - j]? = (r.drop (r.length - m))[m - 1 - j]? := by rw [h]
    rw [inv_get hm (by omega), List.getElem?_drop] at e
    rw [show m - 1 - (m - 1 - j) = j by omega, show r.length - m + (m - 1 - j) = r.length - 1 - j by omega] at e
    exact neg_flip e.symm
  · intro h
    refine List.ext_getElem? fun i => ?_
    by_cases hi : i < m
    · rw [inv_get hm hi, List.getElem?_drop, h (m - 1 - i) (by omega), show r.length - 1 - (m - 1 - i) = r.length - m + i by omega]
      cases r[r.length - m + i]? with
      | none => rfl
      | some x => simp
    · rw [List.getElem?_eq_none (by rw [inv_len, List.length_take]; omega), List.getElem?_eq_none (by rw [List.length_drop]; omega)]
theorem na_at : ∀ {r : List Int} {k : Nat} {x y : Int}, na r → r[k]? = some x → r[k + 1]? = some y → x ≠ 0 - y
  | [], k, x, y, _, h, _ => by simp at h
  | z :: r, 0, x, y, h, e1, e2 => by
    simp at e1 e2
    subst e1
    exact h.1 y (by rw [List.head?_eq_getElem?]; exact e2)
  | z :: r, k + 1, x, y, h, e1, e2 => na_at h.2 (by simpa using e1) (by simpa using e2)
theorem cnd_iff {r : List Int} {m : Nat} : cnd r m = true ↔ 2 * m + 1 < r.length ∧ r[m]? = (r[r.length - 1 - m]?).map fun x => 0 - x := by
  unfold cnd
  rw [Bool.and_eq_true, decide_eq_true_eq, decide_eq_true_eq]
theorem core_Q {r : List Int} {m : Nat} (hr : na r) (c : CoreP r m) : Qb r m = true ∧ ∀ k, k ≤ r.length → m < k → Qb r k = false := by
  have le := c.le
  constructor
  · unfold Qb
    rw [Bool.and_eq_true, decide_eq_true_eq, Bool.or_eq_true, decide_eq_true_eq, decide_eq_true_eq]
    refine ⟨?_, (inv_iff (by omega)).mpr fun j hj => (cnd_iff.mp (c.1 j hj)).2⟩
    by_cases hm : m = 0
    · exact .inr hm
    · left
      have q := (cnd_iff.mp (c.1 (m - 1) (by omega)))
      by_cases e : 2 * m < r.length
      · exact e
      · exfalso
        have e2 : r.length - 1 - (m - 1) = m - 1 + 1 := by omega
        rw [e2] at q
        have i1 : r[m - 1]? = some r[m - 1] := List.getElem?_eq_getElem (by omega)
        have i2 : r[m - 1 + 1]? = some r[m - 1 + 1] := List.getElem?_eq_getElem (by omega)
        have q2 := q.2
        rw [i1, i2] at q2
        simp only [Option.map_some, Option.some.injEq] at q2
        exact na_at hr i1 i2 q2
  · intro k hk hmk
    cases z : Qb r k with
    | false => rfl
    | true =>
      exfalso
      unfold Qb at z
      rw [Bool.and_eq_true, decide_eq_true_eq, Bool.or_eq_true, decide_eq_true_eq, decide_eq_true_eq] at z
      have z2 := (inv_iff hk).mp z.2 m hmk
      have : cnd r m = true := cnd_iff.mpr ⟨by omega, z2⟩
      rw [c.2] at this
      cases this
theorem Q_uniq {r : List Int} {m k : Nat} (hr : na r) (c : CoreP r m) (hk : k ≤ r.length) (q : Qb r k = true) (l : ∀ j, j ≤ r.length → k < j → Qb r j = false) : k = m := by
  obtain ⟨a, b⟩ := core_Q hr c
  have le := c.le
  by_cases h1 : m < k
  · have := b k hk h1
    rw [q] at this
    cases this
  · by_cases h2 : k < m
    · have := l m (by omega) h2
      rw [a] at this
      cases this
    · omega
/-- the core of a conjugate of a letter -/
theorem core_conj {t : List Int} {x : Int} {m : Nat} (c : CoreP (t ++ [x] ++ inv t) m) : m = t.length := by
  have hl : (t ++ [x] ++ inv t).length = 2 * t.length + 1 := by simp [inv_len]; omega
  have all : ∀ j, j < t.length → cnd (t ++ [x] ++ inv t) j = true := fun j hj => by
    refine cnd_iff.mpr ⟨by omega, ?_⟩
    have h2 := (inv_iff (r := t) (m := t.length) (Nat.le_refl _))
    have e1 : (t ++ [x] ++ inv t)[j]? = t[j]? := by
      rw [List.append_assoc, List.getElem?_append_left hj]
    have e2 : (t ++ [x] ++ inv t)[(t ++ [x] ++ inv t).length - 1 - j]? = (inv t)[t.length - 1 - j]? := by
      rw [List.getElem?_append_right (by simp [inv_len]; omega)]
      congr 1
      simp [inv_len]
      omega
    have e3 : (inv t)[t.length - 1 - j]? = (t[j]?).map fun x => 0 - x := by
      have := inv_get (r := t) (m := t.length) (i := t.length - 1 - j) (Nat.le_refl _) (by omega)
      rw [List.take_length, show t.length - 1 - (t.length - 1 - j) = j by omega] at this
      exact this
    rw [e1, e2]
    exact neg_flip e3
  have no : cnd (t ++ [x] ++ inv t) t.length = false := by
    cases q : cnd (t ++ [x] ++ inv t) t.length with
    | false => rfl
    | true => have := (cnd_iff.mp q).1; omega
  by_cases h1 : m < t.length
  · have := all m h1
    rw [c.2] at this
    cases this
  · by_cases h2 : t.length < m
    · have := c.1 _ h2
      rw [no] at this
      cases this
    · omega
theorem mid_conj {t : List Int} {x : Int} : mid (t ++ [x] ++ inv t) t.length = [x] := by
  unfold mid
  have : (t ++ [x] ++ inv t).length - t.length = (t ++ [x]).length := by simp [inv_len]
  rw [this, List.take_left']
  · simp
  · rfl
theorem take_conj {t : List Int} {x : Int} : (t ++ [x] ++ inv t).take t.length = t := by
  rw [List.append_assoc, List.take_left']
  rfl
section
variable {cf : Nat → List Val → Hs → T (Val × Hs)} {fu d : Nat} {h : Hs}
theorem src_down {n : Nat} (hn : n ≤ 1000) : srcV .rng [.int (n : Int), .int (-1), .int (-1)] h = some (rngC (n : Int) (-1) (n + 1), none) := by
  have e : rgN (n : Int) (-1) (-1) = n + 1 := by
    unfold rgN
    rw [if_neg (by decide)]
    show (((n : Int) - (-1) + (- -1) - 1) / (- -1)).toNat = n + 1
    have : ((n : Int) - (-1) + (- -1) - 1) / (- -1) = n + 1 := by
      rw [show (- -1 : Int) = 1 by decide, Int.ediv_one]
      omega
    rw [this]
    omega
  have c : (bd62 (n : Int) && bd62 (-1) && decide ((-1 : Int) ≠ 0) && Nat.blt (-1 : Int).natAbs 1000000 && Nat.ble (rgN (n : Int) (-1) (-1)) 1000000) = true := by
    rw [e]
    have b1 : bd62 (n : Int) = true := by unfold bd62; simp; omega
    have b2 : Nat.ble (n + 1) 1000000 = true := Nat.ble_eq.mpr (by omega)
    rw [b1, b2]
    rfl
  unfold srcV
  dsimp only
  rw [if_pos c, e]
def orE : E := .or (.cmp .lt (.bin .mul false (.c (.int 2)) (.v 1)) (.bi .len false [.v 0])) (.cmp .eq (.v 1) (.c (.int 0)))
def lcB : List S := [.ite orE [.asg (.nm 2) (.slc false (.v 0) none (some (.v 1))), .ite (.cmp .eq (.bi .tuple false [.lc false [3] (.nm 3) .rev [.v 2] [] (.bin .sub false (.c (.int 0)) (.v 3))]) (.slc false (.v 0) (some (.bin .sub false (.bi .len false [.v 0]) (.v 1))) none)) [.ret (.tup [.v 2, .slc false (.v 0) (some (.v 1)) (some (.bin .sub false (.bi .len false [.v 0]) (.v 1)))])] []] []]
theorem lc_step {r : List Int} {m : Nat} {o2 : Option Val} (hr : r.length ≤ 1000) (hm : m ≤ r.length) :
    ∃ o2', exs cf fu lcB [some (tw r), some (.int (m : Int)), o2, none] h = .ok (if Qb r m then .rt (.tup [tw (r.take m), tw (mid r m)]) else .nx, [some (tw r), some (.int (m : Int)), o2', none], h) := by
  have lt : ∀ b, biV .len b [tw r] h = .ok (.int r.length, h) := fun b => by simp [tw]
  have ml : ∀ {b : Bool}, bopV .mul b (.int 2) (.int (m : Int)) h = .ok (.int (2 * m), h) := q_mul (by decide) (by omega)
  have eo : ev cf orE [some (tw r), some (.int (m : Int)), o2, none] h = .ok (.bl (decide (2 * m < r.length) || decide (m = 0)), h) := by
    have p1 : decide ((2 : Int) * m < r.length) = decide (2 * m < r.length) := decide_eq_decide.mpr (by omega)
    have p2 : decide ((m : Int) = 0) = decide (m = 0) := decide_eq_decide.mpr (by omega)
    simp only [orE, q_or, q_cmp, q_bin, q_c, T.bind_ok, q_v, List.getElem?_cons_zero, List.getElem?_cons_succ, ml, q_bi, q_cons, q_nil, lt, q_cmpI, q_lt, q_eq, p1, p2]
    cases decide (2 * m < r.length) <;> simp
  cases q : (decide (2 * m < r.length) || decide (m = 0)) with
  | false =>
    rw [q] at eo
    have e1 := exIf (fu := fu) (x := [.asg (.nm 2) (.slc false (.v 0) none (some (.v 1))), .ite (.cmp .eq (.bi .tuple false [.lc false [3] (.nm 3) .rev [.v 2] [] (.bin .sub false (.c (.int 0)) (.v 3))]) (.slc false (.v 0) (some (.bin .sub false (.bi .len false [.v 0]) (.v 1))) none)) [.ret (.tup [.v 2, .slc false (.v 0) (some (.v 1)) (some (.bin .sub false (.bi .len false [.v 0]) (.v 1)))])] []]) (y := []) eo
    rw [if_neg Bool.false_ne_true] at e1
    have : Qb r m = false := by unfold Qb; rw [q, Bool.false_and]
    rw [this]
    refine ⟨o2, ?_⟩
    show exs cf fu [_] _ _ = _
    rw [exsN (e1.trans rfl)]
    rfl
  | true =>
    rw [q] at eo
    have e1 := exIf (fu := fu) (x := [.asg (.nm 2) (.slc false (.v 0) none (some (.v 1))), .ite (.cmp .eq (.bi .tuple false [.lc false [3] (.nm 3) .rev [.v 2] [] (.bin .sub false (.c (.int 0)) (.v 3))]) (.slc false (.v 0) (some (.bin .sub false (.bi .len false [.v 0]) (.v 1))) none)) [.ret (.tup [.v 2, .slc false (.v 0) (some (.v 1)) (some (.bin .sub false (.bi .len false [.v 0]) (.v 1)))])] []]) (y := []) eo
    rw [if_pos rfl] at e1
    have le : 2 * m ≤ r.length := by
      rw [Bool.or_eq_true, decide_eq_true_eq, decide_eq_true_eq] at q
      omega
    have s1 : slcV false (tw r) none (some (m : Int)) h = .ok (tw (r.take m), h) := by simp only [slcV, tw, cut_to, iv_take]
    have z : ((r.length : Int) - m) = ((r.length - m : Nat) : Int) := by omega
    have s2 : slcV false (tw r) (some ((r.length : Int) - m)) none h = .ok (tw (r.drop (r.length - m)), h) := by
      rw [z]
      simp only [slcV, tw, cut_from, iv_drop]
    have s3 : slcV false (tw r) (some (m : Int)) (some ((r.length : Int) - m)) h = .ok (tw (mid r m), h) := by
      rw [z]
      simp only [slcV, tw]
      rw [cut_mid (by simp) (by omega), iv_take, iv_drop]
      rfl
    have a1 : ex cf fu (.asg (.nm 2) (.slc false (.v 0) none (some (.v 1)))) [some (tw r), some (.int (m : Int)), o2, none] h = .ok (.nx, [some (tw r), some (.int (m : Int)), some (tw (r.take m)), none], h) := exNm (by simp [s1])
    have rv := ev_rev (cf := cf) (e := .v 2) (j := 3) (s := [some (tw r), some (.int (m : Int)), some (tw (r.take m)), none]) (h := h) (ws := r.take m) rfl (by simp) (by rw [List.length_take]; omega)
    have ce : ev cf (.cmp .eq (.bi .tuple false [.lc false [3] (.nm 3) .rev [.v 2] [] (.bin .sub false (.c (.int 0)) (.v 3))]) (.slc false (.v 0) (some (.bin .sub false (.bi .len false [.v 0]) (.v 1))) none)) [some (tw r), some (.int (m : Int)), some (tw (r.take m)), none] h = .ok (.bl (Qb r m), h) := by
      have sl : ev cf (.slc false (.v 0) (some (.bin .sub false (.bi .len false [.v 0]) (.v 1))) none) [some (tw r), some (.int (m : Int)), some (tw (r.take m)), none] h = .ok (tw (r.drop (r.length - m)), h) := by
        simp only [q_slc, q_v, q_os, q_on, q_bin, q_bi, q_cons, q_nil, List.getElem?_cons_zero, List.getElem?_cons_succ, T.bind_ok, lt, q_subI, s2]
      have qe : Qb r m = decide (inv (r.take m) = r.drop (r.length - m)) := by unfold Qb; rw [q, Bool.true_and]
      rw [q_cmp, rv, T.bind_ok, sl, T.bind_ok]
      dsimp only
      rw [show copV .eq (.tup (iv (inv (r.take m)))) (tw (r.drop (r.length - m))) h = some (decide (inv (r.take m) = r.drop (r.length - m))) from eq_tup, qe]
    have e2 := exIf (fu := fu) (x := [.ret (.tup [.v 2, .slc false (.v 0) (some (.v 1)) (some (.bin .sub false (.bi .len false [.v 0]) (.v 1)))])]) (y := []) ce
    refine ⟨some (tw (r.take m)), ?_⟩
    cases qq : Qb r m with
    | true =>
      rw [qq, if_pos rfl] at e2
      have er : ev cf (.tup [.v 2, .slc false (.v 0) (some (.v 1)) (some (.bin .sub false (.bi .len false [.v 0]) (.v 1)))]) [some (tw r), some (.int (m : Int)), some (tw (r.take m)), none] h = .ok (.tup [tw (r.take m), tw (mid r m)], h) := by
        simp [lt, s3, sm_of]
      show exs cf fu [_] _ _ = _
      rw [exsR (e1.trans ((exsN a1).trans (exsR (e2.trans (exsR (exRet er))))))]
      rfl
    | false =>
      rw [qq, if_neg Bool.false_ne_true] at e2
      show exs cf fu [_] _ _ = _
      rw [exsN (e1.trans ((exsN a1).trans (exsN (e2.trans rfl))))]
      rfl
theorem lc_loop {r : List Int} (hr : r.length ≤ 1000) : ∀ (m : Nat) (o1 o2 : Option Val), m ≤ r.length → (∀ j, j ≤ r.length → m < j → Qb r j = false) →
    ∃ k s', forL (tgS (.nm 1)) (exs cf fu lcB) (rngC (m : Int) (-1) (m + 1)) [some (tw r), o1, o2, none] h = .ok (.rt (.tup [tw (r.take k), tw (mid r k)]), s', h) ∧ k ≤ r.length ∧ Qb r k = true ∧ ∀ j, j ≤ r.length → k < j → Qb r j = false
  | m, o1, o2, hm, hj => by
    obtain ⟨o2', e⟩ := lc_step (cf := cf) (fu := fu) (h := h) (o2 := o2) hr hm
    show ∃ k s', forL (tgS (.nm 1)) (exs cf fu lcB) (Val.int (m : Int) :: rngC ((m : Int) + -1) (-1) m) _ _ = _ ∧ _
    rw [q_forc]
    simp only [q_tgnm, List.set_cons_succ, List.set_cons_zero]
    rw [e, T.bind_ok]
    cases q : Qb r m with
    | true => exact ⟨m, _, rfl, hm, q, hj⟩
    | false =>
      match m, hm, hj, q, e with
      | 0, hm, hj, q, e =>
        exfalso
        unfold Qb at q
        simp [inv] at q
      | m + 1, hm, hj, q, e =>
        obtain ⟨k, s', e2, h1, h2, h3⟩ := lc_loop hr m (some (.int ((m + 1 : Nat) : Int))) o2' (by omega) fun j h1 h2 => by
          by_cases z : j = m + 1
          · rw [z]; exact q
          · exact hj j h1 (by omega)
        have en : ((m + 1 : Nat) : Int) + -1 = (m : Int) := by omega
        rw [en]
        exact ⟨k, s', e2, h1, h2, h3⟩
theorem exForS {cf : Nat → List Val → Hs → T (Val × Hs)} {s : Env} {tg : Tg} {sk : Sk} {es : List E} {b : List S} {vs xs : List Val} {h1 : Hs} {r : T Rs} (he : evs cf es s h = .ok (vs, h1)) (hs : srcV sk vs h1 = some (xs, none)) (hf : forL (tgS tg) (exs cf fu b) xs s h1 = r) : ex cf fu (.for_ tg sk es b) s h = r := by
  rw [q_for, he, T.bind_ok]
  simp only [hs]
  exact hf
theorem fn_lcore {r : List Int} (hr : r.length ≤ 1000) (hn : na r) {m : Nat} (c : CoreP r m) : callN tab fu (d + 1) 13 [tw r] h = .ok (.tup [tw (r.take m), tw (mid r m)], h) := by
  show runF (callN tab fu d) fu 4 b__law_core true [tw r] h = _
  generalize hh : (⟨h.os, h.n, h.n, h.lk⟩ : Hs) = h0
  obtain ⟨k, s', e, h1, h2, h3⟩ := lc_loop (cf := callN tab fu d) (fu := fu) (h := h0) hr r.length none none (Nat.le_refl _) fun j h1 h2 => absurd h1 (by omega)
  have ek := Q_uniq hn c h1 h2 h3
  subst ek
  refine runF_of (s1 := s') (h1 := h0) (v := .tup [tw (r.take k), tw (mid r k)]) ?_ (by rw [← hh]; exact Nat.le_refl _) fz_pair
  rw [hh]
  have lt : ∀ b, biV .len b [tw r] h0 = .ok (.int r.length, h0) := fun b => by simp [tw]
  have ea : evs (callN tab fu d) [.bi .len false [.v 0], .neg (.c (.int 1)), .neg (.c (.int 1))] [some (tw r), none, none, none] h0 = .ok ([.int (r.length : Int), .int (-1), .int (-1)], h0) := by
    simp [lt]
  have ef : ex (callN tab fu d) fu (.for_ (.nm 1) .rng [.bi .len false [.v 0], .neg (.c (.int 1)), .neg (.c (.int 1))] lcB) [some (tw r), none, none, none] h0 = .ok (.rt (.tup [tw (r.take k), tw (mid r k)]), s', h0) := by
    exact exForS ea (src_down hr) e
  show exs (callN tab fu d) fu [.for_ (.nm 1) .rng _ lcB, .ret (.c .non)] [some (tw r), none, none, none] h0 = _
  exact exsR ef
end
end Eng.k03
namespace Eng.k03
open PySem L2 Eng
def GH (h : Hs) : Prop := h.get 0 = some .tape ∧ h.lk.contains h.n = false
structure Fs (cf : Nat → List Val → Hs → T (Val × Hs)) : Prop where
  red : ∀ {h : Hs} {ws : List Int} {v : Val}, GH h → (v = tw ws ∨ v = .tl (iv ws)) → ws.length ≤ 900 → cf 0 [v] h = .ok (tw (red ws), h)
  inv : ∀ {h : Hs} {ws : List Int}, ws.length ≤ 900 → cf 1 [tw ws] h = .ok (tw (inv ws), h)
  joined : ∀ {h : Hs} {wss : List (List Int)}, GH h → (wss.map List.length).sum ≤ 900 → wss.length ≤ 900 → cf 2 (wss.map tw) h = .ok (tw (joinW [] wss), h)
  subst : ∀ {h : Hs} {ws : List Int} {imgs : List (List Int)}, GH h → (∀ w ∈ imgs, w.length ≤ 1000) → (∀ x ∈ ws, x ≠ 0 ∧ x.natAbs ≤ imgs.length) → ws.length ≤ 90 → cf 3 [tw ws, .tl (imgs.map tw)] h = .ok (tw (k03.red (ws.flatMap (img imgs))), h)
  core : ∀ {h : Hs} {ws : List Int}, GH h → ws.length ≤ 900 → ∃ m : Nat, CoreP (k03.red ws) m ∧ cf 4 [tw ws] h = .ok (.tup [tw ((k03.red ws).take m), tw (mid (k03.red ws) m)], h)
  conj : ∀ {h : Hs} {ws : List Int}, GH h → ws.length ≤ 900 → ∃ m : Nat, CoreP (k03.red ws) m ∧ cf 5 [tw ws] h = .ok (match mid (k03.red ws) m with
    | [x] => .tup [tw ((k03.red ws).take m), .int x]
    | _ => .non, h)
  counts : ∀ {h : Hs} {ws : List Int}, ws.length ≤ 900 → cf 6 [tw ws, .int 3] h = .ok (tw [cnt ws 1 - cnt ws (0 - 1), cnt ws 2 - cnt ws (0 - 2), cnt ws 3 - cnt ws (0 - 3)], h)
  free : ∀ {h : Hs} {xs : List Val}, (∀ v ∈ xs, flat v = true) → xs.length ≤ 900 → cf 7 [.tup xs, .int 3] h = .ok (.bl (xs.all okV), h)
  freeL : ∀ {h : Hs} {xs : List Val}, cf 7 [.tl xs, .int 3] h = .ok (.bl false, h)
  freeN : ∀ {h : Hs}, cf 7 [.non, .int 3] h = .ok (.bl false, h)
  start : cf 8 [.scr] h00 = .ok (.ref 0, h00.new .tape)
  pick : ∀ {h : Hs} {n : Int} {P : Val × Hs → Prop}, GH h → 0 < n → n ≤ 1000 → (∀ i : Int, 0 ≤ i → i < n → P (.int i, h)) → (cf 9 [.ref 0, .int n] h).All P
  same_i : ∀ {h : Hs} {i : Int}, cf 10 [.int i, .int i] h = .ok (.bl true, h)
  same_w : ∀ {h : Hs} {ws : List Int}, ws.length ≤ 900 → cf 10 [tw ws, tw ws] h = .ok (.bl true, h)
  same_p : ∀ {h : Hs} {a b : List Int}, a.length ≤ 900 → b.length ≤ 900 → cf 10 [.tup [tw a, tw b], .tup [tw a, tw b]] h = .ok (.bl true, h)
  word : ∀ {h : Hs} {most many : Int}, GH h → 0 ≤ most → most ≤ 1000 → 0 < many → many ≤ 1000 → (cf 11 [.ref 0, .int most, .int many] h).All fun r => ∃ ws, r = (tw ws, h) ∧ (ws.length : Int) ≤ most ∧ ∀ x ∈ ws, letter many x
  lred : ∀ {h : Hs} {ws : List Int}, GH h → ws.length ≤ 900 → (cf 12 [.ref 0, tw ws] h).All fun r => r = (tw (k03.red ws), h)
  lcore : ∀ {h : Hs} {r : List Int} {m : Nat}, r.length ≤ 1000 → na r → CoreP r m → cf 13 [tw r] h = .ok (.tup [tw (r.take m), tw (mid r m)], h)
theorem facts : Fs (callN tab fue dep) where
  red g hv hs := fn_reduced (d := 59) hv (by omega) g.2
  inv hs := fn_inv (d := 59) (by omega)
  joined g h1 h2 := fn_joined (d := 58) g.2 (by omega) (by omega)
  subst g h1 h2 h3 := fn_subst (d := 58) g.2 h1 h2 h3
  core g hs := fn_core (d := 58) hs g.2
  conj g hs := fn_conj (d := 57) hs g.2
  counts hs := fn_counts (d := 59) (by omega)
  free h1 h2 := fn_free (d := 59) h1 (by omega)
  freeL := fn_freeL (d := 59)
  freeN := fn_freeN (d := 59)
  start := rfl
  pick g h0 h1 H := pick_all (d := 59) g.1 h0 (by omega) H
  same_i := same_int (D := 59)
  same_w hs := same_w (D := 58) (by omega)
  same_p h1 h2 := same_p (D := 57) (by omega) (by omega)
  word g a b c d := fn_word (d := 58) g.1 a b c d
  lred g hs := fn_lred (d := 58) g.1 hs
  lcore h1 h2 h3 := fn_lcore (d := 59) h1 h2 h3
/-! ### steps -/
section
variable {cf : Nat → List Val → Hs → T (Val × Hs)} {fu : Nat} {h : Hs} {s : Env} {ts : List S} {R : Rs → Prop} {x : Nat} {e a b c : E}
structure Is (cf : Nat → List Val → Hs → T (Val × Hs)) (e : E) (s : Env) (h : Hs) (v : Val) : Prop where
  all : (ev cf e s h).All fun r => r = (v, h)
structure Run (cf : Nat → List Val → Hs → T (Val × Hs)) (fu : Nat) (ts : List S) (s : Env) (h : Hs) : Prop where
  all : (exs cf fu ts s h).All fun r => r.1 = .rt (.bl true)
theorem is_of {v : Val} (e1 : ev cf e s h = .ok (v, h)) : Is cf e s h v := by
  constructor
  rw [e1]
  exact rfl
theorem isNot {k : Bool} (e1 : Is cf a s h (.bl k)) : Is cf (.not a) s h (.bl (!k)) := by
  constructor
  rw [q_not, T.all_bind]
  refine T.all_mono (fun r z => ?_) e1.all
  rw [z]
  rfl
theorem isOr {k : Bool} (e1 : Is cf a s h (.bl false)) (e2 : Is cf b s h (.bl k)) : Is cf (.or a b) s h (.bl k) := by
  constructor
  rw [q_or, T.all_bind]
  refine T.all_mono (fun r z => ?_) e1.all
  rw [z]
  exact e2.all
theorem isAnd {k : Bool} (e1 : Is cf a s h (.bl true)) (e2 : Is cf b s h (.bl k)) : Is cf (.and a b) s h (.bl k) := by
  constructor
  rw [q_and, T.all_bind]
  refine T.all_mono (fun r z => ?_) e1.all
  rw [z]
  exact e2.all
theorem isCall1 {f : Nat} {va v : Val} (e1 : Is cf a s h va) (e2 : (cf f [va] h).All fun r => r = (v, h)) : Is cf (.call f [a]) s h v := by
  constructor
  rw [q_call, T.all_bind, q_cons, T.all_bind]
  refine T.all_mono (fun r z => ?_) e1.all
  rw [z]
  exact e2
theorem isCall2 {f : Nat} {va vb v : Val} (e1 : Is cf a s h va) (e2 : Is cf b s h vb) (e3 : (cf f [va, vb] h).All fun r => r = (v, h)) : Is cf (.call f [a, b]) s h v := by
  constructor
  rw [q_call, T.all_bind, q_cons, T.all_bind]
  refine T.all_mono (fun r z => ?_) e1.all
  rw [z, T.all_bind, q_cons, T.all_bind]
  refine T.all_mono (fun r z => ?_) e2.all
  rw [z]
  exact e3
theorem isCmp {op : Cop} {va vb : Val} {k : Bool} (e1 : Is cf a s h va) (e2 : Is cf b s h vb) (e3 : copV op va vb h = some k) : Is cf (.cmp op a b) s h (.bl k) := by
  constructor
  rw [q_cmp, T.all_bind]
  refine T.all_mono (fun r z => ?_) e1.all
  rw [z, T.all_bind]
  refine T.all_mono (fun r z => ?_) e2.all
  rw [z]
  simp only [e3]
  exact rfl
theorem is_cf {f : Nat} {vs : List Val} {v : Val} (e1 : cf f vs h = .ok (v, h)) : (cf f vs h).All fun r => r = (v, h) := by
  rw [e1]
  exact rfl
theorem sEq {v : Val} (e1 : ev cf e s h = .ok (v, h)) (H : Run cf fu ts (s.set x (some v)) h) : Run cf fu (.asg (.nm x) e :: ts) s h := by
  constructor
  rw [exsN (exNm e1)]
  exact H.all
theorem sEx {t : S} {s' : Env} {h' : Hs} (e1 : ex cf fu t s h = .ok (.nx, s', h')) (H : Run cf fu ts s' h') : Run cf fu (t :: ts) s h := by
  constructor
  rw [exsN e1]
  exact H.all
theorem sAll {P : Val → Prop} (e1 : (ev cf e s h).All fun r => r.2 = h ∧ P r.1) (H : ∀ v, P v → Run cf fu ts (s.set x (some v)) h) : Run cf fu (.asg (.nm x) e :: ts) s h := by
  constructor
  rw [q_exsc, T.all_bind, q_asg, T.all_bind]
  refine T.all_mono (fun r z => ?_) e1
  rw [q_nm, T.bind_ok, T.all_ok]
  obtain ⟨z1, z2⟩ := z
  rw [z1]
  exact (H _ z2).all
theorem sIs {v : Val} (e1 : Is cf e s h v) (H : Run cf fu ts (s.set x (some v)) h) : Run cf fu (.asg (.nm x) e :: ts) s h :=
  sAll (P := fun w => w = v) (T.all_mono (fun r z => by rw [z]; exact ⟨rfl, rfl⟩) e1.all) fun w e => by rw [e]; exact H
theorem sIf (e1 : Is cf c s h (.bl false)) (H : Run cf fu ts s h) : Run cf fu (.ite c [.ret (.c (.bl false))] [] :: ts) s h := by
  constructor
  rw [q_exsc, T.all_bind, q_if, T.all_bind, q_tst, T.all_bind]
  refine T.all_mono (fun r z => ?_) e1.all
  rw [z]
  exact H.all
theorem isCallD {f : Nat} {es : List E} {vs : List Val} {v : Val} (e1 : evs cf es s h = .ok (vs, h)) (e2 : cf f vs h = .ok (v, h)) : Is cf (.call f es) s h v := by
  constructor
  rw [q_call, e1, T.bind_ok, e2]
  exact rfl
theorem sWord {f : Nat} {es : List E} {vs : List Val} {P : Val → Prop} (e1 : evs cf es s h = .ok (vs, h)) (e2 : (cf f vs h).All fun r => r.2 = h ∧ P r.1) (H : ∀ v, P v → Run cf fu ts (s.set x (some v)) h) : Run cf fu (.asg (.nm x) (.call f es) :: ts) s h :=
  sAll (by rw [q_call, e1]; exact e2) H
theorem catE {u w : List Int} (e1 : ev cf a s h = .ok (tw u, h)) (e2 : ev cf b s h = .ok (tw w, h)) (hs : u.length + w.length ≤ 1000000) : ev cf (.bin .add false a b) s h = .ok (tw (u ++ w), h) := by
  simp only [q_bin, e1, e2, T.bind_ok, tw, q_catT, iv_len, sm_of (show u.length + w.length ≤ 1048576 by omega), if_true, iv_app]
end
/-! ### the law -/
section
variable {cf : Nat → List Val → Hs → T (Val × Hs)}
abbrev hT : Hs := h00.new .tape
theorem gT : GH hT := ⟨rfl, rfl⟩
/-- the words' images put side by side, as the law does it -/
def partB : List S := [.asg (.nm 10) (.sub (.v 7) (.bin .sub false (.bi .abs false [.v 9]) (.c (.int 1)))), .ite (.cmp .lt (.v 9) (.c (.int 0))) [.asg (.nm 10) (.bi .tuple false [.lc false [14] (.nm 14) .rev [.v 10] [] (.bin .sub false (.c (.int 0)) (.v 14))])] [], .asg (.nm 8) (.bin .add false (.v 8) (.v 10))]
theorem part_loop {fu : Nat} {h : Hs} {imgs : List (List Int)} (hs : ∀ w ∈ imgs, w.length ≤ 3) : ∀ (ws ps : List Int) (s : Env), s.length = 15 → s[7]? = some (some (.tl (imgs.map tw))) → s[8]? = some (some (tw ps)) → (∀ x ∈ ws, x ≠ 0 ∧ x.natAbs ≤ imgs.length) → ps.length + 3 * ws.length ≤ 1000 →
    ∃ s', forL (tgS (.nm 9)) (exs cf fu partB) (iv ws) s h = .ok (.nx, s', h) ∧ s'.length = 15 ∧ s'[8]? = some (some (tw (ps ++ ws.flatMap (img imgs)))) ∧ ∀ m, m ≠ 8 → m ≠ 9 → m ≠ 10 → s'[m]? = s[m]?
  | [], ps, s, h0, h7, h8, _, _ => ⟨s, rfl, h0, by simpa using h8, fun _ _ _ _ => rfl⟩
  | x :: ws, ps, s, h0, h7, h8, hx, hb => by
    rw [List.length_cons] at hb
    obtain ⟨x0, xb⟩ := hx x List.mem_cons_self
    have li : (x.natAbs - 1) < imgs.length := by omega
    have g : subV (.tl (imgs.map tw)) (.int ((x.natAbs : Int) - 1)) h = some (tw imgs[x.natAbs - 1]) := by
      refine subL_int (by omega) ?_
      rw [show ((x.natAbs : Int) - 1).toNat = x.natAbs - 1 by omega, List.getElem?_map, List.getElem?_eq_getElem li]
      rfl
    have ab : biV .abs false [.int x] h = .ok (.int x.natAbs, h) := by
      show T.ok (Val.int (if decide (x < 0) = true then -x else x), h) = _
      by_cases q : x < 0
      · rw [decide_eq_true q, if_pos rfl, show -x = (x.natAbs : Int) by omega]
      · rw [decide_eq_false q, if_neg Bool.false_ne_true]
        have : x = (x.natAbs : Int) := by omega
        rw [← this]
    have s7 : (s.set 9 (some (.int x)))[7]? = some (some (.tl (imgs.map tw))) := by rw [List.getElem?_set_ne (by decide)]; exact h7
    have s9 : (s.set 9 (some (.int x)))[9]? = some (some (.int x)) := by rw [List.getElem?_set_self (by omega)]
    have a1 : ex cf fu (.asg (.nm 10) (.sub (.v 7) (.bin .sub false (.bi .abs false [.v 9]) (.c (.int 1))))) (s.set 9 (some (.int x))) h = .ok (.nx, (s.set 9 (some (.int x))).set 10 (some (tw imgs[x.natAbs - 1])), h) := exNm (by
      simp only [q_sub, q_v, s7, T.bind_ok, q_bin, q_bi, q_cons, s9, q_nil, ab, q_c, q_subI, g])
    have t9 : ((s.set 9 (some (.int x))).set 10 (some (tw imgs[x.natAbs - 1])))[9]? = some (some (.int x)) := by rw [List.getElem?_set_ne (by decide)]; exact s9
    have t10 : ((s.set 9 (some (.int x))).set 10 (some (tw imgs[x.natAbs - 1])))[10]? = some (some (tw imgs[x.natAbs - 1])) := by rw [List.getElem?_set_self (by simp; omega)]
    have tc : ev cf (.cmp .lt (.v 9) (.c (.int 0))) ((s.set 9 (some (.int x))).set 10 (some (tw imgs[x.natAbs - 1]))) h = .ok (.bl (decide (x < 0)), h) := by
      simp only [q_cmp, q_v, t9, T.bind_ok, q_c, q_cmpI, q_lt]
    have iw : (imgs[x.natAbs - 1]).length ≤ 3 := hs _ (List.getElem_mem li)
    -- the image, turned if need be
    have a2 : ∃ s2, ex cf fu (.ite (.cmp .lt (.v 9) (.c (.int 0))) [.asg (.nm 10) (.bi .tuple false [.lc false [14] (.nm 14) .rev [.v 10] [] (.bin .sub false (.c (.int 0)) (.v 14))])] []) ((s.set 9 (some (.int x))).set 10 (some (tw imgs[x.natAbs - 1]))) h = .ok (.nx, s2, h) ∧ s2.length = 15 ∧ s2[10]? = some (some (tw (img imgs x))) ∧ ∀ m, m ≠ 9 → m ≠ 10 → s2[m]? = s[m]? := by
      have gd : imgs.getD (x.natAbs - 1) [] = imgs[x.natAbs - 1] := by rw [List.getD_eq_getElem?_getD, List.getElem?_eq_getElem li]; rfl
      by_cases q : x < 0
      · rw [decide_eq_true q] at tc
        have e1 := exIf (fu := fu) (x := [.asg (.nm 10) (.bi .tuple false [.lc false [14] (.nm 14) .rev [.v 10] [] (.bin .sub false (.c (.int 0)) (.v 14))])]) (y := []) tc
        rw [if_pos rfl] at e1
        have rv := ev_rev (cf := cf) (e := .v 10) (j := 14) (s := (s.set 9 (some (.int x))).set 10 (some (tw imgs[x.natAbs - 1]))) (h := h) (ws := imgs[x.natAbs - 1]) (by rw [q_v, t10]; rfl) (by simp; omega) (by omega)
        have ei : img imgs x = inv imgs[x.natAbs - 1] := by
          unfold img
          rw [if_neg (by omega), show (0 - x - 1).toNat = x.natAbs - 1 by omega, gd]
        refine ⟨_, e1.trans ((exsN (exNm rv)).trans rfl), by simp; omega, ?_, fun m m1 m2 => ?_⟩
        · rw [List.getElem?_set_self (by simp; omega), ei]; rfl
        · rw [List.getElem?_set_ne (Ne.symm m2), List.getElem?_set_ne (Ne.symm m2), List.getElem?_set_ne (Ne.symm m1)]
      · rw [decide_eq_false q] at tc
        have e1 := exIf (fu := fu) (x := [.asg (.nm 10) (.bi .tuple false [.lc false [14] (.nm 14) .rev [.v 10] [] (.bin .sub false (.c (.int 0)) (.v 14))])]) (y := []) tc
        rw [if_neg Bool.false_ne_true] at e1
        have ei : img imgs x = imgs[x.natAbs - 1] := by
          unfold img
          rw [if_pos (by omega), show (x - 1).toNat = x.natAbs - 1 by omega, gd]
        refine ⟨_, e1.trans rfl, by simp; omega, ?_, fun m m1 m2 => ?_⟩
        · rw [t10, ei]
        · rw [List.getElem?_set_ne (Ne.symm m2), List.getElem?_set_ne (Ne.symm m1)]
    obtain ⟨s2, e2, l2, i2, f2⟩ := a2
    have il : (img imgs x).length ≤ 3 := by
      unfold img
      have g : ∀ i, (imgs.getD i []).length ≤ 3 := fun i => by
        rw [List.getD_eq_getElem?_getD]
        cases q : imgs[i]? with
        | none => simp
        | some w => exact hs w (List.mem_of_getElem? q)
      split
      · exact g _
      · rw [inv_len]; exact g _
    have u8 : s2[8]? = some (some (tw ps)) := by rw [f2 8 (by decide) (by decide)]; exact h8
    have a3 : ex cf fu (.asg (.nm 8) (.bin .add false (.v 8) (.v 10))) s2 h = .ok (.nx, s2.set 8 (some (tw (ps ++ img imgs x))), h) := exNm (catE (by rw [q_v, u8]) (by rw [q_v, i2]) (by omega))
    have body : exs cf fu partB (s.set 9 (some (.int x))) h = .ok (.nx, s2.set 8 (some (tw (ps ++ img imgs x))), h) := by
      show exs cf fu [_, _, _] _ _ = _
      rw [exsN a1, exsN e2, exsN a3]
      rfl
    obtain ⟨s', z1, z2, z3, z4⟩ := part_loop hs ws (ps ++ img imgs x) (s2.set 8 (some (tw (ps ++ img imgs x)))) (by simpa using l2) (by rw [List.getElem?_set_ne (by decide), f2 7 (by decide) (by decide)]; exact h7) (by rw [List.getElem?_set_self (by omega)]) (fun y m => hx y (List.mem_cons_of_mem _ m)) (by rw [List.length_append]; omega)
    refine ⟨s', ?_, z2, by rw [z3, List.flatMap_cons, List.append_assoc], fun m m1 m2 m3 => by rw [z4 m m1 m2 m3, List.getElem?_set_ne (Ne.symm m1), f2 m m2 m3]⟩
    rw [iv_cons, q_forc]
    simp only [q_tgnm, body, T.bind_ok]
    exact z1
end
end Eng.k03
namespace Eng.k03
open PySem L2 Eng
section
variable {cf : Nat → List Val → Hs → T (Val × Hs)} {fu : Nat} {h : Hs} {s : Env} {ts : List S} {R : Rs → Prop} {x : Nat} {e a b c : E}
theorem runF_law {nN : Nat} {body : List S} {vs : List Val} (e : Run cf fu body (vs.map some ++ List.replicate (nN - vs.length) none) ⟨h.os, h.n, h.n, h.lk⟩) : (runF cf fu nN body false vs h).All fun r => r.1 = .bl true := by
  unfold runF
  refine T.all_bind.mpr (T.all_mono (fun r z => ?_) e.all)
  rw [z]
  exact rfl
theorem list15 : ∀ s : Env, s.length = 15 → ∃ a0 a1 a2 a3 a4 a5 a6 a7 a8 a9 a10 a11 a12 a13 a14, s = [a0, a1, a2, a3, a4, a5, a6, a7, a8, a9, a10, a11, a12, a13, a14]
  | [a0, a1, a2, a3, a4, a5, a6, a7, a8, a9, a10, a11, a12, a13, a14], _ => ⟨a0, a1, a2, a3, a4, a5, a6, a7, a8, a9, a10, a11, a12, a13, a14, rfl⟩
def hD (xs : List Val) : Hs := ⟨[.lst xs, .tape], 2, 0, []⟩
theorem gD {xs : List Val} : GH (hD xs) := ⟨rfl, rfl⟩
def cntE : E := .bin .sub false (.bi .len false [.lc false [14] (.nm 14) .val [.v 2] [.cmp .eq (.v 14) (.v 12)] (.c (.int 1))]) (.bi .len false [.lc false [14] (.nm 14) .val [.v 2] [.cmp .eq (.v 14) (.bin .sub false (.c (.int 0)) (.v 12))] (.c (.int 1))])
theorem cnt_step {w : List Int} {k : Int} {xs : List Val} (hw : w.length ≤ 900) (hl : s.length = 15) (h2 : s[2]? = some (some (tw w))) (h3 : s[3]? = some (some (.ref 1))) (h12 : s[12]? = some (some (.int k))) (hx : xs.length ≤ 10) :
    exs cf fu [.ex (.me (.v 3) .append [cntE])] s (hD xs) = .ok (.nx, s, hD (xs ++ [.int (cnt w k - cnt w (0 - k))])) := by
  have g12 : ∀ x : Int, ((wipeE s [14]).set 14 (some (.int x)))[12]? = some (some (.int k)) := fun x => by
    rw [List.getElem?_set_ne (by decide)]
    show (s.set 14 none)[12]? = _
    rw [List.getElem?_set_ne (by decide)]
    exact h12
  have a := ev_cnt (cf := cf) (h := hD xs) (s := s) (e := .v 2) (ke := .v 12) (j := 14) (k := k) (by rw [q_v, h2]) (fun x => by rw [q_v, g12 x]) (by omega) (show w.length ≤ 1000000 by omega)
  have b := ev_cnt (cf := cf) (h := hD xs) (s := s) (e := .v 2) (ke := .bin .sub false (.c (.int 0)) (.v 12)) (j := 14) (k := 0 - k) (by rw [q_v, h2]) (fun x => by rw [q_bin, q_c, T.bind_ok, q_v, g12 x]; rfl) (by omega) (show w.length ≤ 1000000 by omega)
  have ec : ev cf cntE s (hD xs) = .ok (.int (cnt w k - cnt w (0 - k)), hD xs) := by
    unfold cntE
    rw [q_bin, a, T.bind_ok, b]
    rfl
  have il : itemsL (hD xs) (.ref 1) = some xs := rfl
  have wl : (hD xs).wl 1 = some xs := rfl
  have pt : ∀ ys, (hD xs).put 1 (.lst ys) = hD ys := fun ys => rfl
  have me : meV .append (.ref 1) [.int (cnt w k - cnt w (0 - k))] (hD xs) = .ok (.non, hD (xs ++ [.int (cnt w k - cnt w (0 - k))])) := by
    simp only [meV, wl, sm_of (show xs.length ≤ 1048576 by omega), if_true, pt]
  simp only [q_exsc, q_exsn, q_ex, q_me, q_v, h3, T.bind_ok, il, q_cons, ec, q_nil, me]
theorem okV_iv {w : List Int} : (iv w).all okV = w.all fun x => decide (0 < x.natAbs) && decide (x.natAbs ≤ 3) := by
  unfold iv
  rw [List.all_map]
  rfl
theorem flat_iv {w : List Int} : ∀ v ∈ iv w, flat v = true := fun v m => by
  obtain ⟨x, _, rfl⟩ := List.mem_map.mp m
  rfl
end
theorem joinW2 (w o : List Int) : joinW [] [w, o] = red (w ++ o) := by
  show red (red ([] ++ w) ++ o) = _
  rw [List.nil_append, red_l]
theorem joinW3 (w o t : List Int) : joinW [] [w, o, t] = red (w ++ o ++ t) := by
  show red (red (red ([] ++ w) ++ o) ++ t) = _
  rw [List.nil_append, red_l w o, red_l]
section
variable {cf : Nat → List Val → Hs → T (Val × Hs)} {fu : Nat}
def L1 : List S := b_law.drop 1
def L2' : List S := b_law.drop 4
def L3 : List S := b_law.drop 6
def L4 : List S := b_law.drop 9
theorem stage1 (F : Fs cf) (H : ∀ w : List Int, w.length ≤ 10 → (∀ x ∈ w, letter 3 x) → Run cf fu L2' [some .scr, some (.ref 0), some (tw w), some (tw (red w)), none, none, none, none, none, none, none, none, none, none, none] hT) :
    Run cf fu L1 [some .scr, some (.ref 0), none, none, none, none, none, none, none, none, none, none, none, none, none] hT := by
  refine sWord (P := fun v => ∃ w, v = tw w ∧ w.length ≤ 10 ∧ ∀ x ∈ w, letter 3 x) (vs := [.ref 0, .int 10, .int 3]) rfl (T.all_mono (fun r z => ?_) (F.word gT (by decide) (by decide) (by decide) (by decide))) ?_
  · obtain ⟨w, e, h1, h2⟩ := z
    rw [e]
    exact ⟨rfl, w, rfl, by omega, h2⟩
  rintro _ ⟨w, rfl, hw, lw⟩
  have hrw := red_len w
  refine sIs (v := tw (red w)) (isCall2 (va := .ref 0) (vb := tw w) (is_of rfl) (is_of rfl) (F.lred gT (by omega))) ?_
  refine sIf (isOr (isNot (k := true) (isCall2 (va := tw (red w)) (vb := tw (red w)) (isCall1 (va := tw w) (is_of rfl) (is_cf (F.red gT (.inl rfl) (by omega)))) (is_of rfl) (is_cf (F.same_w (by omega))))) (isNot (k := true) (isCall2 (va := tw (red w)) (vb := tw (red w)) (isCall1 (va := .tl (iv w)) (is_of rfl) (is_cf (F.red gT (.inr rfl) (by omega)))) (is_of rfl) (is_cf (F.same_w (by omega)))))) ?_
  exact H w hw lw
end
end Eng.k03
namespace Eng.k03
open PySem L2 Eng
section
variable {cf : Nat → List Val → Hs → T (Val × Hs)} {fu : Nat} {a0 a1 a2 a3 a4 a5 a6 a7 a8 a9 a10 a11 a12 a13 a14 : Option Val}
def L5 : List S := b_law.drop 12
def L6 : List S := b_law.drop 14
def L7 : List S := b_law.drop 18
def L8 : List S := b_law.drop 19
def L9 : List S := b_law.drop 22
theorem stage2 (F : Fs cf) {w : List Int} (hw : w.length ≤ 10) (H : Run cf fu L3 [some .scr, some (.ref 0), some (tw w), some (tw (red w)), some (tw (inv w)), none, none, none, none, none, none, none, none, none, none] hT) :
    Run cf fu L2' [some .scr, some (.ref 0), some (tw w), some (tw (red w)), none, none, none, none, none, none, none, none, none, none, none] hT := by
  have hil := inv_len w
  refine sEq (v := tw (inv w)) (ev_rev (ws := w) rfl (by simp) (by omega)) ?_
  have j := F.joined gT (wss := [w, inv w]) (by simp [hil]; omega) (by simp)
  rw [joinW2, red_inv] at j
  refine sIf (isOr (isNot (k := true) (isCall2 (va := tw (inv w)) (vb := tw (inv w)) (isCall1 (va := tw w) (is_of rfl) (is_cf (F.inv (by omega)))) (is_of rfl) (is_cf (F.same_w (by omega))))) (isNot (k := true) (isCall2 (va := tw []) (vb := tw []) (isCallD (vs := [w, inv w].map tw) rfl j) (is_of rfl) (is_cf (F.same_w (by simp)))))) ?_
  exact H
theorem stage3 (F : Fs cf) {w : List Int} (hw : w.length ≤ 10) (H : ∀ o t : List Int, o.length ≤ 8 → (∀ x ∈ o, letter 4 x) → t.length ≤ 5 → Run cf fu L4 [some .scr, some (.ref 0), some (tw w), some (tw (red w)), some (tw (inv w)), some (tw o), some (tw t), none, none, none, none, none, none, none, none] hT) :
    Run cf fu L3 [some .scr, some (.ref 0), some (tw w), some (tw (red w)), some (tw (inv w)), none, none, none, none, none, none, none, none, none, none] hT := by
  refine sWord (P := fun v => ∃ w, v = tw w ∧ w.length ≤ 8 ∧ ∀ x ∈ w, letter 4 x) (vs := [.ref 0, .int 8, .int 4]) rfl (T.all_mono (fun r z => ?_) (F.word gT (by decide) (by decide) (by decide) (by decide))) ?_
  · obtain ⟨w, e, h1, h2⟩ := z
    rw [e]
    exact ⟨rfl, w, rfl, by omega, h2⟩
  rintro _ ⟨o, rfl, ho, lo⟩
  refine sWord (P := fun v => ∃ w, v = tw w ∧ w.length ≤ 5) (vs := [.ref 0, .int 5, .int 4]) rfl (T.all_mono (fun r z => ?_) (F.word gT (by decide) (by decide) (by decide) (by decide))) ?_
  · obtain ⟨w, e, h1, h2⟩ := z
    rw [e]
    exact ⟨rfl, w, rfl, by omega⟩
  rintro _ ⟨t, rfl, ht⟩
  have hl : (w ++ o ++ t).length ≤ 23 := by simp; omega
  have hr := red_len (w ++ o ++ t)
  have j := F.joined gT (wss := [w, o, t]) (by simp; omega) (by simp)
  rw [joinW3] at j
  refine sIf (isOr (isNot (k := true) (isCall2 (va := tw (red (w ++ o ++ t))) (vb := tw (red (w ++ o ++ t))) (isCallD (vs := [w, o, t].map tw) rfl j) (isCall2 (va := .ref 0) (vb := tw (w ++ o ++ t)) (is_of rfl) (is_of (catE (catE (u := w) (w := o) rfl rfl (by omega)) (w := t) rfl (by rw [List.length_append]; omega))) (F.lred gT (by omega))) (is_cf (F.same_w (by omega))))) (isCmp (va := tw []) (vb := tw []) (isCallD (vs := [].map tw) rfl (F.joined gT (wss := []) (by simp) (by simp))) (is_of rfl) ((ne_tup (a := []) (b := [])).trans rfl))) ?_
  exact H o t ho lo ht
theorem stage4 (F : Fs cf) {w o t : List Int} (ho : o.length ≤ 8) (lo : ∀ x ∈ o, letter 4 x) (H : ∀ (im : List (List Int)) (a0 a4 a6 a9 a10 a11 a12 a13 a14 : Option Val), im.length = 4 → (∀ w ∈ im, w.length ≤ 3) → Run cf fu L5 [a0, some (.ref 0), some (tw w), some (tw (red w)), a4, some (tw o), a6, some (.tl (im.map tw)), some (tw (o.flatMap (img im))), a9, a10, a11, a12, a13, a14] hT) :
    Run cf fu L4 [some .scr, some (.ref 0), some (tw w), some (tw (red w)), some (tw (inv w)), some (tw o), some (tw t), none, none, none, none, none, none, none, none] hT := by
  refine sAll (P := fun v => ∃ imgs : List (List Int), v = .tl (imgs.map tw) ∧ imgs.length = 4 ∧ ∀ w ∈ imgs, w.length ≤ 3) ?_ ?_
  · have sr : srcV .rng [.int 4] hT = some (rngL 0 4, none) := rfl
    have ea : evs cf [.c (.int 4)] [some .scr, some (.ref 0), some (tw w), some (tw (red w)), some (tw (inv w)), some (tw o), some (tw t), none, none, none, none, none, none, none, none] hT = .ok ([.int 4], hT) := rfl
    rw [q_lc, ea, T.bind_ok]
    simp only [sr]
    rw [if_pos (by decide), T.all_bind]
    refine T.all_mono (fun r z => ?_) (lc_all (h := hT) (R := fun v => ∃ w, v = tw w ∧ w.length ≤ 3) fun v hv => ⟨_, rfl, rfl, ?_⟩)
    · obtain ⟨z1, z2, z3⟩ := z
      obtain ⟨r1, r2⟩ := r
      simp only at z1 z2 z3
      subst z1
      have col : ∀ vs : List Val, (∀ v ∈ vs, ∃ w, v = tw w ∧ w.length ≤ 3) → ∃ imgs : List (List Int), vs = imgs.map tw ∧ imgs.length = vs.length ∧ ∀ w ∈ imgs, w.length ≤ 3 := by
        intro vs
        induction vs with
        | nil => exact fun _ => ⟨[], rfl, rfl, fun w m => by cases m⟩
        | cons v vs ih =>
          intro H
          obtain ⟨w, ew, lw⟩ := H v List.mem_cons_self
          obtain ⟨im, e, l, q⟩ := ih fun y m => H y (List.mem_cons_of_mem _ m)
          refine ⟨w :: im, by rw [ew, e]; rfl, by simp [l], fun y m => ?_⟩
          rcases List.mem_cons.mp m with e | m
          · rw [e]; exact lw
          · exact q y m
      obtain ⟨im, e, l, q⟩ := col r1 z3
      rw [q_mkF, T.all_ok]
      exact ⟨rfl, im, by rw [e], by rw [l, z2]; rfl, q⟩
    · have ec : ∀ s : Env, s[1]? = some (some (.ref 0)) → evs cf [.v 1, .c (.int 3), .c (.int 4)] s hT = .ok ([.ref 0, .int 3, .int 4], hT) := fun s e => by simp [e]
      rw [q_call, ec _ rfl, T.bind_ok]
      refine T.all_mono (fun r z => ?_) (F.word gT (most := 3) (many := 4) (by decide) (by decide) (by decide) (by decide))
      obtain ⟨w, e, h1, h2⟩ := z
      rw [e]
      exact ⟨rfl, w, rfl, by omega⟩
  rintro _ ⟨im, rfl, him, lim⟩
  refine sEq (v := tw []) rfl ?_
  have lo' : ∀ x ∈ o, x ≠ 0 ∧ x.natAbs ≤ im.length := fun x m => by
    obtain ⟨a, b⟩ := lo x m
    exact ⟨a, by omega⟩
  obtain ⟨s', f1, f2, f3, f4⟩ := part_loop (cf := cf) (fu := fu) (h := hT) lim o [] ([some .scr, some (.ref 0), some (tw w), some (tw (red w)), some (tw (inv w)), some (tw o), some (tw t), some (.tl (im.map tw)), some (tw []), none, none, none, none, none, none] : Env) rfl rfl rfl lo' (by simp; omega)
  have ef : ex cf fu (.for_ (.nm 9) .val [.v 5] partB) ([some .scr, some (.ref 0), some (tw w), some (tw (red w)), some (tw (inv w)), some (tw o), some (tw t), some (.tl (im.map tw)), some (tw []), none, none, none, none, none, none] : Env) hT = .ok (.nx, s', hT) := exForV rfl rfl f1
  refine sEx (s' := s') (h' := hT) ef ?_
  obtain ⟨a0, a1, a2, a3, a4, a5, a6, a7, a8, a9, a10, a11, a12, a13, a14, rfl⟩ := list15 s' f2
  have g1 := f4 1 (by decide) (by decide) (by decide)
  have g2 := f4 2 (by decide) (by decide) (by decide)
  have g3 := f4 3 (by decide) (by decide) (by decide)
  have g5 := f4 5 (by decide) (by decide) (by decide)
  have g7 := f4 7 (by decide) (by decide) (by decide)
  simp only [List.getElem?_cons_zero, List.getElem?_cons_succ, Option.some.injEq, List.nil_append] at g1 g2 g3 g5 g7 f3
  subst g1 g2 g3 g5 g7 f3
  exact H im a0 a4 a6 a9 a10 a11 a12 a13 a14 him lim
theorem stage5 (F : Fs cf) {w o : List Int} {im : List (List Int)} (hw : w.length ≤ 10) (ho : o.length ≤ 8) (lo : ∀ x ∈ o, letter 4 x) (him : im.length = 4) (lim : ∀ w ∈ im, w.length ≤ 3)
    (H : Run cf fu L6 [a0, some (.ref 0), some (tw w), some (tw (red w)), a4, some (tw o), a6, a7, a8, a9, a10, a11, a12, a13, a14] hT) (e7 : a7 = some (.tl (im.map tw))) (e8 : a8 = some (tw (o.flatMap (img im)))) :
    Run cf fu L5 [a0, some (.ref 0), some (tw w), some (tw (red w)), a4, some (tw o), a6, a7, a8, a9, a10, a11, a12, a13, a14] hT := by
  subst e7 e8
  have lo' : ∀ x ∈ o, x ≠ 0 ∧ x.natAbs ≤ im.length := fun x m => by
    obtain ⟨a, b⟩ := lo x m
    exact ⟨a, by omega⟩
  have gi : ∀ x, (img im x).length ≤ 3 := fun x => by
    have g : ∀ i, (im.getD i []).length ≤ 3 := fun i => by
      rw [List.getD_eq_getElem?_getD]
      cases q : im[i]? with
      | none => simp
      | some w => exact lim w (List.mem_of_getElem? q)
    unfold img
    split
    · exact g _
    · rw [inv_len]; exact g _
  have fl' : ∀ l : List Int, (l.flatMap (img im)).length ≤ 3 * l.length := by
    intro l
    induction l with
    | nil => simp
    | cons x l ih =>
      have := gi x
      rw [List.flatMap_cons, List.length_append, List.length_cons]
      omega
  have fl := fl' o
  have rl := red_len (o.flatMap (img im))
  have hrw := red_len w
  refine sIf (isNot (k := true) (isCall2 (va := tw (red (o.flatMap (img im)))) (vb := tw (red (o.flatMap (img im)))) (isCall2 (va := tw o) (vb := .tl (im.map tw)) (is_of rfl) (is_of rfl) (is_cf (F.subst gT (fun w m => by have := lim w m; omega) lo' (by omega)))) (isCall2 (va := .ref 0) (vb := tw (o.flatMap (img im))) (is_of rfl) (is_of rfl) (F.lred gT (by omega))) (is_cf (F.same_w (by omega))))) ?_
  obtain ⟨m, cm, ec⟩ := F.core gT (ws := w) (by omega)
  refine sIf (isNot (k := true) (isCall2 (va := .tup [tw ((red w).take m), tw (mid (red w) m)]) (vb := .tup [tw ((red w).take m), tw (mid (red w) m)]) (isCall1 (va := tw w) (is_of rfl) (is_cf ec)) (isCall1 (va := tw (red w)) (is_of rfl) (is_cf (F.lcore (by omega) (na_red w) cm))) (is_cf (F.same_p (by rw [List.length_take]; omega) (by unfold mid; rw [List.length_drop, List.length_take]; omega))))) ?_
  exact H
end
end Eng.k03
namespace Eng.k03
open PySem L2 Eng
section
variable {cf : Nat → List Val → Hs → T (Val × Hs)} {fu : Nat} {a0 a1 a2 a3 a4 a5 a6 a7 a8 a9 a10 a11 a12 a13 a14 : Option Val}
theorem stage6 (F : Fs cf) {w o : List Int} {d3 : Val} (ho : o.length ≤ 8)
    (H : ∀ (a9 a11 : Option Val), Run cf fu L7 [a0, some (.ref 0), some (tw w), some d3, a4, some (tw o), a6, a7, a8, a9, a10, a11, a12, a13, a14] hT) :
    Run cf fu L6 [a0, some (.ref 0), some (tw w), some d3, a4, some (tw o), a6, a7, a8, a9, a10, a11, a12, a13, a14] hT := by
  refine sAll (P := fun v => ∃ x : Int, v = .int x ∧ 1 ≤ x ∧ x ≤ 4) ?_ ?_
  · have ea : evs cf [.v 1, .c (.int 4)] [a0, some (.ref 0), some (tw w), some d3, a4, some (tw o), a6, a7, a8, a9, a10, a11, a12, a13, a14] hT = .ok ([.ref 0, .int 4], hT) := rfl
    rw [q_bin, q_c, T.bind_ok]
    dsimp only
    rw [T.all_bind, q_call, ea, T.bind_ok]
    exact F.pick gT (n := 4) (by decide) (by decide) fun i i0 i1 => ⟨rfl, 1 + i, rfl, by omega, by omega⟩
  rintro _ ⟨x, rfl, x1, x4⟩
  have hio := inv_len o
  have hol : (o ++ [x] ++ inv o).length ≤ 17 := by simp [hio]; omega
  obtain ⟨q, cq, eq⟩ := F.conj gT (ws := o ++ [x] ++ inv o) (by omega)
  obtain ⟨u, hu⟩ := conj_form x o
  have h1 := red_len (o ++ [x] ++ inv o)
  have hq := cq
  rw [hu] at hq h1
  have hq := core_conj hq
  subst hq
  rw [hu, mid_conj, take_conj] at eq
  have hul : (u ++ [x] ++ inv u).length ≤ 17 := by omega
  have hul2 : u.length ≤ 17 := by simp at hul; omega
  refine sIs (v := .tup [tw u, .int x]) (isCall1 (va := tw (o ++ [x] ++ inv o)) (is_of (catE (catE (u := o) (w := [x]) rfl rfl (by simp; omega)) (ev_rev (ws := o) rfl (by simp) (by omega)) (by simp [hio]; omega))) (is_cf eq)) ?_
  refine sIf (isOr (isCmp (va := .tup [tw u, .int x]) (vb := .non) (is_of rfl) (is_of rfl) rfl) (isNot (k := true) (isCall2 (va := .int x) (vb := .int x) (is_of rfl) (is_of rfl) (is_cf F.same_i)))) ?_
  have hn : copV .ne (tw (red (u ++ [x] ++ inv u))) (tw (red (o ++ [x] ++ inv o))) hT = some false := by
    rw [ne_tup, ← hu, red_red]
    simp
  have hiu := inv_len u
  refine sIf (isCmp (va := tw (red (u ++ [x] ++ inv u))) (vb := tw (red (o ++ [x] ++ inv o))) (isCall2 (va := .ref 0) (vb := tw (u ++ [x] ++ inv u)) (is_of rfl) (is_of (catE (catE (u := u) (w := [x]) rfl rfl (by simp; omega)) (ev_rev (ws := u) rfl (by simp) (by omega)) (by simp [hiu]; omega))) (F.lred gT (by omega)))
    (isCall2 (va := .ref 0) (vb := tw (o ++ [x] ++ inv o)) (is_of rfl) (is_of (catE (catE (u := o) (w := [x]) rfl rfl (by simp; omega)) (ev_rev (ws := o) rfl (by simp) (by omega)) (by simp [hio]; omega))) (F.lred gT (by omega))) hn) ?_
  exact H _ _
theorem stage7 (F : Fs cf) {w : List Int} (hw : w.length ≤ 10)
    (H : Run cf fu L8 [a0, some (.ref 0), some (tw w), some (tw (red w)), a4, a5, a6, a7, a8, a9, a10, a11, a12, a13, a14] hT) :
    Run cf fu L7 [a0, some (.ref 0), some (tw w), some (tw (red w)), a4, a5, a6, a7, a8, a9, a10, a11, a12, a13, a14] hT := by
  have hrw := red_len w
  obtain ⟨m, cm, ec⟩ := F.conj gT (ws := w) (by omega)
  have el := F.lcore (h := hT) (by omega) (na_red w) cm
  have lenE : Is cf (.bi .len false [.sub (.call 13 [.v 3]) (.c (.int 1))]) [a0, some (.ref 0), some (tw w), some (tw (red w)), a4, a5, a6, a7, a8, a9, a10, a11, a12, a13, a14] hT (.int (mid (red w) m).length) := by
    have ea : evs cf [.v 3] [a0, some (.ref 0), some (tw w), some (tw (red w)), a4, a5, a6, a7, a8, a9, a10, a11, a12, a13, a14] hT = .ok ([tw (red w)], hT) := rfl
    refine is_of ?_
    have s1 : subV (.tup [tw ((red w).take m), tw (mid (red w) m)]) (.int 1) hT = some (tw (mid (red w) m)) := rfl
    have lt : biV .len false [tw (mid (red w) m)] hT = .ok (.int (mid (red w) m).length, hT) := by simp [tw]
    simp only [q_bi, q_cons, q_sub, q_call, q_v, List.getElem?_cons_zero, List.getElem?_cons_succ, q_nil, T.bind_ok, el, q_c, s1, lt]
  by_cases q : (mid (red w) m).length = 1
  · obtain ⟨x, hx⟩ := List.length_eq_one_iff.mp q
    have ec' : cf 5 [tw w] hT = .ok (.tup [tw ((red w).take m), .int x], hT) := by rw [ec, hx]
    refine sIf (isCmp (va := .bl false) (vb := .bl false) (isCmp (va := .tup [tw ((red w).take m), .int x]) (vb := .non) (isCall1 (va := tw w) (is_of rfl) (is_cf ec')) (is_of rfl) rfl) (isCmp (vb := .int 1) lenE (is_of rfl) ?_) rfl) H
    rw [q]
    rfl
  · have ec' : cf 5 [tw w] hT = .ok (.non, hT) := by
      rw [ec]
      split
      · rename_i x hx
        rw [hx] at q
        exact absurd rfl q
      · rfl
    refine sIf (isCmp (va := .bl true) (vb := .bl true) (isCmp (va := .non) (vb := .non) (isCall1 (va := tw w) (is_of rfl) (is_cf ec')) (is_of rfl) rfl) (isCmp (vb := .int 1) lenE (is_of rfl) ?_) rfl) H
    have : ¬ ((mid (red w) m).length : Int) = 1 := by omega
    simp [this]
theorem stage8 (F : Fs cf) {w : List Int} (hw : w.length ≤ 10)
    (H : ∀ (a3 a12 : Option Val) (xs : List Val), Run cf fu L9 [a0, some (.ref 0), some (tw w), a3, a4, a5, a6, a7, a8, a9, a10, a11, a12, a13, a14] (hD xs)) :
    Run cf fu L8 [a0, some (.ref 0), some (tw w), a3, a4, a5, a6, a7, a8, a9, a10, a11, a12, a13, a14] hT := by
  have e1 : ex cf fu (.asg (.nm 3) (.lst true [])) [a0, some (.ref 0), some (tw w), a3, a4, a5, a6, a7, a8, a9, a10, a11, a12, a13, a14] hT = .ok (.nx, [a0, some (.ref 0), some (tw w), some (.ref 1), a4, a5, a6, a7, a8, a9, a10, a11, a12, a13, a14], hD []) := rfl
  refine sEx e1 ?_
  have step : ∀ (k : Int) (xs : List Val), xs.length ≤ 10 → exs cf fu [.ex (.me (.v 3) .append [cntE])] [a0, some (.ref 0), some (tw w), some (.ref 1), a4, a5, a6, a7, a8, a9, a10, a11, some (.int k), a13, a14] (hD xs) = .ok (.nx, [a0, some (.ref 0), some (tw w), some (.ref 1), a4, a5, a6, a7, a8, a9, a10, a11, some (.int k), a13, a14], hD (xs ++ [.int (cnt w k - cnt w (0 - k))])) := fun k xs hx =>
    cnt_step (by omega) rfl rfl rfl rfl hx
  have sr : srcV .rng [.int 1, .int 4] (hD []) = some ([.int 1, .int 2, .int 3], none) := rfl
  have ea : evs cf [.c (.int 1), .c (.int 4)] [a0, some (.ref 0), some (tw w), some (.ref 1), a4, a5, a6, a7, a8, a9, a10, a11, a12, a13, a14] (hD []) = .ok ([.int 1, .int 4], hD []) := rfl
  have lp : forL (tgS (.nm 12)) (exs cf fu [.ex (.me (.v 3) .append [cntE])]) [.int 1, .int 2, .int 3] [a0, some (.ref 0), some (tw w), some (.ref 1), a4, a5, a6, a7, a8, a9, a10, a11, a12, a13, a14] (hD []) = .ok (.nx, [a0, some (.ref 0), some (tw w), some (.ref 1), a4, a5, a6, a7, a8, a9, a10, a11, some (.int 3), a13, a14], hD (iv [cnt w 1 - cnt w (0 - 1), cnt w 2 - cnt w (0 - 2), cnt w 3 - cnt w (0 - 3)])) := by
    rw [q_forc]
    simp only [q_tgnm, List.set_cons_succ, List.set_cons_zero]
    rw [step 1 [] (by simp), T.bind_ok]
    dsimp only
    rw [q_forc]
    simp only [q_tgnm, List.set_cons_succ, List.set_cons_zero]
    rw [step 2 _ (by simp), T.bind_ok]
    dsimp only
    rw [q_forc]
    simp only [q_tgnm, List.set_cons_succ, List.set_cons_zero]
    rw [step 3 _ (by simp), T.bind_ok]
    rfl
  refine sEx (exForS ea sr lp) ?_
  refine sIf (isNot (k := true) (isCall2 (va := tw [cnt w 1 - cnt w (0 - 1), cnt w 2 - cnt w (0 - 2), cnt w 3 - cnt w (0 - 3)]) (vb := tw [cnt w 1 - cnt w (0 - 1), cnt w 2 - cnt w (0 - 2), cnt w 3 - cnt w (0 - 3)]) (isCall2 (va := tw w) (vb := .int 3) (is_of rfl) (is_of rfl) (is_cf (F.counts (by omega)))) (is_of rfl) (is_cf (F.same_w (by simp))))) ?_
  exact H _ _ _
theorem stage9 (F : Fs cf) {w : List Int} (hw : w.length ≤ 10) (lw : ∀ x ∈ w, letter 3 x) (xs : List Val) :
    Run cf fu L9 [a0, some (.ref 0), some (tw w), a3, a4, a5, a6, a7, a8, a9, a10, a11, a12, a13, a14] (hD xs) := by
  have good : (iv w).all okV = true := by
    rw [okV_iv, List.all_eq_true]
    intro x m
    obtain ⟨a, b⟩ := lw x m
    rw [Bool.and_eq_true, decide_eq_true_eq, decide_eq_true_eq]
    omega
  have bad : ∀ v : Val, flat v = true → okV v = false → cf 7 [.tup (iv w ++ [v]), .int 3] (hD xs) = .ok (.bl false, hD xs) := fun v fv ov => by
    have := F.free (h := hD xs) (xs := iv w ++ [v]) (fun y m => by
      rcases List.mem_append.mp m with m | m
      · exact flat_iv y m
      · rw [List.mem_singleton.mp m]; exact fv) (by simp; omega)
    rw [this]
    simp [ov]
  have cat : ∀ (v : Val) (e : E), ev cf e [a0, some (.ref 0), some (tw w), a3, a4, a5, a6, a7, a8, a9, a10, a11, a12, a13, a14] (hD xs) = .ok (.tup [v], hD xs) → ev cf (.bin .add false (.v 2) e) [a0, some (.ref 0), some (tw w), a3, a4, a5, a6, a7, a8, a9, a10, a11, a12, a13, a14] (hD xs) = .ok (.tup (iv w ++ [v]), hD xs) := fun v e h => by
    have ev2 : ev cf (.v 2) [a0, some (.ref 0), some (tw w), a3, a4, a5, a6, a7, a8, a9, a10, a11, a12, a13, a14] (hD xs) = .ok (tw w, hD xs) := rfl
    have sm : small ((iv w).length + [v].length) = true := sm_of (by simp; omega)
    rw [q_bin, ev2, T.bind_ok, h, T.bind_ok]
    dsimp only [tw]
    rw [q_catT, if_pos sm]
  refine sAll (P := fun v => cf 7 [v, .int 3] (hD xs) = .ok (.bl false, hD xs)) ?_ ?_
  · have el : ev cf (.lst false [.bin .add false (.v 2) (.tup [.c (.int 0)]), .bin .add false (.v 2) (.tup [.c (.int 4)]), .bi .list false [.v 2], .c .non, .bin .add false (.v 2) (.tup [.c (.bl true)]), .bin .add false (.v 2) (.tup [.c (.str ("1" : Str))]), .bin .add false (.v 2) (.tup [.neg (.c (.int 4))])]) [a0, some (.ref 0), some (tw w), a3, a4, a5, a6, a7, a8, a9, a10, a11, a12, a13, a14] (hD xs)
        = .ok (.tl [.tup (iv w ++ [.int 0]), .tup (iv w ++ [.int 4]), .tl (iv w), .non, .tup (iv w ++ [.bl true]), .tup (iv w ++ [.str ("1" : Str)]), .tup (iv w ++ [.int (-4)])], hD xs) := by
      have c1 := cat (.int 0) (.tup [.c (.int 0)]) rfl
      have c2 := cat (.int 4) (.tup [.c (.int 4)]) rfl
      have c3 := cat (.bl true) (.tup [.c (.bl true)]) rfl
      have c4 := cat (.str ("1" : Str)) (.tup [.c (.str ("1" : Str))]) rfl
      have c5 := cat (.int (-4)) (.tup [.neg (.c (.int 4))]) rfl
      have c6 : ev cf (.bi .list false [.v 2]) [a0, some (.ref 0), some (tw w), a3, a4, a5, a6, a7, a8, a9, a10, a11, a12, a13, a14] (hD xs) = .ok (.tl (iv w), hD xs) := rfl
      rw [q_lst, q_cons, c1, T.bind_ok, q_cons, c2, T.bind_ok, q_cons, c6, T.bind_ok, q_cons, q_c, T.bind_ok, q_cons, c3, T.bind_ok, q_cons, c4, T.bind_ok, q_cons, c5, T.bind_ok, q_nil]
      rfl
    have ea : evs cf [.v 1, .c (.int 7)] [a0, some (.ref 0), some (tw w), a3, a4, a5, a6, a7, a8, a9, a10, a11, a12, a13, a14] (hD xs) = .ok ([.ref 0, .int 7], hD xs) := rfl
    rw [q_sub, el, T.bind_ok]
    dsimp only
    rw [T.all_bind, q_call, ea, T.bind_ok]
    refine F.pick gD (n := 7) (by decide) (by decide) fun i i0 i1 => ?_
    have hi : i = 0 ∨ i = 1 ∨ i = 2 ∨ i = 3 ∨ i = 4 ∨ i = 5 ∨ i = 6 := by omega
    rcases hi with rfl | rfl | rfl | rfl | rfl | rfl | rfl
    · exact ⟨rfl, bad _ rfl rfl⟩
    · exact ⟨rfl, bad _ rfl rfl⟩
    · exact ⟨rfl, F.freeL⟩
    · exact ⟨rfl, F.freeN⟩
    · exact ⟨rfl, bad _ rfl rfl⟩
    · exact ⟨rfl, bad _ rfl rfl⟩
    · exact ⟨rfl, bad _ rfl rfl⟩
  intro v hv
  have fg := F.free (h := hD xs) (xs := iv w) flat_iv (by simp; omega)
  rw [good] at fg
  constructor
  rw [q_exsc, T.all_bind, q_ret, T.all_bind]
  refine T.all_mono (fun r z => ?_) (isAnd (k := true) (isCmp (va := .bl true) (vb := .bl true) (isCall2 (va := tw w) (vb := .int 3) (is_of rfl) (is_of rfl) (is_cf fg)) (is_of rfl) rfl) (isCmp (va := .bl false) (vb := .bl false) (isCall2 (va := v) (vb := .int 3) (is_of rfl) (is_of rfl) (is_cf hv)) (is_of rfl) rfl)).all
  rw [z]
  exact rfl
end
theorem law_run {cf : Nat → List Val → Hs → T (Val × Hs)} {fu : Nat} (F : Fs cf) : Run cf fu b_law [some .scr, none, none, none, none, none, none, none, none, none, none, none, none, none, none] h00 := by
  have e1 : ex cf fu (.asg (.nm 1) (.call 8 [.v 0])) [some .scr, none, none, none, none, none, none, none, none, none, none, none, none, none, none] h00 = .ok (.nx, [some .scr, some (.ref 0), none, none, none, none, none, none, none, none, none, none, none, none, none], hT) := by
    simp [F.start]
  refine sEx e1 (stage1 F fun w hw lw => stage2 F hw (stage3 F hw fun o t ho lo ht => stage4 F ho lo fun im a0 a4 a6 a9 a10 a11 a12 a13 a14 him lim => stage5 F hw ho lo him lim (stage6 F ho fun a9 a11 => stage7 F hw (stage8 F hw fun a3 a12 xs => stage9 F hw lw xs)) rfl rfl))
theorem lawTrue_of {cf : Nat → List Val → Hs → T (Val × Hs)} {fu nN : Nat} {body : List S} (e : Run cf fu body (some .scr :: List.replicate (nN - 1) none) h00) : LawTrue cf fu nN body := by
  constructor
  generalize hv : [Val.scr] = vs
  have e : Run cf fu body (vs.map some ++ List.replicate (nN - vs.length) none) ⟨h00.os, h00.n, h00.n, h00.lk⟩ := by
    subst hv
    exact e
  exact runF_law e
theorem plain : LawTrue (callN tab fue dep) fue N_law.length b_law := by
  have e := law_run (fu := fue) facts
  exact lawTrue_of e
end Eng.k03
open PySem PySem.W PyProof.Rows in
set_option maxRecDepth 100000 in
set_option maxHeartbeats 0 in
theorem PySem.Challenge.cw_knotpapers_k03_free_words_holds : PySem.Challenge.rw_knotpapers_k03_free_words.Holds := by
  w_on; o_law; k_head; (case hw => w_witness2)
  k_fill
  refine Eng.walk (l := PySem.Challenge.rw_knotpapers_k03_free_words) (k := Eng.k03.dep + 1) (cf := Eng.callN Eng.k03.tab Eng.k03.fue Eng.k03.dep) (fu := Eng.k03.fue) (nN := Eng.k03.N_law.length) (body := Eng.k03.b_law) rfl rfl Eng.k03.room (fun w h Y => PySem.W.kIn_of Y) Eng.k03.plain ?F
  case F =>
    intro w mg fa h KX G hmg
    refine' Eng.k03.all_mk KX G hmg ?a0 ?l0 ?c0 ?k0 ?a1 ?l1 ?c1 ?k1 ?a2 ?l2 ?c2 ?k2 ?a3 ?l3 ?c3 ?k3 ?a4 ?l4 ?c4 ?k4 ?a5 ?l5 ?c5 ?k5 ?a6 ?l6 ?c6 ?k6 ?a7 ?l7 ?c7 ?k7 ?a8 ?l8 ?c8 ?k8 ?a9 ?l9 ?c9 ?k9 ?a10 ?l10 ?c10 ?k10 ?a11 ?l11 ?c11 ?k11 ?a12 ?l12 ?c12 ?k12 ?a13 ?l13 ?c13 ?k13 ?a14 ?l14 ?c14 ?k14 ?z0 ?z1 ?z2 ?z3 ?z4 ?z5 ?z6 ?z7 ?z8 ?z9 ?z10
    (case a0 => k_is)
    (case l0 => k_is)
    (case c0 => k_is)
    (case k0 => k_is)
    (case a1 => k_is)
    (case l1 => k_is)
    (case c1 => k_is)
    (case k1 => k_is)
    (case a2 => k_is)
    (case l2 => k_is)
    (case c2 => k_is)
    (case k2 => k_is)
    (case a3 => k_is)
    (case l3 => k_is)
    (case c3 => k_is)
    (case k3 => k_is)
    (case a4 => k_is)
    (case l4 => k_is)
    (case c4 => k_is)
    (case k4 => k_is)
    (case a5 => k_is)
    (case l5 => k_is)
    (case c5 => k_is)
    (case k5 => k_is)
    (case a6 => k_is)
    (case l6 => k_is)
    (case c6 => k_is)
    (case k6 => k_is)
    (case a7 => k_is)
    (case l7 => k_is)
    (case c7 => k_is)
    (case k7 => k_is)
    (case a8 => k_is)
    (case l8 => k_is)
    (case c8 => k_is)
    (case k8 => k_is)
    (case a9 => k_is)
    (case l9 => k_is)
    (case c9 => k_is)
    (case k9 => k_is)
    (case a10 => k_is)
    (case l10 => k_is)
    (case c10 => k_is)
    (case k10 => k_is)
    (case a11 => k_is)
    (case l11 => k_is)
    (case c11 => k_is)
    (case k11 => k_is)
    (case a12 => k_is)
    (case l12 => k_is)
    (case c12 => k_is)
    (case k12 => k_is)
    (case a13 => k_is)
    (case l13 => k_is)
    (case c13 => k_is)
    (case k13 => k_is)
    (case a14 => k_is)
    (case l14 => k_is)
    (case c14 => k_is)
    (case k14 => k_is)
    (case z0 => k_is)
    (case z1 => k_is)
    (case z2 => k_is)
    (case z3 => k_is)
    (case z4 => k_is)
    (case z5 => k_is)
    (case z6 => k_is)
    (case z7 => k_is)
    (case z8 => k_is)
    (case z9 => k_is)
    (case z10 => k_is)
