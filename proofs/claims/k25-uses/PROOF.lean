import PyProof.Rows.All
import PySem.Syntax
import Wide.All
import OpenK.AllK
import Wide.FinOn
import HandS.ForMost
import HandS.Exc
import HandS.ExcOwn
import HandS.CallSlots
import HandS.IsInst
import HandS.FStr
import HandS.StrMore
import HandS.Property
import HandS.ClsMeth
import HandS.TupMul
import PyProof.StrOps2
import HandS.Deep
import HandS.RaiseMore
import KE.KCallOwn
import HandS.More
import HandS.ExcIs
import HandS.ExcField
import HandS.SlotsOwn
import HandS.HeadWalk
import HandS.WordsExc
import HandS.Defaults
import HandS.HeadHook1
import HandS.HeadHook2
import HandS.HeadHook3
import HandS.HeadEnd
import HandS.Head0
import HandS.Head1
import HandS.Head2
import PySem.Challenge.RW_castmiddles_k25_uses_that_fit
set_option Elab.async false
set_option linter.all false
/-! Mp: a small deterministic interpreter. Values D (tuples are values), objects in a heap that is a list. -/
namespace Mp
open PySem (Str Operator CmpOp)

inductive D where
  | non | bl (b : Bool) | int (i : Int) | str (x : Str) | tup (xs : List D) | kls (xs : List D) | ref (i : Nat) | gl (x : Str) | ty (n : String)
  deriving Inhabited

/-- an object: a list, a list that is only read, an instance of an own class, a dict with text keys -/
inductive O where
  | lst (xs : List D) | ins (c : Str) (fs : List (Str × D)) | dct (kvs : List (Str × D)) | raw
abbrev HD := List O
/-- an exception of an own class: its fields -/
structure Exn where
  cls : Str
  fs : List (Str × D)
inductive R (α : Type) where
  | ok (a : α) (h : HD) | ex (e : Exn) (h : HD) | bad
def R.bind {α β : Type} (m : R α) (f : α → HD → R β) : R β := match m with
  | .ok a h => f a h
  | .ex e h => .ex e h
  | .bad => .bad
abbrev Ev := List (Option D)
/-- how a statement ends -/
inductive RS where
  | nx (v : Ev) (h : HD) | rt (d : D) (h : HD) | bk (v : Ev) (h : HD) | ct (v : Ev) (h : HD) | ex (e : Exn) (v : Ev) (h : HD) | bad
/-- an expression's end, going on as a statement -/
def R.st {α : Type} (m : R α) (v : Ev) (f : α → HD → RS) : RS := match m with
  | .ok a h => f a h
  | .ex e h => .ex e v h
  | .bad => .bad
def RS.seq (m : RS) (f : Ev → HD → RS) : RS := match m with
  | .nx v h => f v h
  | r => r

/-! ### equality and order of values -/
mutual
def deq : D → D → Bool
  | .non, .non => true
  | .bl a, .bl b => a == b
  | .int a, .int b => decide (a = b)
  | .bl a, .int b => decide ((if a then 1 else 0) = b)
  | .int a, .bl b => decide (a = (if b then 1 else 0))
  | .str a, .str b => decide (a = b)
  | .tup a, .tup b => deqs a b
  | _, _ => false
def deqs : List D → List D → Bool
  | [], [] => true
  | a :: r, b :: s => deq a b && deqs r s
  | _, _ => false
end
/-! data alone: no object in it, its texts made of code points -/
def strOkB (x : Str) : Bool := x.cps.toList.all fun c => decide (c < 1114112)
mutual
def D.pure : D → Bool
  | .non => true
  | .bl _ => true
  | .int _ => true
  | .str x => strOkB x
  | .tup xs => purs xs
  | .kls _ => false
  | .ref _ => false
  | .gl _ => false
  | .ty _ => false
def purs : List D → Bool
  | [] => true
  | a :: r => a.pure && purs r
end
mutual
def D.dep : D → Nat
  | .tup xs => deps xs + 1
  | .kls _ => 0
  | .non => 0
  | .bl _ => 0
  | .int _ => 0
  | .str _ => 0
  | .ref _ => 0
  | .gl _ => 0
  | .ty _ => 0
def deps : List D → Nat
  | [] => 0
  | a :: r => max a.dep (deps r)
end
/-- None, a bool, an int, a text -/
def D.flat : D → Bool
  | .non => true
  | .bl _ => true
  | .int _ => true
  | .str _ => true
  | _ => false

/-- a text beside None, a bool, an int, a text -/
def D.sc : D → D → Bool
  | .str _, .str _ => true
  | .str _, .int _ => true
  | .str _, .bl _ => true
  | .str _, .non => true
  | .int _, .str _ => true
  | .bl _, .str _ => true
  | .non, .str _ => true
  | _, _ => false

/-! ### expressions and statements -/
/-- built-in functions and types that are called; built-in methods -/
inductive B where
  | len | int | bool | str | isi | abs | min | max
inductive BM where
  | append | pop | reverse | extend | rmpre | startsw
inductive P where
  | tup | lst | bin (o : Operator) | cmp (o : CmpOp) | neg | inv | not
  | ix | sl (lo hi : Bool) | b (f : B) | fmt | asI
mutual
inductive E where
  | var (i : Nat) | lit (d : D) | prim (p : P) (es : List E) | call (f : E) (es : List E)
  | meth (o : E) (m : Str) (k : Option BM) (es : List E) | attr (o : E) (f : Str)
  | and (a b : E) | or (a b : E) | ite (c a b : E) | chain (o1 o2 : CmpOp) (a b c : E)
  | lc (t : T) (own : List Nat) (it : It) (cs : List E) (e : E) | join (es : List E)
inductive It where
  | val (e : E) | rng1 (a : E) | rng2 (a b : E) | zip (a b : E) | enum (a : E) | rev (a : E)
inductive T where
  | one (i : Nat) | tup (is : List Nat)
end
/-! what an except suite may say: e is the exception in hand -/
inductive XE where
  | lit (d : D) | var (i : Nat) | is1 (c : Str) | isT (cs : List Str) | fld (f : Str) | or (a b : XE) | and (a b : XE) | not (a : XE) | tup (es : List XE)
inductive XS where
  | set (i : Nat) (x : XE) | ret (x : XE) | ite (c : XE) (a b : List XS)
inductive S where
  | set (i : Nat) (e : E) | unp (is : List Nat) (e : E) | expr (e : E) | ret (e : E) | retN
  | ite (c : E) (a b : List S) | whl (c : E) (b : List S) | for_ (t : T) (it : It) (b : List S)
  | setIx (o i v : E) | setAt (o : E) (f : Str) (v : E) | aug (i : Nat) (o : Operator) (e : E)
  | pass | brk | cnt | never
  | raise (c : Str) (es : List E)
  | tryX (b : List S) (c : Str) (i : Nat) (s : List XS)

/-- a def: its slots, its parameters, the defaults of the last ones -/
structure Fn where
  n : Nat
  ar : Nat
  dfl : List D
  body : List S

/-! ### what the interpreter is told of the text: methods (kind, def) by class and name; constants of classes; which class an exception is -/
inductive Mk where
  | fn (q : Str) | cm (q : Str) | prop (q : Str) | con (d : D) | fld
structure GI where
  own : Str → Bool
  fn : Str → Bool
  at_ : Str → Str → Option Mk
  init : Str → Option Str
  sub : Str → Str → Bool
  /-- a dict of the module, text keys -/
  dic : Str → Option (List (Str × D))
  /-- an own exception class: its fields -/
  exn : Str → Option (List Str)
  /-- is the one exception class under the other -/
  exs : Str → Str → Option Bool
abbrev Cal := Str → List D → HD → R D

def cap : Nat := 4000000
/-! ### truth -/
def truth : D → HD → Option Bool
  | .non, _ => some false
  | .bl b, _ => some b
  | .int i, _ => some (decide (i ≠ 0))
  | .str x, _ => if x.length ≤ cap then some (decide (x.length ≠ 0)) else none
  | .tup xs, _ => some (!xs.isEmpty)
  | .kls xs, _ => some (!xs.isEmpty)
  | .ref i, h => match h[i]? with
    | some (.lst xs) => some (!xs.isEmpty)
    | _ => none
  | _, _ => none

/-! ### places in lists -/
def ixN (n : Nat) (i : Int) : Option Nat := if 0 ≤ i then (if i < n then some i.toNat else none) else if -(n : Int) ≤ i then some (i + n).toNat else none
def atI {α : Type} (xs : List α) (i : Int) : Option α := (ixN xs.length i).bind fun j => xs[j]?
def clip (n : Nat) (dflt : Nat) : Option Int → Nat
  | none => dflt
  | some i => if i < 0 then (i + n).toNat else min i.toNat n
def cut {α : Type} (xs : List α) (lo hi : Option Int) : List α := (xs.drop (clip xs.length 0 lo)).take (clip xs.length xs.length hi - clip xs.length 0 lo)
def sOf (l : List Nat) : Str := ⟨l.toArray⟩
def putF (f : Str) (v : D) : List (Str × D) → List (Str × D)
  | [] => [(f, v)]
  | (g, w) :: r => if g = f then (f, v) :: r else (g, w) :: putF f v r
/-- a place's list -/
def lstOf (h : HD) (i : Nat) : Option (List D) := match h[i]? with
  | some (.lst xs) => some xs
  | _ => none
/-- a list's items -/
def lsD : D → HD → Option (List D)
  | .kls xs, _ => some xs
  | .ref i, h => lstOf h i
  | _, _ => none
def isPre : List Nat → List Nat → Bool
  | [], _ => true
  | _ :: _, [] => false
  | a :: r, b :: s => decide (a = b) && isPre r s
def big : Int := 2 ^ 62

/-! ### the strict operations -/
def binD : Operator → D → D → HD → R D
  | .Add, .int a, .int b, h => .ok (.int (a + b)) h
  | .Add, .str a, .str b, h => if a.length + b.length ≤ cap then .ok (.str (a ++ b)) h else .bad
  | .Add, .ref i, .ref j, h => match h[i]?, h[j]? with
    | some (.lst xs), some (.lst ys) => if xs.length + ys.length ≤ cap then .ok (.ref h.length) (h ++ [.lst (xs ++ ys)]) else .bad
    | _, _ => .bad
  | .Sub, .int a, .int b, h => .ok (.int (a - b)) h
  | .Mult, .int a, .int b, h => if (-(2 ^ 64) < a ∧ a < 2 ^ 64) ∨ (-(2 ^ 64) < b ∧ b < 2 ^ 64) then .ok (.int (a * b)) h else .bad
  | .Mult, .str a, .int b, h => if -big ≤ b ∧ b < big ∧ a.length * b.toNat ≤ cap then .ok (.str (sOf (List.replicate b.toNat a.cps.toList).flatten)) h else .bad
  | .FloorDiv, .int a, .int b, h => if b ≠ 0 ∧ b.natAbs < 1073741824 then .ok (.int (a.fdiv b)) h else .bad
  | .Mod, .int a, .int b, h => if b ≠ 0 then .ok (.int (a.fmod b)) h else .bad
  | .Pow, .int a, .int b, h => if 0 ≤ b ∧ b ≤ 1000000 ∧ a.natAbs < 2 ^ 64 then .ok (.int (a ^ b.toNat)) h else .bad
  | _, _, _, _ => .bad
def memD (x : D) : List D → Bool
  | [] => false
  | y :: r => deq y x || memD x r
def inD (x : D) : D → HD → Option Bool
  | .str z, _ => match x with
    | .str y => match y.cps.toList with
      | [c] => some (decide (c ∈ z.cps.toList))
      | _ => none
    | _ => none
  | .tup xs, _ => if x.flat && xs.all D.flat then some (memD x xs) else if x.pure && purs xs && decide (x.dep ≤ 60) then some (memD x xs) else none
  | y, h => match lsD y h with
    | some xs => if x.flat && xs.all D.flat then some (memD x xs) else if x.pure && purs xs && decide (x.dep ≤ 60) then some (memD x xs) else none
    | _ => none
def cmpD : CmpOp → D → D → HD → R D
  | .Eq, a, b, h => if a.sc b || (a.pure && b.pure && decide (min a.dep b.dep ≤ 64)) then .ok (.bl (deq a b)) h else .bad
  | .NotEq, a, b, h => if a.sc b || (a.pure && b.pure && decide (min a.dep b.dep ≤ 64)) then .ok (.bl (!deq a b)) h else .bad
  | .Lt, .int a, .int b, h => .ok (.bl (decide (a < b))) h
  | .LtE, .int a, .int b, h => .ok (.bl (decide (a ≤ b))) h
  | .Gt, .int a, .int b, h => .ok (.bl (decide (b < a))) h
  | .GtE, .int a, .int b, h => .ok (.bl (decide (b ≤ a))) h
  | .Is, a, .non, h => .ok (.bl (match a with | .non => true | _ => false)) h
  | .IsNot, a, .non, h => .ok (.bl (match a with | .non => false | _ => true)) h
  | .In, a, b, h => match inD a b h with
    | some c => .ok (.bl c) h
    | none => .bad
  | .NotIn, a, b, h => match inD a b h with
    | some c => .ok (.bl (!c)) h
    | none => .bad
  | _, _, _, _ => .bad
def ixD : D → D → HD → R D
  | .tup xs, .int i, h => match atI xs i with
    | some v => .ok v h
    | none => .bad
  | .str x, .int i, h => match atI x.cps.toList i with
    | some c => if x.length ≤ cap then .ok (.str ⟨#[c]⟩) h else .bad
    | none => .bad
  | x, .int i, h => match lsD x h with
    | some xs => match atI xs i with
      | some v => .ok v h
      | none => .bad
    | none => .bad
  | _, _, _ => .bad
def slD : D → Option Int → Option Int → HD → R D
  | .str x, lo, hi, h => if x.length ≤ cap then .ok (.str (sOf (cut x.cps.toList lo hi))) h else .bad
  | x, lo, hi, h => match lsD x h with
    | some xs => .ok (.ref h.length) (h ++ [.lst (cut xs lo hi)])
    | none => .bad
/-- is the built-in type a one of n's -/
def kB (a n : String) : Option Bool := if ["NoneType", "bool", "int", "str", "tuple", "list"].contains n then some (a == n || (a == "bool" && n == "int")) else none
/-- is x of the built-in type n -/
def isTy (gi : GI) (n : String) : D → HD → Option Bool
  | .non, _ => kB "NoneType" n
  | .bl _, _ => kB "bool" n
  | .int _, _ => kB "int" n
  | .str _, _ => kB "str" n
  | .tup _, _ => kB "tuple" n
  | .kls _, _ => kB "list" n
  | .ref i, h => match h[i]? with
    | some (.lst _) => kB "list" n
    | some (.ins c _) => if gi.own c && ["NoneType", "bool", "int", "str", "tuple", "list"].contains n then some false else none
    | _ => none
  | _, _ => none
def isGl (gi : GI) (c : Str) (x : D) (h : HD) : Option Bool := if gi.own c then match x with
  | .non => some false
  | .bl _ => some false
  | .int _ => some false
  | .str _ => some false
  | .tup _ => some false
  | .kls _ => some false
  | .ref i => match h[i]? with
    | some (.lst _) => some false
    | some (.ins d _) => if gi.own d then some (gi.sub d c) else none
    | _ => none
  | _ => none
  else none
/-- the class of an instance -/
def clsOf (x : D) (h : HD) : Option (Str × List (Str × D)) := match x with
  | .ref i => match h[i]? with
    | some (.ins c fs) => some (c, fs)
    | _ => none
  | _ => none
/-- a special method of an instance -/
def spec (gi : GI) (m : Str) (x : D) (h : HD) : Option Str := match clsOf x h with
  | some (c, _) => if gi.own c then match gi.at_ c m with
    | some (.fn q) => some q
    | _ => none
    else none
  | none => none
/-- no exception leaves -/
def R.noex {α : Type} : R α → R α
  | .ex _ _ => .bad
  | r => r
/-- what may stand right of an own == -/
def cmpOk (gi : GI) (x y : D) (h : HD) : Bool := match clsOf x h with
  | some (c, _) => match y with
    | .non => true
    | .bl _ => true
    | .int _ => true
    | .str _ => true
    | .tup _ => true
    | .kls _ => true
    | .ref j => match h[j]? with
      | some (.lst _) => true
      | some (.ins d _) => gi.own d && (decide (d = c) || !gi.sub d c)
      | _ => false
    | _ => false
  | none => false
def dunB : Operator → Option Str
  | .Add => some "__add__" | .Mult => some "__mul__" | .RShift => some "__rshift__" | .BitAnd => some "__and__" | .BitOr => some "__or__" | .Pow => some "__pow__"
  | _ => none
def dunC : CmpOp → Option Str
  | .Lt => some "__lt__" | .LtE => some "__le__"
  | _ => none
/-- two instances of one class -/
def sameCls (a b : D) (h : HD) : Bool := match clsOf a h, clsOf b h with
  | some (c, _), some (d, _) => decide (d = c)
  | _, _ => false
def blR (f : Bool → Bool) (m : R D) : R D := m.bind fun r h => match r with
  | .bl c => .ok (.bl (f c)) h
  | _ => .bad
/-- a look into a dict of the module -/
def dicIn (gi : GI) (a : D) (c : Str) : Option Bool := match a, gi.dic c with
  | .str x, some kvs => some (kvs.lookup x).isSome
  | _, _ => none
def dicAt (gi : GI) (a : D) (c : Str) : Option D := match a, gi.dic c with
  | .str x, some kvs => kvs.lookup x
  | _, _ => none
def bltD (gi : GI) (C : Cal) : B → List D → HD → R D
  | .len, [.str z], h => if z.length ≤ cap then .ok (.int z.length) h else .bad
  | .len, [.tup xs], h => .ok (.int xs.length) h
  | .len, [x], h => match lsD x h with
    | some xs => .ok (.int xs.length) h
    | none => match spec gi "__len__" x h with
      | some q => (C q [x] h).noex.bind fun r h => match r with
        | .int n => if 0 ≤ n ∧ n < big then .ok (.int n) h else .bad
        | _ => .bad
      | none => .bad
  | .int, [.int i], h => .ok (.int i) h
  | .int, [.bl b], h => .ok (.int (if b then 1 else 0)) h
  | .bool, [.int i], h => .ok (.bl (decide (i ≠ 0))) h
  | .bool, [.bl b], h => .ok (.bl b) h
  | .str, [x], h => match spec gi "__str__" x h with
    | some q => (C q [x] h).noex.bind fun r h => match r with
      | .str z => .ok (.str z) h
      | _ => .bad
    | none => match x with
      | .str z => .ok (.str z) h
      | .int i => if i.natAbs.log2 < 1920 then .ok (.str (toString i : String)) h else .bad
      | _ => .bad
  | .isi, [x, .ty n], h => match isTy gi n x h with
    | some b => .ok (.bl b) h
    | none => .bad
  | .isi, [x, .gl c], h => match isGl gi c x h with
    | some b => .ok (.bl b) h
    | none => .bad
  | .abs, [.int i], h => .ok (.int (if i < 0 then -i else i)) h
  | .abs, [x], h => match spec gi "__abs__" x h with
    | some q => (C q [x] h).noex
    | none => .bad
  | .min, [.int i, .int j], h => .ok (.int (if j < i then j else i)) h
  | .max, [.int i, .int j], h => .ok (.int (if j > i then j else i)) h
  | _, _, _ => .bad
def fmtD : D → HD → R D
  | .str z, h => if z.length ≤ cap then .ok (.str z) h else .bad
  | .int i, h => if i.natAbs.log2 < 1920 then .ok (.str (toString i : String)) h else .bad
  | _, _ => .bad
def prD (gi : GI) (C : Cal) : P → List D → HD → R D
  | .tup, ds, h => if ds.length ≤ cap then .ok (.tup ds) h else .bad
  | .lst, ds, h => if ds.length ≤ cap then .ok (.ref h.length) (h ++ [.lst ds]) else .bad
  | .bin o, [a, b], h => match (dunB o).bind fun m => spec gi m a h with
    | some q => if sameCls a b h then C q [a, b] h else .bad
    | none => binD o a b h
  | .cmp .Eq, [a, b], h => match spec gi "__eq__" a h with
    | some q => if cmpOk gi a b h then (C q [a, b] h).bind fun r h => match r with
      | .bl c => .ok (.bl c) h
      | _ => .bad
      else .bad
    | none => cmpD .Eq a b h
  | .cmp .In, [a, b], h => match spec gi "__contains__" b h with
    | some q => blR id (C q [b, a] h)
    | none => match b with
      | .gl c => (match dicIn gi a c with | some k => .ok (.bl k) h | none => .bad)
      | _ => cmpD .In a b h
  | .cmp .NotIn, [a, b], h => match spec gi "__contains__" b h with
    | some q => blR not (C q [b, a] h)
    | none => match b with
      | .gl c => (match dicIn gi a c with | some k => .ok (.bl (!k)) h | none => .bad)
      | _ => cmpD .NotIn a b h
  | .cmp o, [a, b], h => match (dunC o).bind fun m => spec gi m a h with
    | some q => if cmpOk gi a b h then blR id (C q [a, b] h) else .bad
    | none => cmpD o a b h
  | .neg, [.int i], h => .ok (.int (-i)) h
  | .neg, [x], h => match spec gi "__neg__" x h with
    | some q => C q [x] h
    | none => .bad
  | .inv, [x], h => match spec gi "__invert__" x h with
    | some q => C q [x] h
    | none => .bad
  | .not, [x], h => match truth x h with
    | some b => .ok (.bl (!b)) h
    | none => .bad
  | .ix, [a, i], h => match spec gi "__getitem__" a h with
    | some q => C q [a, i] h
    | none => match a with
      | .gl c => (match dicAt gi i c with | some d => .ok d h | none => .bad)
      | _ => ixD a i h
  | .sl false false, [x], h => slD x none none h
  | .sl true false, [x, .int i], h => slD x (some i) none h
  | .sl false true, [x, .int j], h => slD x none (some j) h
  | .sl true true, [x, .int i, .int j], h => slD x (some i) (some j) h
  | .b f, ds, h => bltD gi C f ds h
  | .fmt, [x], h => fmtD x h
  | .asI, [.int i], h => .ok (.int i) h
  | _, _, _ => .bad
/-- a built-in method -/
def bmD : BM → D → List D → HD → R D
  | .append, .ref i, [y], h => match h[i]? with
    | some (.lst xs) => if xs.length < cap then .ok .non (h.set i (.lst (xs ++ [y]))) else .bad
    | _ => .bad
  | .pop, .ref i, [], h => match h[i]? with
    | some (.lst xs) => match xs.getLast? with
      | some y => .ok y (h.set i (.lst xs.dropLast))
      | none => .bad
    | _ => .bad
  | .reverse, .ref i, [], h => match h[i]? with
    | some (.lst xs) => .ok .non (h.set i (.lst xs.reverse))
    | _ => .bad
  | .extend, .ref i, [.ref j], h => match h[i]?, h[j]? with
    | some (.lst xs), some (.lst ys) => if xs.length + ys.length ≤ cap then .ok .non (h.set i (.lst (xs ++ ys))) else .bad
    | _, _ => .bad
  | .rmpre, .str a, [.str b], h => if a.length ≤ cap then .ok (.str (if isPre b.cps.toList a.cps.toList then sOf (a.cps.toList.drop b.length) else a)) h else .bad
  | .startsw, .str a, [.str b], h => .ok (.bl (isPre b.cps.toList a.cps.toList)) h
  | _, _, _, _ => .bad
/-- is that a thing that the method is of -/
def bmTy : BM → D → HD → Bool
  | .rmpre, .str _, _ => true
  | .startsw, .str _, _ => true
  | b, .ref i, h => match h[i]? with
    | some (.lst _) => (match b with | .rmpre => false | .startsw => false | _ => true)
    | _ => false
  | _, _, _ => false

/-! ### the interpreter -/
def setMany : Ev → List Nat → List D → Option Ev
  | v, [], [] => some v
  | v, i :: is, d :: ds => setMany (v.set i (some d)) is ds
  | _, _, _ => none
def wipe (v : Ev) : List Nat → Ev
  | [] => v
  | i :: is => (wipe v is).set i none
/-- what is walked: the items; the lists that must stand as they are -/
structure Wk where
  items : List D
  gd : List (Nat × List D)
def Wk.still (w : Wk) (h : HD) : Prop := ∀ p ∈ w.gd, lstOf h p.1 = some p.2
def zipD : List D → List D → List D
  | a :: r, b :: s => .tup [a, b] :: zipD r s
  | _, _ => []
def enumD : Nat → List D → List D
  | _, [] => []
  | i, a :: r => .tup [.int i, a] :: enumD (i + 1) r
def chars (l : List Nat) : List D := l.map fun c => .str ⟨#[c]⟩
def wkVal : D → HD → Option Wk
  | .tup xs, _ => some ⟨xs, []⟩
  | .str z, _ => some ⟨chars z.cps.toList, []⟩
  | .kls xs, _ => some ⟨xs, []⟩
  | .ref i, h => (lstOf h i).map fun xs => ⟨xs, [(i, xs)]⟩
  | _, _ => none
def rngD (lo : Int) (n : Nat) : List D := (List.range n).map fun (i : Nat) => .int (lo + i)
def tgt (v : Ev) : T → D → Option Ev
  | .one i, d => some (v.set i (some d))
  | .tup is, .tup ds => setMany v is ds
  | .tup _, _ => none
open Classical in
noncomputable def loopF (w : Wk) (f : D → Ev → HD → RS) : List D → Ev → HD → RS
  | [], v, h => if w.still h then .nx v h else .bad
  | d :: r, v, h => if w.still h then (match f d v h with
    | .nx v h => loopF w f r v h
    | .ct v h => loopF w f r v h
    | .bk v h => .nx v h
    | x => x) else .bad
open Classical in
noncomputable def loopC (w : Wk) (f : D → HD → R (Option D)) : List D → List D → HD → R (List D)
  | [], acc, h => if w.still h then .ok acc h else .bad
  | d :: r, acc, h => if w.still h then (f d h).bind fun o h => match o with
    | some y => if acc.length < cap then loopC w f r (acc ++ [y]) h else .bad
    | none => loopC w f r acc h
    else .bad
def loopW (c : Ev → HD → R Bool) (f : Ev → HD → RS) : Nat → Ev → HD → RS
  | 0, _, _ => .bad
  | n + 1, v, h => (c v h).st v fun b h => if b then (match f v h with
    | .nx v h => loopW c f n v h
    | .ct v h => loopW c f n v h
    | .bk v h => .nx v h
    | x => x) else .nx v h
def tests (t : D → HD → R Bool) : List D → HD → R Bool
  | [], h => .ok true h
  | d :: r, h => (t d h).bind fun b h => if b then tests t r h else .ok false h
def asB (m : R D) : R Bool := m.bind fun x h => match truth x h with
  | some b => .ok b h
  | none => .bad
/-- a class's new instance -/
def mkD (gi : GI) (C : Cal) (c : Str) (ds : List D) (h : HD) : R D := match gi.init c with
  | some q => (C q (.ref h.length :: ds) (h ++ [.ins c []])).bind fun r h' => match r with
    | .non => .ok (.ref h.length) h'
    | _ => .bad
  | none => .bad
/-- may a value be called: a def, a class of the text -/
def canCall (gi : GI) : D → Bool
  | .gl c => if gi.own c then (gi.init c).isSome else gi.fn c
  | _ => false
/-- the call of a value: a def, a class of the text -/
def callD (gi : GI) (C : Cal) (x : D) (ds : List D) (h : HD) : R D := match x with
  | .gl c => if gi.own c then mkD gi C c ds h else if gi.fn c then C c ds h else .bad
  | _ => .bad
def ofOpt {α : Type} : Option α → HD → R α
  | some a, h => .ok a h
  | none, _ => .bad
mutual
noncomputable def evE (gi : GI) (C : Cal) : E → Ev → HD → R D
  | .var i, v, h => match v[i]? with
    | some (some d) => .ok d h
    | _ => .bad
  | .lit d, _, h => .ok d h
  | .prim p es, v, h => (evEs gi C es v h).bind fun ds h => prD gi C p ds h
  | .call f es, v, h => (evE gi C f v h).bind fun x h => if canCall gi x then (evEs gi C es v h).bind fun ds h => callD gi C x ds h else .bad
  | .meth o m k es, v, h => (evE gi C o v h).bind fun x h => match x with
    | .gl c => match (if gi.own c then gi.at_ c m else none) with
      | some (.cm q) => (evEs gi C es v h).bind fun ds h => C q (x :: ds) h
      | _ => .bad
    | _ => match clsOf x h with
      | some (c, fs) => if gi.own c then match fs.lookup m, gi.at_ c m with
        | none, some (.fn q) => (evEs gi C es v h).bind fun ds h => C q (x :: ds) h
        | _, _ => .bad
        else .bad
      | none => match k with
        | some b => if bmTy b x h then (evEs gi C es v h).bind fun ds h => bmD b x ds h else .bad
        | none => .bad
  | .attr o f, v, h => (evE gi C o v h).bind fun x h => match clsOf x h with
    | some (c, fs) => if gi.own c then match gi.at_ c f with
      | some (.prop q) => (C q [x] h).noex
      | some (.con d) => match fs.lookup f with
        | none => .ok d h
        | some _ => .bad
      | some .fld => match fs.lookup f with
        | some d => .ok d h
        | none => .bad
      | _ => .bad
      else .bad
    | none => .bad
  | .and a b, v, h => (evE gi C a v h).bind fun x h => match truth x h with
    | some true => evE gi C b v h
    | some false => .ok x h
    | none => .bad
  | .or a b, v, h => (evE gi C a v h).bind fun x h => match truth x h with
    | some true => .ok x h
    | some false => evE gi C b v h
    | none => .bad
  | .ite c a b, v, h => (evE gi C c v h).bind fun x h => match truth x h with
    | some true => evE gi C a v h
    | some false => evE gi C b v h
    | none => .bad
  | .chain o1 o2 a b c, v, h => (evE gi C a v h).bind fun x h => (evE gi C b v h).bind fun y h => (prD gi C (.cmp o1) [x, y] h).bind fun r h => match r with
    | .bl true => (evE gi C c v h).bind fun z h => prD gi C (.cmp o2) [y, z] h
    | .bl false => .ok (.bl false) h
    | _ => .bad
  | .lc t own it cs e, v, h => (evIt gi C it v h).bind fun w h => (loopC w (fun d h =>
      match tgt (wipe v own) t d with
      | some v' => ((evTs gi C cs v' h).bind fun b h => if b then (evE gi C e v' h).bind fun y h => .ok (some y) h else .ok none h).noex
      | none => .bad) w.items [] h).bind fun xs h => .ok (.ref h.length) (h ++ [.lst xs])
  | .join es, v, h => evJ gi C es ⟨#[]⟩ v h
noncomputable def evJ (gi : GI) (C : Cal) : List E → Str → Ev → HD → R D
  | [], acc, _, h => .ok (.str acc) h
  | e :: r, acc, v, h => (evE gi C e v h).bind fun x h => match x with
    | .str y => if (acc ++ y).length ≤ cap then evJ gi C r (acc ++ y) v h else .bad
    | _ => .bad
noncomputable def evEs (gi : GI) (C : Cal) : List E → Ev → HD → R (List D)
  | [], _, h => .ok [] h
  | e :: r, v, h => (evE gi C e v h).bind fun d h => (evEs gi C r v h).bind fun ds h => .ok (d :: ds) h
noncomputable def evTs (gi : GI) (C : Cal) : List E → Ev → HD → R Bool
  | [], _, h => .ok true h
  | e :: r, v, h => (evE gi C e v h).bind fun x h => match truth x h with
    | some true => evTs gi C r v h
    | some false => .ok false h
    | none => .bad
noncomputable def evIt (gi : GI) (C : Cal) : It → Ev → HD → R Wk
  | .val e, v, h => (evE gi C e v h).bind fun x h => ofOpt (wkVal x h) h
  | .rng1 a, v, h => (evE gi C a v h).bind fun x h => match x with
    | .int j => if -big ≤ j ∧ j < big then .ok ⟨rngD 0 j.toNat, []⟩ h else .bad
    | _ => .bad
  | .rng2 a b, v, h => (evE gi C a v h).bind fun x h => (evE gi C b v h).bind fun y h => match x, y with
    | .int i, .int j => if -big ≤ i ∧ i < big ∧ -big ≤ j ∧ j < big then .ok ⟨rngD i (j - i).toNat, []⟩ h else .bad
    | _, _ => .bad
  | .zip _ _, _, _ => .bad
  | .enum _, _, _ => .bad
  | .rev _, _, _ => .bad
end
/-! ### an except suite -/
def isAny (f : Str → Option Bool) : List Str → Option Bool
  | [] => some false
  | c :: r => match f c with
    | some true => some true
    | some false => isAny f r
    | none => none
def blX (f : Bool → Option D) : Option D → Option D
  | some (.bl b) => f b
  | _ => none
mutual
def xeE (gi : GI) (e : Exn) (v : Ev) : XE → Option D
  | .lit d => some d
  | .var i => match v[i]? with
    | some (some d) => some d
    | _ => none
  | .is1 c => if e.fs.isEmpty then (gi.exs e.cls c).map .bl else none
  | .isT cs => if e.fs.isEmpty && (!cs.isEmpty && decide (cs.length ≤ cap)) then (isAny (gi.exs e.cls) cs).map .bl else none
  | .fld f => e.fs.lookup f
  | .or a b => blX (fun k => if k then some (.bl true) else xeE gi e v b) (xeE gi e v a)
  | .and a b => blX (fun k => if k then xeE gi e v b else some (.bl false)) (xeE gi e v a)
  | .not a => blX (fun k => some (.bl (!k))) (xeE gi e v a)
  | .tup es => if es.length ≤ cap then (xesE gi e v es).map .tup else none
def xesE (gi : GI) (e : Exn) (v : Ev) : List XE → Option (List D)
  | [] => some []
  | a :: r => (xeE gi e v a).bind fun d => (xesE gi e v r).map fun ds => d :: ds
end
/-- none: it does not go through; inl: it goes on; inr: it returned -/
abbrev XR := Option (Ev ⊕ D)
mutual
def exX (gi : GI) (e : Exn) : XS → Ev → XR
  | .set i x, v => (xeE gi e v x).map fun d => .inl (v.set i (some d))
  | .ret x, v => (xeE gi e v x).map .inr
  | .ite c a b, v => match xeE gi e v c with
    | some (.bl true) => exXs gi e a v
    | some (.bl false) => exXs gi e b v
    | _ => none
def exXs (gi : GI) (e : Exn) : List XS → Ev → XR
  | [], v => some (.inl v)
  | s :: r, v => match exX gi e s v with
    | some (.inl v') => exXs gi e r v'
    | x => x
end
/-- behind a try's body -/
def caught (gi : GI) (c : Str) (i : Nat) (s : List XS) : RS → RS
  | .ex e v h => match gi.exs e.cls c with
    | some true => if i < v.length then (match exXs gi e s (v.set i none) with
      | some (.inr d) => .rt d h
      | _ => .bad) else .bad
    | some false => .ex e v h
    | none => .bad
  | r => r
def augR (o : Operator) (i : Nat) (a b : Int) (v : Ev) (h : HD) : RS := match o with
  | .Add => .nx (v.set i (some (.int (a + b)))) h
  | .Sub => .nx (v.set i (some (.int (a - b)))) h
  | _ => .bad
def bigW : Nat := 10 ^ 12
mutual
noncomputable def exS (gi : GI) (C : Cal) : S → Ev → HD → RS
  | .set i e, v, h => (evE gi C e v h).st v fun d h => .nx (v.set i (some d)) h
  | .unp is e, v, h => (evE gi C e v h).st v fun d h => match d with
    | .tup ds => match setMany v is ds with
      | some v' => .nx v' h
      | none => .bad
    | _ => .bad
  | .expr e, v, h => (evE gi C e v h).st v fun _ h => .nx v h
  | .ret e, v, h => (evE gi C e v h).st v fun d h => .rt d h
  | .retN, _, h => .rt .non h
  | .ite c a b, v, h => (evE gi C c v h).st v fun x h => match truth x h with
    | some true => exB gi C a v h
    | some false => exB gi C b v h
    | none => .bad
  | .whl c b, v, h => loopW (fun v h => asB (evE gi C c v h)) (fun v h => exB gi C b v h) bigW v h
  | .for_ t it b, v, h => (evIt gi C it v h).st v fun w h => loopF w (fun d v h => match tgt v t d with
    | some v' => exB gi C b v' h
    | none => .bad) w.items v h
  | .setIx _ _ _, _, _ => .bad
  | .setAt o f e, v, h => (evE gi C e v h).st v fun d h => (evE gi C o v h).st v fun x h => match x with
    | .ref i => match h[i]? with
      | some (.ins c fs) => match (if gi.own c then gi.at_ c f else none) with
        | some .fld => if fs.length < 1000 then .nx v (h.set i (.ins c (putF f d fs))) else .bad
        | _ => .bad
      | _ => .bad
    | _ => .bad
  | .aug i o e, v, h => match v[i]? with
    | some (some x) => (evE gi C e v h).st v fun d h => match x, d with
      | .int a, .int b => augR o i a b v h
      | _, _ => .bad
    | _ => .bad
  | .pass, v, h => .nx v h
  | .brk, v, h => .bk v h
  | .cnt, v, h => .ct v h
  | .never, _, _ => .bad
  | .raise c es, v, h => match gi.exn c, es with
    | some [], [] => .ex ⟨c, []⟩ v h
    | _, _ => .bad
  | .tryX b c i s, v, h => caught gi c i s (exB gi C b v h)
noncomputable def exB (gi : GI) (C : Cal) : List S → Ev → HD → RS
  | [], v, h => .nx v h
  | s :: r, v, h => (exS gi C s v h).seq fun v h => exB gi C r v h
end

/-! ### a def's call; what it leaves behind is dropped where nothing holds it -/
mutual
def D.cl (n : Nat) : D → Bool
  | .tup xs => cls n xs
  | .kls xs => cls n xs
  | .ref i => decide (i < n)
  | .non => true
  | .bl _ => true
  | .int _ => true
  | .str _ => true
  | .gl _ => true
  | .ty _ => true
def cls (n : Nat) : List D → Bool
  | [] => true
  | a :: r => a.cl n && cls n r
end
def O.cl (n : Nat) : O → Bool
  | .lst xs => cls n xs
  | .ins _ fs => fs.all fun p => p.2.cl n
  | .dct kvs => kvs.all fun p => p.2.cl n
  | .raw => true
/-- what stands behind may be cut to what stood ahead -/
def GcOk (d : D) (h h' : HD) : Prop := d.cl h.length = true ∧ h.length ≤ h'.length ∧ ∀ j, j < h.length → h'[j]? = h[j]? ∨ ∃ o, h'[j]? = some o ∧ o.cl h.length = true
open Classical in
noncomputable def gc (d : D) (h h' : HD) : HD := if GcOk d h h' then h'.take h.length else h'
noncomputable def exF (gi : GI) (C : Cal) (F : Fn) (ds : List D) (h : HD) : R D :=
  if ds.length ≤ F.ar ∧ F.ar ≤ ds.length + F.dfl.length then
    match exB gi C F.body ((ds ++ F.dfl.drop (F.dfl.length - (F.ar - ds.length))).map some ++ List.replicate (F.n - F.ar) none) h with
    | .nx _ h' => .ok .non (gc .non h h')
    | .rt d h' => .ok d (gc d h h')
    | .ex e _ h' => .ex e h'
    | _ => .bad
  else .bad
structure Prog where
  gi : GI
  fn : Str → Option Fn
noncomputable def run (P : Prog) : Nat → Cal
  | 0 => fun _ _ _ => .bad
  | k + 1 => fun f ds h => match P.fn f with
    | some F => exF P.gi (run P k) F ds h
    | none => .bad
end Mp

set_option Elab.async false
set_option linter.all false
/-! Mp: the program's text turned into the interpreter's expressions. -/
namespace Mp
open PySem (Str Operator CmpOp NameKind Scope)

/-- what a name of the module or of the built-ins is -/
inductive Gk where
  | fn | cls | dct | exc | exb (n : String) | cst (d : D) | bty (n : String) (b : Option B) | bfn (b : B) | rng | none
structure Gm where
  N : List Str
  names : List (Str × NameKind)
  glob : Str → Gk
  /-- names that may be stored to -/
  sto : Str → Bool
def B.nm : B → String
  | .len => "len" | .int => "int" | .bool => "bool" | .str => "str" | .isi => "isinstance" | .abs => "abs" | .min => "min" | .max => "max"
def bOf : Gk → Option B
  | .bfn b => some b
  | .bty _ (some b) => some b
  | _ => none
def slot (Γ : Gm) (x : Str) : Option Nat := match Γ.names.lookup x with
  | some .local => Γ.N.findIdx? (fun y => decide (y = x))
  | some .cell => Γ.N.findIdx? (fun y => decide (y = x))
  | some .free => Γ.N.findIdx? (fun y => decide (y = x))
  | _ => none
def isGlob (Γ : Gm) (x : Str) : Bool := match Γ.names.lookup x with
  | some .globalImplicit => true
  | _ => false
def plainName (x : Str) : Bool := !(x == ("__debug__" : Str)) && !(x == ("__classdict__" : Str))
def isStar : PySem.Expr → Bool
  | .Starred _ _ => true
  | _ => false
def isSlice : PySem.Expr → Bool
  | .Slice _ _ _ _ => true
  | _ => false
def isComp : PySem.Expr → Bool
  | .ListComp _ _ _ _ => true
  | .SetComp _ _ _ _ => true
  | .DictComp _ _ _ _ _ => true
  | _ => false
def isNotImp : PySem.Expr → Bool
  | .Name x _ => x == ("NotImplemented" : Str)
  | _ => false
def isSet : PySem.Expr → Bool
  | .Set _ _ _ => true
  | _ => false
def isCall0 : PySem.Expr → Bool
  | .Call (.Name _ _) [] [] _ => true
  | _ => false
def compL (f : PySem.Expr → Option E) : List PySem.Expr → Option (List E)
  | [] => some []
  | e :: r => if isStar e then none else (f e).bind fun a => (compL f r).map fun s => a :: s
def foldE (g : E → E → E) : List E → Option E
  | [] => none
  | [a] => some a
  | a :: b :: r => (foldE g (b :: r)).map (g a)
def bmOf (m : Str) : Option BM :=
  if m = "append" then some .append else if m = "pop" then some .pop else if m = "reverse" then some .reverse else if m = "extend" then some .extend
  else if m = "removeprefix" then some .rmpre else if m = "startswith" then some .startsw else none
def sliceE (f : PySem.Expr → Option E) (o : E) : PySem.Expr → Option E
  | .Slice none none none _ => some (.prim (.sl false false) [o])
  | .Slice (some a) none none _ => (f a).map fun x => .prim (.sl true false) [o, x]
  | .Slice none (some b) none _ => (f b).map fun y => .prim (.sl false true) [o, y]
  | .Slice (some a) (some b) none _ => (f a).bind fun x => (f b).map fun y => .prim (.sl true true) [o, .prim .asI [x], y]
  | _ => none
/-- a comprehension's own names, with their slots -/
def ownOf (N : List Str) (sc : Scope) : List (Str × Nat) := sc.names.filterMap fun p => match p.2 with
  | .local => (N.findIdx? (fun y => decide (y = p.1))).map fun i => (p.1, i)
  | .cell => (N.findIdx? (fun y => decide (y = p.1))).map fun i => (p.1, i)
  | _ => none
/-- the names within a comprehension -/
def relN (names : List (Str × NameKind)) (sc : Scope) : List (Str × NameKind) := sc.names.map fun (n, k) => if (k == .free && names.lookup n == some .cell) then (n, .cell) else (n, k)
def stoN (sc : Scope) (x : Str) : Bool := match sc.names.lookup x with
  | some .local => true
  | some .cell => true
  | _ => false
def Gm.blk (Γ : Gm) (sc : Scope) : Gm := { Γ with names := relN Γ.names sc, sto := stoN sc }
def blkN (N : List Str) (names : List (Str × NameKind)) (scope : Scope) (own : List (Str × Nat)) : Bool :=
  (match scope.kind with | .function => true | _ => false) && (scope.names.all fun y => decide (scope.names.lookup y.1 = some y.2)) && (own.all fun p => decide (N[p.2]? = some p.1)) &&
    (scope.names.all fun y => match y.2 with
      | .free => (match names.lookup y.1 with | some .cell => true | some .free => true | _ => false)
      | .local => decide (y.1 ∈ own.map (·.1)) || decide (y.1 ∉ N)
      | .cell => decide (y.1 ∈ own.map (·.1)) || decide (y.1 ∉ N)
      | _ => true)
/-- a slot that is stored to -/
def slotW (Γ : Gm) (x : Str) : Option Nat := if Γ.sto x then match Γ.names.lookup x with
  | some .local => slot Γ x
  | some .cell => slot Γ x
  | _ => none
  else none
def slotE (Γ : Gm) : PySem.Expr → Option Nat
  | .Name x _ => slotW Γ x
  | _ => none
def compTs (Γ : Gm) : List PySem.Expr → Option (List Nat)
  | [] => some []
  | e :: r => (slotE Γ e).bind fun i => (compTs Γ r).map fun is => i :: is
def compT (Γ : Gm) : PySem.Expr → Option T
  | .Name x _ => (slotW Γ x).map .one
  | .Tuple es _ _ => (compTs Γ es).map .tup
  | _ => none
def tIs : T → List Nat
  | .one i => [i]
  | .tup is => is
def isRange (Γ : Gm) : PySem.Expr → Option (List PySem.Expr)
  | .Call (.Name f _) as [] _ => if isGlob Γ f && decide (f = ("range" : Str)) then match Γ.glob f with
      | .rng => some as
      | _ => none
      else none
  | _ => none
def compIt (f : PySem.Expr → Option E) (Γ : Gm) (e : PySem.Expr) : Option It := match isRange Γ e with
  | some [a] => if isStar a then none else (f a).map .rng1
  | some [a, b] => if isStar a || isStar b then none else (f a).bind fun x => (f b).map fun y => .rng2 x y
  | some _ => none
  | none => if isSet e then none else (f e).map .val
def compCs (f : PySem.Expr → Option E) : List PySem.Expr → Option (List E)
  | [] => some []
  | [c] => (f c).map fun a => [a]
  | _ => none
def compE : Nat → Gm → PySem.Expr → Option E
  | 0, _, _ => none
  | k + 1, Γ, e => match e with
    | .Name x _ => if plainName x then match slot Γ x with
        | some i => some (.var i)
        | none => if isGlob Γ x then match Γ.glob x with
          | .fn => some (.lit (.gl x))
          | .cls => some (.lit (.gl x))
          | .dct => some (.lit (.gl x))
          | .cst d => some (.lit d)
          | .bty n _ => if x = (n : Str) then some (.lit (.ty n)) else none
          | _ => none
          else none
      else none
    | .Constant c _ _ => match c with
      | .int i => some (.lit (.int i))
      | .str x => some (.lit (.str x))
      | .bool b => some (.lit (.bl b))
      | .none => some (.lit .non)
      | _ => none
    | .Tuple es _ _ => (compL (compE k Γ) es).map fun ds => .prim .tup ds
    | .List es _ => (compL (compE k Γ) es).map fun ds => .prim .lst ds
    | .BinOp a op b _ => (compE k Γ a).bind fun x => (compE k Γ b).map fun y => .prim (.bin op) [x, y]
    | .UnaryOp .Not a _ => (compE k Γ a).map fun x => .prim .not [x]
    | .UnaryOp .USub a _ => (compE k Γ a).map fun x => .prim .neg [x]
    | .UnaryOp .Invert a _ => (compE k Γ a).map fun x => .prim .inv [x]
    | .Compare a [o] [b] _ => if isSet b then none else (compE k Γ a).bind fun x => (compE k Γ b).map fun y => .prim (.cmp o) [x, y]
    | .Compare a [o1, o2] [b, c] _ => if isSet b || isSet c then none else (compE k Γ a).bind fun x => (compE k Γ b).bind fun y => (compE k Γ c).map fun z => .chain o1 o2 x y z
    | .BoolOp .And vs _ => (compL (compE k Γ) vs).bind fun ds => foldE .and ds
    | .BoolOp .Or vs _ => (compL (compE k Γ) vs).bind fun ds => foldE .or ds
    | .IfExp c a b _ => (compE k Γ c).bind fun x => (compE k Γ a).bind fun y => (compE k Γ b).map fun z => .ite x y z
    | .Attribute o f _ => if isCall0 o then none else (compE k Γ o).map fun x => .attr x f
    | .Subscript o i _ => if isSlice i then (compE k Γ o).bind fun x => sliceE (compE k Γ) x i else (compE k Γ o).bind fun x => (compE k Γ i).map fun y => .prim .ix [x, y]
    | .Call (.Name f p) as [] _ => match (if isGlob Γ f then bOf (Γ.glob f) else none) with
        | some b => if plainName f && decide (f = (b.nm : Str)) && !as.isEmpty then (compL (compE k Γ) as).map fun ds => .prim (.b b) ds else none
        | none => (compE k Γ (.Name f p)).bind fun x => (compL (compE k Γ) as).map fun ds => .call x ds
    | .Call (.Attribute o m ap) as [] pos => if isCall0 o || !(ap.endLine == pos.line) || 29 < as.length then none else
        (compE k Γ o).bind fun x => (compL (compE k Γ) as).map fun ds => .meth x m (bmOf m) ds
    | .ListComp elt [⟨tg, iter, ifs, 0⟩] sc _ => if blkN Γ.N Γ.names sc (ownOf Γ.N sc) then
        (compT (Γ.blk sc) tg).bind fun t => if (tIs t).all fun i => ((ownOf Γ.N sc).map (·.2)).contains i then
          (compIt (compE k Γ) Γ iter).bind fun it => (compCs (compE k (Γ.blk sc)) ifs).bind fun cs => (compE k (Γ.blk sc) elt).map fun x => .lc t ((ownOf Γ.N sc).map (·.2)) it cs x
        else none
      else none
    | .FormattedValue a (-1) none _ => (compE k Γ a).map fun x => .prim .fmt [x]
    | .JoinedStr [a] _ => compE k Γ a
    | .JoinedStr (a :: b :: vs) _ => (compL (compE k Γ) (a :: b :: vs)).map .join
    | _ => none
/-! ### an except suite -/
/-- a name of an exception class: own, or ValueError -/
def excN (Γ : Gm) : PySem.Expr → Option Str
  | .Name x _ => if isGlob Γ x && plainName x then match Γ.glob x with
    | .exc => some x
    | .exb _ => some x
    | _ => none
    else none
  | _ => none
def excNs (Γ : Gm) : List PySem.Expr → Option (List Str)
  | [] => some []
  | e :: r => if isStar e then none else (excN Γ e).bind fun x => (excNs Γ r).map fun xs => x :: xs
def compXL (f : PySem.Expr → Option XE) : List PySem.Expr → Option (List XE)
  | [] => some []
  | e :: r => if isStar e then none else (f e).bind fun a => (compXL f r).map fun s => a :: s
def foldX (g : XE → XE → XE) : List XE → Option XE
  | [] => none
  | [a] => some a
  | a :: b :: r => (foldX g (b :: r)).map (g a)
def isIsi (Γ : Gm) (f : Str) : Bool := decide (f = ("isinstance" : Str)) && isGlob Γ f && (match Γ.glob f with | .bfn .isi => true | _ => false)
def compXE : Nat → Gm → Str → PySem.Expr → Option XE
  | 0, _, _, _ => none
  | k + 1, Γ, n, e => match e with
    | .Constant c _ _ => match c with
      | .int i => some (.lit (.int i))
      | .str x => some (.lit (.str x))
      | .bool b => some (.lit (.bl b))
      | .none => some (.lit .non)
      | _ => none
    | .Name x _ => if plainName x && !decide (x = n) then (slot Γ x).map .var else none
    | .Tuple es _ _ => (compXL (compXE k Γ n) es).map .tup
    | .BoolOp .Or vs _ => (compXL (compXE k Γ n) vs).bind (foldX .or)
    | .BoolOp .And vs _ => (compXL (compXE k Γ n) vs).bind (foldX .and)
    | .UnaryOp .Not a _ => (compXE k Γ n a).map .not
    | .Call (.Name f _) [.Name y _, c] [] _ => if isIsi Γ f && plainName y && decide (y = n) then match c with
        | .Tuple es _ _ => (excNs Γ es).map .isT
        | c => (excN Γ c).map .is1
      else none
    | _ => none
def compX : Nat → Gm → Str → PySem.Stmt → Option XS
  | 0, _, _, _ => none
  | k + 1, Γ, n, s => match s with
    | .Assign [.Name x _] e _ => if isComp e then none else (slotW Γ x).bind fun i => if Γ.names.lookup x = some .local && !decide (x = n) then (compXE k Γ n e).map fun a => .set i a else none
    | .Return (some e) _ => (compXE k Γ n e).map .ret
    | .If c a b _ => (compXE k Γ n c).bind fun x => (compXB k Γ n a).bind fun y => (compXB k Γ n b).map fun z => .ite x y z
    | _ => none
where compXB (k : Nat) (Γ : Gm) (n : Str) : List PySem.Stmt → Option (List XS)
    | [] => some []
    | s :: r => (compX k Γ n s).bind fun a => (compXB k Γ n r).map fun b => a :: b
def excR (Γ : Gm) : PySem.Expr → Option Str
  | .Call (.Name x _) [.Constant (.str _) _ _] [] _ => if isGlob Γ x && plainName x then match Γ.glob x with
    | .exc => some x
    | _ => none
    else none
  | _ => none
def compS : Nat → Gm → PySem.Stmt → Option S
  | 0, _, _ => none
  | k + 1, Γ, s => match s with
    | .Assign [.Name x _] e _ => (slotW Γ x).bind fun i => (compE k Γ e).map fun a => .set i a
    | .Assign [.Attribute o f _] e _ => if isCall0 o then none else (compE k Γ o).bind fun a => (compE k Γ e).map fun b => .setAt a f b
    | .Assign [.Tuple es j p] e _ => match e with
      | .Tuple _ _ _ => none
      | _ => match compT Γ (.Tuple es j p) with
        | some (.tup is) => (compE k Γ e).map fun a => .unp is a
        | _ => none
    | .AugAssign (.Name x _) o e _ => (slotW Γ x).bind fun i => (compE k Γ e).bind fun a => match o with
      | .Add => some (.aug i .Add a)
      | .Sub => some (.aug i .Sub a)
      | _ => none
    | .Expr e _ => if isComp e then none else (compE k Γ e).map fun a => .expr a
    | .Return (some e) _ => if isNotImp e then some .never else (compE k Γ e).map fun a => .ret a
    | .Return none _ => some .retN
    | .If c a b _ => (compE k Γ c).bind fun x => (compB k Γ a).bind fun y => (compB k Γ b).map fun z => .ite x y z
    | .While c b [] _ => (compE k Γ c).bind fun x => (compB k Γ b).map fun y => .whl x y
    | .For t it b [] _ => (compT Γ t).bind fun tt => (compIt (compE k Γ) Γ it).bind fun i => (compB k Γ b).map fun y => .for_ tt i y
    | .Pass _ => some .pass
    | .Break _ => some .brk
    | .Continue _ => some .cnt
    | .Raise (some e) none _ => match excR Γ e with
      | some x => some (.raise x [])
      | none => some .never
    | .Raise _ _ _ => some .never
    | .Try b [.ExceptHandler (some t) (some n) (s0 :: s) _] [] [] _ => (excN Γ t).bind fun c => (slotW Γ n).bind fun i =>
        if Γ.names.lookup n = some .local then (compB k Γ b).bind fun y => (compX.compXB k Γ n (s0 :: s)).map fun z => .tryX y c i z else none
    | _ => none
where compB (k : Nat) (Γ : Gm) : List PySem.Stmt → Option (List S)
    | [] => some []
    | s :: r => (compS k Γ s).bind fun a => (compB k Γ r).map fun b => a :: b
end Mp

set_option Elab.async false
set_option linter.all false
set_option maxRecDepth 100000
/-! Mp over the hand layer: what a value, an object, a state stand for. -/
namespace Mp
open PySem PySem.Spec PyProof.Rows L2

abbrev Mg := Str → Option Value
/-- a list of the text's, that nothing writes to -/
def KL (K : PySem.W.Frag) (a : Addr) (xs : List V) : Prop := ∃ (o : Obj) (its : Array Value) (n : Nat), K.lookup a = some o ∧ o.cls = .type "list" ∧ o.dict = none ∧ o.data = .seq its n ∧ its.size ≤ sizeLine ∧ Vals xs its.toList
/-- a list that is only read -/
def SqC (K : PySem.W.Frag) (H : Hp) (a : Addr) (xs : List V) : Prop := (∃ o, H a = some (.frz o (.lst xs))) ∨ KL K a xs
theorem SqC.sq {K : PySem.W.Frag} {H : Hp} {a : Addr} {xs : List V} (s : SqC K H a xs) : SqL K H a xs := s.elim (fun z => .inl (.inr z)) .inr
mutual
def Rep (K : PySem.W.Frag) (mg : Mg) (ρ : List Addr) (H : Hp) : D → V → Prop
  | .non, v => v = .non
  | .bl b, v => v = .bl b
  | .int i, v => v = .int i
  | .str x, v => v = .str x
  | .tup xs, v => ∃ p vs, v = .ref p ∧ SqT K H p vs ∧ Reps K mg ρ H xs vs
  | .kls xs, v => ∃ p vs, v = .ref p ∧ SqC K H p vs ∧ Reps K mg ρ H xs vs
  | .ref i, v => ∃ p, ρ[i]? = some p ∧ v = .ref p
  | .gl x, v => ∃ a, mg x = some (.ref a) ∧ v = .ref a
  | .ty n, v => v = .ty n
def Reps (K : PySem.W.Frag) (mg : Mg) (ρ : List Addr) (H : Hp) : List D → List V → Prop
  | [], vs => vs = []
  | d :: ds, vs => ∃ v r, vs = v :: r ∧ Rep K mg ρ H d v ∧ Reps K mg ρ H ds r
end
/-- attributes, in order -/
def FsR (K : PySem.W.Frag) (mg : Mg) (ρ : List Addr) (H : Hp) : List (Str × D) → List (Str × V) → Prop
  | [], gs => gs = []
  | (f, d) :: r, gs => ∃ v s, gs = (f, v) :: s ∧ Rep K mg ρ H d v ∧ FsR K mg ρ H r s
def ObjR (K : PySem.W.Frag) (mg : Mg) (ρ : List Addr) (H : Hp) (p : Addr) : O → Prop
  | .lst xs => ∃ vs, H p = some (.lst vs) ∧ Reps K mg ρ H xs vs
  | .ins c fs => ∃ C dx gs, mg c = some (.ref C) ∧ H p = some (.ins C dx gs) ∧ FsR K mg ρ H fs gs
  | .dct kvs => ∃ gs, H p = some (.dK (gs.map fun q => (Sum.inr q.1, q.2))) ∧ FsR K mg ρ H kvs gs
  | .raw => True
structure RSh (K : PySem.W.Frag) (mg : Mg) (ρ : List Addr) (H : Hp) (h : HD) : Prop where
  len : ρ.length = h.length
  nd : ρ.Nodup
  trk : ∀ p ∈ ρ, H p ≠ none
  obj : ∀ (i : Nat) o, h[i]? = some o → ∃ p, ρ[i]? = some p ∧ ObjR K mg ρ H p o
/-- from one state to a later one: what is not the interpreter's stays; tuples and locked things stay -/
structure Ext (ρ : List Addr) (H : Hp) (ρ' : List Addr) (H' : Hp) : Prop where
  pre : ∀ (i : Nat) p, ρ[i]? = some p → ρ'[i]? = some p
  tup : ∀ b xs, H b = some (.tup xs) → H' b = some (.tup xs)
  frz : ∀ b o u, H b = some (.frz o u) → H' b = some (.frz o u)
  keep : ∀ b o, H b = some o → b ∉ ρ → H' b = some o
  gone : ∀ b, b ∈ ρ' → b ∈ ρ ∨ H b = none
def EvR (K : PySem.W.Frag) (mg : Mg) (ρ : List Addr) (H : Hp) (v : Ev) (σ : L2.St) : Prop :=
  v.length = σ.length ∧ ∀ (i : Nat) d, v[i]? = some (some d) → ∃ x, σ[i]? = some (some x) ∧ Rep K mg ρ H d x

section
variable {K : PySem.W.Frag} {mg : Mg} {ρ ρ' ρ'' : List Addr} {H H' H'' : Hp} {h h' : HD}

theorem Ext.refl : Ext ρ H ρ H := ⟨fun _ _ e => e, fun _ _ e => e, fun _ _ _ e => e, fun _ _ e _ => e, fun _ e => .inl e⟩
theorem Ext.trans (a : Ext ρ H ρ' H') (b : Ext ρ' H' ρ'' H'') : Ext ρ H ρ'' H'' where
  pre := fun i p e => b.pre i p (a.pre i p e)
  tup := fun c xs e => b.tup c xs (a.tup c xs e)
  frz := fun c o u e => b.frz c o u (a.frz c o u e)
  keep := fun c o e n => b.keep c o (a.keep c o e n) fun z => (a.gone c z).elim n fun q => by rw [e] at q; cases q
  gone := fun c z => (b.gone c z).elim (fun q => a.gone c q) fun q => by
    by_cases n : c ∈ ρ
    · exact .inl n
    · cases e : H c with
      | none => exact .inr rfl
      | some o => rw [a.keep c o e n] at q; cases q
theorem Ext.sqT {p : Addr} {vs : List V} (a : Ext ρ H ρ' H') (s : SqT K H p vs) : SqT K H' p vs := by
  rcases s with (s | ⟨o, s⟩) | s
  · exact .inl (.inl (a.tup _ _ s))
  · exact .inl (.inr ⟨o, a.frz _ _ _ s⟩)
  · exact .inr s
theorem Ext.sqC {p : Addr} {vs : List V} (a : Ext ρ H ρ' H') (s : SqC K H p vs) : SqC K H' p vs := s.elim (fun ⟨o, s⟩ => .inl ⟨o, a.frz _ _ _ s⟩) .inr
mutual
theorem Rep.ext (a : Ext ρ H ρ' H') : ∀ {d : D} {v : V}, Rep K mg ρ H d v → Rep K mg ρ' H' d v
  | .non, _, r => r
  | .bl _, _, r => r
  | .int _, _, r => r
  | .str _, _, r => r
  | .ty _, _, r => r
  | .gl _, _, r => r
  | .ref i, _, ⟨p, e, q⟩ => ⟨p, a.pre i p e, q⟩
  | .tup xs, _, ⟨p, vs, e, s, r⟩ => ⟨p, vs, e, a.sqT s, Reps.ext a r⟩
  | .kls xs, _, ⟨p, vs, e, s, r⟩ => ⟨p, vs, e, a.sqC s, Reps.ext a r⟩
theorem Reps.ext (a : Ext ρ H ρ' H') : ∀ {ds : List D} {vs : List V}, Reps K mg ρ H ds vs → Reps K mg ρ' H' ds vs
  | [], _, r => r
  | _ :: _, _, ⟨v, r, e, h1, h2⟩ => ⟨v, r, e, Rep.ext a h1, Reps.ext a h2⟩
end
theorem FsR.ext (a : Ext ρ H ρ' H') : ∀ {fs : List (Str × D)} {gs : List (Str × V)}, FsR K mg ρ H fs gs → FsR K mg ρ' H' fs gs
  | [], _, r => r
  | (_, _) :: _, _, ⟨v, r, e, h1, h2⟩ => ⟨v, r, e, Rep.ext a h1, FsR.ext a h2⟩
theorem EvR.ext (a : Ext ρ H ρ' H') {v : Ev} {σ : L2.St} (r : EvR K mg ρ H v σ) : EvR K mg ρ' H' v σ :=
  ⟨r.1, fun i d e => let ⟨x, e1, e2⟩ := r.2 i d e; ⟨x, e1, e2.ext a⟩⟩

theorem Reps.len : ∀ {ds : List D} {vs : List V}, Reps K mg ρ H ds vs → vs.length = ds.length
  | [], _, r => by cases r; rfl
  | _ :: _, _, ⟨_, _, e, _, r⟩ => by subst e; simp [Reps.len r]
theorem Reps.get : ∀ {ds : List D} {vs : List V} {i : Nat} {d : D}, Reps K mg ρ H ds vs → ds[i]? = some d → ∃ v, vs[i]? = some v ∧ Rep K mg ρ H d v
  | [], _, _, _, _, e => by simp at e
  | d :: ds, _, 0, _, ⟨v, r, e, h1, _⟩, q => by
    subst e
    simp at q
    subst q
    exact ⟨v, rfl, h1⟩
  | d :: ds, _, i + 1, _, ⟨v, r, e, _, h2⟩, q => by
    subst e
    obtain ⟨w, a, b⟩ := Reps.get (i := i) h2 (by simpa using q)
    exact ⟨w, by simpa using a, b⟩
theorem Reps.append : ∀ {xs ys : List D} {vs ws : List V}, Reps K mg ρ H xs vs → Reps K mg ρ H ys ws → Reps K mg ρ H (xs ++ ys) (vs ++ ws)
  | [], _, _, _, a, b => by cases a; exact b
  | _ :: _, _, _, _, ⟨v, r, e, h1, h2⟩, b => by
    subst e
    exact ⟨v, _, rfl, h1, Reps.append h2 b⟩
theorem Reps.one {d : D} {v : V} (r : Rep K mg ρ H d v) : Reps K mg ρ H [d] [v] := ⟨v, [], rfl, r, rfl⟩
theorem Reps.take : ∀ {xs : List D} {vs : List V} (n : Nat), Reps K mg ρ H xs vs → Reps K mg ρ H (xs.take n) (vs.take n)
  | xs, vs, 0, _ => by simp [Reps]
  | [], _, _ + 1, a => by cases a; simp [Reps]
  | _ :: _, _, n + 1, ⟨v, r, e, h1, h2⟩ => by
    subst e
    exact ⟨v, _, rfl, h1, Reps.take n h2⟩
theorem Reps.drop : ∀ {xs : List D} {vs : List V} (n : Nat), Reps K mg ρ H xs vs → Reps K mg ρ H (xs.drop n) (vs.drop n)
  | xs, vs, 0, a => a
  | [], _, _ + 1, a => by cases a; simp [Reps]
  | _ :: _, _, n + 1, ⟨v, r, e, h1, h2⟩ => by
    subst e
    exact Reps.drop n h2
theorem Reps.dropLast {xs : List D} {vs : List V} (a : Reps K mg ρ H xs vs) : Reps K mg ρ H xs.dropLast vs.dropLast := by
  rw [List.dropLast_eq_take, List.dropLast_eq_take, a.len]
  exact a.take _
theorem Reps.reverse : ∀ {xs : List D} {vs : List V}, Reps K mg ρ H xs vs → Reps K mg ρ H xs.reverse vs.reverse
  | [], _, a => by cases a; simp [Reps]
  | _ :: _, _, ⟨v, r, e, h1, h2⟩ => by
    subst e
    rw [List.reverse_cons, List.reverse_cons]
    exact (Reps.reverse h2).append (Reps.one h1)
theorem Reps.ints : ∀ {ns : List Int} {vs : List V}, Reps K mg ρ H (ns.map D.int) vs ↔ vs = ns.map V.int
  | [], vs => by simp [Reps]
  | n :: r, vs => by
    simp only [List.map_cons, Reps, Rep]
    constructor
    · rintro ⟨v, s, e, e1, h2⟩
      subst e1
      rw [e, Reps.ints.mp h2]
    · intro e
      exact ⟨_, _, e, rfl, Reps.ints.mpr rfl⟩
theorem FsR.look : ∀ {fs : List (Str × D)} {gs : List (Str × V)} {f : Str}, FsR K mg ρ H fs gs → (∀ d, fs.lookup f = some d → ∃ v, gs.lookup f = some v ∧ Rep K mg ρ H d v) ∧ (fs.lookup f = none → gs.lookup f = none)
  | [], _, _, r => by cases r; simp
  | (g, d) :: fs, _, f, ⟨v, s, e, h1, h2⟩ => by
    subst e
    simp only [List.lookup_cons]
    by_cases q : (f == g) = true
    · rw [q]
      exact ⟨fun d' e => by cases e; exact ⟨v, rfl, h1⟩, fun e => by cases e⟩
    · have q' : (f == g) = false := by simpa using q
      rw [q']
      exact FsR.look h2
theorem FsR.len : ∀ {fs : List (Str × D)} {gs : List (Str × V)}, FsR K mg ρ H fs gs → gs.length = fs.length
  | [], _, r => by cases r; rfl
  | (_, _) :: _, _, ⟨_, _, e, _, r⟩ => by subst e; simp [FsR.len r]
theorem FsR.put {f : Str} {d : D} {v : V} (r : Rep K mg ρ H d v) : ∀ {fs : List (Str × D)} {gs : List (Str × V)}, FsR K mg ρ H fs gs → FsR K mg ρ H (putF f d fs) (L2.putF f v gs)
  | [], _, q => by
    cases q
    exact ⟨v, [], rfl, r, rfl⟩
  | (g, w) :: fs, _, ⟨x, s, e, h1, h2⟩ => by
    subst e
    simp only [putF, L2.putF]
    by_cases q : g = f
    · subst q
      simp
      exact ⟨v, _, rfl, r, h2⟩
    · simp [q]
      exact ⟨x, _, rfl, h1, FsR.put r h2⟩

/-! ### objects -/
theorem RSh.at_ (s : RSh K mg ρ H h) {i : Nat} {o : O} (e : h[i]? = some o) : ∃ p, ρ[i]? = some p ∧ p ∈ ρ ∧ ObjR K mg ρ H p o := by
  obtain ⟨p, a, b⟩ := s.obj i o e
  exact ⟨p, a, List.mem_of_getElem? a, b⟩
theorem RSh.fresh (s : RSh K mg ρ H h) {p : Addr} (n : H p = none) : p ∉ ρ := fun z => s.trk p z n
theorem ObjR.ext_ne {p : Addr} {o : O} (a : Ext ρ H ρ' H') (e : H' p = H p) (r : ObjR K mg ρ H p o) : ObjR K mg ρ' H' p o := by
  cases o with
  | lst xs => obtain ⟨vs, e1, r⟩ := r; exact ⟨vs, by rw [e]; exact e1, r.ext a⟩
  | ins c fs => obtain ⟨C, dx, gs, m, e1, r⟩ := r; exact ⟨C, dx, gs, m, by rw [e]; exact e1, r.ext a⟩
  | dct kvs => obtain ⟨gs, e1, r⟩ := r; exact ⟨gs, by rw [e]; exact e1, r.ext a⟩
  | raw => trivial
/-- a thing that the interpreter does not hold (a tuple, a scratch list) is laid -/
theorem Ext.laid {p : Addr} {o : HO} (n : H p = none) : Ext ρ H ρ (upd H p o) :=
  ⟨fun _ _ e => e, fun b xs e => by rw [upd_ne (ne_of_none e n)]; exact e, fun b o u e => by rw [upd_ne (ne_of_none e n)]; exact e, fun b o e _ => by rw [upd_ne (ne_of_none e n)]; exact e, fun _ e => .inl e⟩
theorem RSh.laid {p : Addr} {o : HO} (s : RSh K mg ρ H h) (n : H p = none) : RSh K mg ρ (upd H p o) h where
  len := s.len
  nd := s.nd
  trk := fun q hq => by
    have ne : q ≠ p := by rintro rfl; exact s.fresh n hq
    rw [upd_ne ne]; exact s.trk q hq
  obj := fun i u e => by
    obtain ⟨q, e1, m, r⟩ := s.at_ e
    exact ⟨q, e1, r.ext_ne (Ext.laid n) (upd_ne (fun z => s.fresh n (z ▸ m)))⟩
/-- a new object of the interpreter's -/
theorem Ext.new {p : Addr} {o : HO} (n : H p = none) : Ext ρ H (ρ ++ [p]) (upd H p o) :=
  ⟨fun i q e => by
    have hi : i < ρ.length := (List.getElem?_eq_some_iff.mp e).1
    rw [List.getElem?_append_left hi]
    exact e, fun b xs e => by rw [upd_ne (ne_of_none e n)]; exact e, fun b o u e => by rw [upd_ne (ne_of_none e n)]; exact e, fun b o e _ => by rw [upd_ne (ne_of_none e n)]; exact e,
    fun b e => by
      rcases List.mem_append.mp e with e | e
      · exact .inl e
      · have : b = p := by simpa using e
        subst this
        exact .inr n⟩
theorem RSh.new {p : Addr} {o : HO} {u : O} (s : RSh K mg ρ H h) (n : H p = none) (r : ObjR K mg (ρ ++ [p]) (upd H p o) p u) : RSh K mg (ρ ++ [p]) (upd H p o) (h ++ [u]) where
  len := by simp [s.len]
  nd := by
    rw [List.nodup_append]
    refine ⟨s.nd, by simp, fun a ha b hb => ?_⟩
    have : b = p := by simpa using hb
    subst this
    exact fun z => s.fresh n (z ▸ ha)
  trk := fun q hq => by
    rcases List.mem_append.mp hq with hm | hq
    · have ne : q ≠ p := by rintro rfl; exact s.fresh n hm
      rw [upd_ne ne]
      exact s.trk q hm
    · have : q = p := by simpa using hq
      subst this
      rw [upd_same]
      simp
  obj := fun i v e => by
    by_cases hi : i < h.length
    · rw [List.getElem?_append_left hi] at e
      obtain ⟨q, e1, m, r1⟩ := s.at_ e
      exact ⟨q, (Ext.new (H := H) (o := o) n).pre i q e1, r1.ext_ne (Ext.new n) (upd_ne (fun z => s.fresh n (z ▸ m)))⟩
    · rw [List.getElem?_append_right (by omega)] at e
      have hz : i - h.length = 0 := by
        by_cases z : i - h.length = 0
        · exact z
        · rw [List.getElem?_eq_none (by simp; omega)] at e
          cases e
      rw [hz] at e
      have e' : u = v := by simpa using e
      subst e'
      refine ⟨p, ?_, r⟩
      rw [List.getElem?_append_right (by rw [s.len]; omega), s.len, hz]
      rfl
theorem new_at (s : RSh K mg ρ H h) (p : Addr) : (ρ ++ [p])[h.length]? = some p := by
  rw [List.getElem?_append_right (by rw [s.len]; exact Nat.le_refl _), s.len, Nat.sub_self]
  rfl
/-- an object of the interpreter's is changed -/
theorem Ext.write {p : Addr} {o : HO} (m : p ∈ ρ) (h1 : ∀ xs, H p ≠ some (.tup xs)) (h2 : ∀ o u, H p ≠ some (.frz o u)) : Ext ρ H ρ (upd H p o) :=
  ⟨fun _ _ e => e, fun b xs e => by
      have ne : b ≠ p := by rintro rfl; exact h1 xs e
      rw [upd_ne ne]; exact e, fun b o u e => by
      have ne : b ≠ p := by rintro rfl; exact h2 o u e
      rw [upd_ne ne]; exact e, fun b o e n => by
      have ne : b ≠ p := by rintro rfl; exact n m
      rw [upd_ne ne]; exact e, fun _ e => .inl e⟩
theorem RSh.write {i : Nat} {p : Addr} {o : HO} {u : O} (s : RSh K mg ρ H h) (e : ρ[i]? = some p) (h1 : ∀ xs, H p ≠ some (.tup xs)) (h2 : ∀ o u, H p ≠ some (.frz o u)) (r : ObjR K mg ρ (upd H p o) p u) : RSh K mg ρ (upd H p o) (h.set i u) where
  len := by simp [s.len]
  nd := s.nd
  trk := fun q hq => by
    by_cases z : q = p
    · subst z; rw [upd_same]; simp
    · rw [upd_ne z]; exact s.trk q hq
  obj := fun j v ej => by
    have m := List.mem_of_getElem? e
    by_cases hj : i = j
    · subst hj
      have hl : i < h.length := by rw [← s.len]; exact (List.getElem?_eq_some_iff.mp e).1
      rw [List.getElem?_set_self hl] at ej
      cases ej
      exact ⟨p, e, r⟩
    · rw [List.getElem?_set_ne hj] at ej
      obtain ⟨q, e1, _, r1⟩ := s.at_ ej
      have ne : q ≠ p := fun z => by
        subst z
        obtain ⟨l1, e2⟩ := List.getElem?_eq_some_iff.mp e
        obtain ⟨l2, e3⟩ := List.getElem?_eq_some_iff.mp e1
        exact hj ((List.getElem_inj s.nd).mp (e2.trans e3.symm))
      exact ⟨q, e1, r1.ext_ne (Ext.write m h1 h2) (upd_ne ne)⟩
end

/-! ### readings -/
def ExR (K : PySem.W.Frag) (mg : Mg) (ρ : List Addr) (H : Hp) (e : Exn) (cls : Value) (d : Option Addr) : Prop :=
  ∃ C, mg e.cls = some (.ref C) ∧ cls = .ref C ∧ ((e.fs = [] ∧ d = none) ∨ (e.fs ≠ [] ∧ ∃ dx gs, d = some dx ∧ dx ∉ ρ ∧ H dx = some (.xd gs) ∧ FsR K mg ρ H e.fs gs))
/-- behind an expression, a list of expressions, a test: RR says what a value stands for -/
def Post {α β : Type} (K : PySem.W.Frag) (mg : Mg) (RR : List Addr → Hp → α → β → Prop) (W : WX) (ρ : List Addr) (H : Hp) (σ : L2.St) (Q : β → Hp → Prop) : R α → Prop
  | .ok d h' => ∀ ρ' H' v, Ext ρ H ρ' H' → RSh K mg ρ' H' h' → RR ρ' H' d v → Q v H'
  | .ex e h' => ∀ ρ' H' cls dd, Ext ρ H ρ' H' → RSh K mg ρ' H' h' → ExR K mg ρ' H' e cls dd → W cls dd σ H'
  | .bad => False
abbrev PostE (K : PySem.W.Frag) (mg : Mg) := Post K mg (Rep K mg)
abbrev PostA (K : PySem.W.Frag) (mg : Mg) := Post K mg (Reps K mg)
abbrev PostT (K : PySem.W.Frag) (mg : Mg) := Post (α := Bool) (β := Bool) K mg (fun _ _ a b => a = b)
/-- the reading of something whose end is F's -/
def tX {α β : Type} (K : PySem.W.Frag) (mg : Mg) (RR : List Addr → Hp → α → β → Prop) (W : WX) (F : Ev → HD → R α) : L2.St → Hp → (β → Hp → Prop) → Prop := fun σ H Q => ∃ ρ v h, RSh K mg ρ H h ∧ EvR K mg ρ H v σ ∧ Post K mg RR W ρ H σ Q (F v h)
abbrev tD (K : PySem.W.Frag) (mg : Mg) (W : WX) (F : Ev → HD → R D) : TE := tX K mg (Rep K mg) W F
abbrev tA (K : PySem.W.Frag) (mg : Mg) (W : WX) (F : Ev → HD → R (List D)) : TA := tX K mg (Reps K mg) W F
abbrev tT (K : PySem.W.Frag) (mg : Mg) (W : WX) (F : Ev → HD → R Bool) : TT := tX K mg (fun _ _ (a b : Bool) => a = b) W F
def PostS (K : PySem.W.Frag) (mg : Mg) (W : WX) (ρ : List Addr) (H : Hp) (D : Ends) : RS → Prop
  | .nx v' h' => ∀ ρ' H' σ', Ext ρ H ρ' H' → RSh K mg ρ' H' h' → EvR K mg ρ' H' v' σ' → D.nx σ' H'
  | .rt d h' => ∀ ρ' H' v, Ext ρ H ρ' H' → RSh K mg ρ' H' h' → Rep K mg ρ' H' d v → D.rt v H'
  | .bk v' h' => ∀ ρ' H' σ', Ext ρ H ρ' H' → RSh K mg ρ' H' h' → EvR K mg ρ' H' v' σ' → D.bk σ' H'
  | .ct v' h' => ∀ ρ' H' σ', Ext ρ H ρ' H' → RSh K mg ρ' H' h' → EvR K mg ρ' H' v' σ' → D.ct σ' H'
  | .ex e v' h' => ∀ ρ' H' σ' cls dd, Ext ρ H ρ' H' → RSh K mg ρ' H' h' → EvR K mg ρ' H' v' σ' → ExR K mg ρ' H' e cls dd → W cls dd σ' H'
  | .bad => False
def tS (K : PySem.W.Frag) (mg : Mg) (W : WX) (F : Ev → HD → RS) : TS := fun D σ H => ∃ ρ v h, RSh K mg ρ H h ∧ EvR K mg ρ H v σ ∧ PostS K mg W ρ H D (F v h)

section
variable {K : PySem.W.Frag} {mg : Mg} {W : WX} {ρ ρ1 : List Addr} {H H1 : Hp} {σ : L2.St} {α β γ δ : Type} {RR : List Addr → Hp → α → β → Prop} {RR2 : List Addr → Hp → γ → δ → Prop}
theorem Post.from (a : Ext ρ H ρ1 H1) {Q : β → Hp → Prop} : ∀ {r : R α}, Post K mg RR W ρ H σ Q r → Post K mg RR W ρ1 H1 σ Q r
  | .ok _ _, p => fun ρ' H' v e => p ρ' H' v (a.trans e)
  | .ex _ _, p => fun ρ' H' c d e => p ρ' H' c d (a.trans e)
  | .bad, p => p
theorem Post.mono {Q Q' : β → Hp → Prop} (q : ∀ x H', Q x H' → Q' x H') : ∀ {r : R α}, Post K mg RR W ρ H σ Q r → Post K mg RR W ρ H σ Q' r
  | .ok _ _, p => fun ρ' H' v e s r => q _ _ (p ρ' H' v e s r)
  | .ex _ _, p => p
  | .bad, p => p
theorem PostS.from {D : Ends} (a : Ext ρ H ρ1 H1) : ∀ {r : RS}, PostS K mg W ρ H D r → PostS K mg W ρ1 H1 D r
  | .nx _ _, p => fun ρ' H' σ e => p ρ' H' σ (a.trans e)
  | .rt _ _, p => fun ρ' H' v e => p ρ' H' v (a.trans e)
  | .bk _ _, p => fun ρ' H' σ e => p ρ' H' σ (a.trans e)
  | .ct _ _, p => fun ρ' H' σ e => p ρ' H' σ (a.trans e)
  | .ex _ _ _, p => fun ρ' H' σ c d e => p ρ' H' σ c d (a.trans e)
  | .bad, p => p
/-- the bind of two ends -/
theorem Post.bind {Q : δ → Hp → Prop} {Q' : β → Hp → Prop} {m : R α} {f : α → HD → R γ} (p : Post K mg RR2 W ρ H σ Q (m.bind f))
    (k : ∀ ρ1 H1 d h1 x, Ext ρ H ρ1 H1 → RSh K mg ρ1 H1 h1 → RR ρ1 H1 d x → Post K mg RR2 W ρ1 H1 σ Q (f d h1) → Q' x H1) : Post K mg RR W ρ H σ Q' m := by
  cases m with
  | ok d h1 => exact fun ρ' H' v e s r => k ρ' H' d h1 v e s r (Post.from e p)
  | ex e h1 => exact p
  | bad => exact p
theorem PostS.bind {D : Ends} {v : Ev} {Q' : β → Hp → Prop} {m : R α} {f : α → HD → RS} (er : EvR K mg ρ H v σ) (p : PostS K mg W ρ H D (m.st v f))
    (k : ∀ ρ1 H1 d h1 x, Ext ρ H ρ1 H1 → RSh K mg ρ1 H1 h1 → EvR K mg ρ1 H1 v σ → RR ρ1 H1 d x → PostS K mg W ρ1 H1 D (f d h1) → Q' x H1) : Post K mg RR W ρ H σ Q' m := by
  cases m with
  | ok d h1 => exact fun ρ' H' x e s r => k ρ' H' d h1 x e s (er.ext e) r (PostS.from e p)
  | ex e h1 => exact fun ρ' H' c dd a s x => p ρ' H' σ c dd a s (er.ext a) x
  | bad => exact p
end
end Mp

set_option Elab.async false
set_option linter.all false
set_option maxRecDepth 100000
set_option maxHeartbeats 1000000
/-! Mp: the text's expressions do what the interpreter does. -/
namespace Mp
open PySem PySem.Spec PyProof.Rows L2

/-- where one stands -/
structure Okx (Γ : Gm) (X : Cx) (W : WX) : Prop where
  N : X.N = Γ.N
  nd : X.N.Nodup
  calm : X.calm = true
  tk : Takes X W
  sc : ∀ x, X.env.scope.names.lookup x = Γ.names.lookup x
  knd : X.env.scope.kind = .function
  st : ∀ x, Γ.sto x = true → Loc X.env.scope x → X.fn x = true ∨ X.env.scope.names.lookup x = some .local
/-- a def is callable at level lv and does what C says -/
def CalOk (P : Program) (w : World) (K : PySem.W.Frag) (mg : Mg) (base : Heap) (C : Cal) (lv : Nat) (q : Str) (f : Addr) : Prop :=
  ∀ (A : Around) (outer : List Env) (s : Shared) (H : Hp) (us : List Value) (vs : List V) (Q : VK) (E : XK) (ρ : List Addr) (ds : List D) (h : HD), Room lv A → Env0 P w K mg base A outer s H → Vals vs us →
    RSh K mg ρ H h → Reps K mg ρ H ds vs → PostE K mg (fun c d _ H' => E c d H') ρ H [] Q (C q ds h) → codeAny (model P w) A (.call (.ref f) ⟨us, []⟩) (CR (L2.CX P w) outer P w H s Q E) s

section
variable {K : PySem.W.Frag} {mg : Mg} {ρ : List Addr} {H : Hp} {h : HD}
theorem PostE.toX {W : WX} {σ : L2.St} {Q : VK} : ∀ {r : R D}, PostE K mg W ρ H σ Q r → PostE K mg (fun c d _ H' => W c d σ H') ρ H [] Q r
  | .ok _ _, p => p
  | .ex _ _, p => p
  | .bad, p => p
variable {X : Cx} {W : WX} {pins : List (Addr × Obj)} {σ : L2.St} {s : Shared} {Q : VK}
/-- a def is called -/
theorem call_ok {C : Cal} {lv : Nat} {q : Str} {f : Addr} {us : List Value} {vs : List V} {ds : List D} (hc : CalOk X.prog X.w X.K X.mg X.base C lv q f) (hr : Room lv X.A) (tk : Takes X W) (I : Inv X pins σ H s) (r : Vals vs us)
    (rs : RSh X.K X.mg ρ H h) (rd : Reps X.K X.mg ρ H ds vs) (p : PostE X.K X.mg W ρ H σ Q (C q ds h)) : wpAny (model X.prog X.w) X.A (call (.ref f) us) (EP X pins σ Q) X.xe s := by
  refine wpAny_call (codeAny_mono (hc X.A X.stack s H us vs Q (WE W σ) ρ ds h hr I.env0 r rs rd p.toX) fun r s' hq => ?_)
  cases r with
  | error e => exact passAt tk σ pins H s e s' I hq
  | ok fl =>
    cases fl with
    | ret u => exact I.after hq
    | next => exact False.elim hq
    | brk => exact False.elim hq
    | cont => exact False.elim hq
end

theorem findIdx_get {l : List Str} {x : Str} {i : Nat} (h : l.findIdx? (fun y => decide (y = x)) = some i) : l[i]? = some x := by
  obtain ⟨h1, h2, _⟩ := List.findIdx?_eq_some_iff_getElem.mp h
  rw [List.getElem?_eq_getElem h1]
  exact congrArg some (of_decide_eq_true h2)
theorem slot_get {Γ : Gm} {x : Str} {i : Nat} (h : slot Γ x = some i) : Γ.N[i]? = some x ∧ (Γ.names.lookup x = some .local ∨ Γ.names.lookup x = some .cell ∨ Γ.names.lookup x = some .free) := by
  unfold slot at h
  split at h <;> first | cases h | skip
  · exact ⟨findIdx_get h, .inl (by assumption)⟩
  · exact ⟨findIdx_get h, .inr (.inl (by assumption))⟩
  · exact ⟨findIdx_get h, .inr (.inr (by assumption))⟩
theorem isGlob_get {Γ : Gm} {x : Str} (h : isGlob Γ x = true) : Γ.names.lookup x = some .globalImplicit := by
  unfold isGlob at h
  split at h
  · assumption
  · cases h
theorem plain_get {x : Str} (h : plainName x = true) : (x == ("__debug__" : Str)) = false ∧ (x == ("__classdict__" : Str)) = false := by
  unfold plainName at h
  simpa using h

/-- what is known of the text at all -/
structure Txt (X : Cx) (gi : GI) (C : Cal) (lv : Nat) (glob : Str → Gk) : Prop where
  fn : ∀ x, glob x = .fn → ∃ f, X.mg x = some (.ref f) ∧ PySem.W.keepIn X.K (.ref f) = true ∧ CalOk X.prog X.w X.K X.mg X.base C lv x f
  cls : ∀ x, glob x = .cls → ∃ f, X.mg x = some (.ref f)
  dct : ∀ x, glob x = .dct → ∃ f, X.mg x = some (.ref f)
  exc : ∀ x, glob x = .exc → ∃ f, X.mg x = some (.ref f)
  exb : ∀ x n, glob x = .exb n → X.mg x = none ∧ bootBuiltins x = some (.type n) ∧ x ≠ "__name__"
  cst : ∀ x d, glob x = .cst d → ∃ u v, X.mg x = some u ∧ RelV v u ∧ ∀ ρ H, Rep X.K X.mg ρ H d v
  bty : ∀ x n b, glob x = .bty n b → X.mg x = none ∧ (x = (n : Str) → bootBuiltins x = some (.type n) ∧ x ≠ "__name__")
  bfn : ∀ x b, glob x = .bfn b → X.mg x = none
  rng : ∀ x, glob x = .rng → X.mg x = none
abbrev M (X : Cx) : Model := model X.prog X.w

section
variable {Γ : Gm} {X : Cx} {W : WX} {gi : GI} {C : Cal} {lv : Nat}
theorem sv (i : Nat) {x : Str} {pos : Pos} (O : Okx Γ X W) (hs : slot Γ x = some i) (hp : plainName x = true) : PE X (.Name x pos) (tD X.K X.mg W (evE gi C (.var i))) := by
  obtain ⟨hN, hk⟩ := slot_get hs
  obtain ⟨d1, d2⟩ := plain_get hp
  refine ⟨fun pins s σ H Q I ⟨ρ, v, h, rs, er, p⟩ => ?_⟩
  refine (pe_var (i := i) (by rw [O.N]; exact hN) (by simp only [Vis, O.sc]; exact hk) d1 d2).run pins s σ H Q I ?_
  simp only [evE] at p
  cases e : v[i]? with
  | none => rw [e] at p; exact p.elim
  | some o =>
    rw [e] at p
    cases o with
    | none => exact p.elim
    | some d =>
      obtain ⟨x, e1, r⟩ := er.2 i d e
      exact ⟨x, e1, p ρ H x Ext.refl rs r⟩
theorem sc_const {e : PySem.Expr} {d : D} {v : V} (h : PE X e (tC v)) (r : ∀ ρ H, Rep X.K X.mg ρ H d v) : PE X e (tD X.K X.mg W (evE gi C (.lit d))) := by
  refine ⟨fun pins s σ H Q I ⟨ρ, v', h', rs, er, p⟩ => h.run pins s σ H Q I ?_⟩
  simp only [evE] at p
  exact p ρ H v Ext.refl rs (r ρ H)
end

theorem PE.wk {X : Cx} {e : PySem.Expr} {t t' : TE} (h : PE X e t) (q : ∀ σ H Q, t' σ H Q → t σ H Q) : PE X e t' := ⟨fun pins s σ H Q I p => h.run pins s σ H Q I (q σ H Q p)⟩
theorem PA.wk {X : Cx} {e : List PySem.Expr} {t t' : TA} (h : PA X e t) (q : ∀ σ H Q, t' σ H Q → t σ H Q) : PA X e t' := ⟨fun pos pins s σ H Q I p => h.run pos pins s σ H Q I (q σ H Q p)⟩
theorem PT.wk {X : Cx} {e : PySem.Expr} {t t' : TT} (h : PT X e t) (q : ∀ σ H Q, t' σ H Q → t σ H Q) : PT X e t' := ⟨fun pins s σ H Q I p => h.run pins s σ H Q I (q σ H Q p)⟩
theorem PS.wk {X : Cx} {e : PySem.Stmt} {t t' : TS} (h : PS X e t) (q : ∀ D σ H, t' D σ H → t D σ H) : PS X e t' := ⟨fun pins s σ H D I p => h.run pins s σ H D I (q D σ H p)⟩
theorem PSs.wk {X : Cx} {e : List PySem.Stmt} {t t' : TS} (h : PSs X e t) (q : ∀ D σ H, t' D σ H → t D σ H) : PSs X e t' := ⟨fun pins s σ H D I p => h.run pins s σ H D I (q D σ H p)⟩

theorem star_of {e : PySem.Expr} (h : isStar e = false) (es : List PySem.Expr) (env : Env) : starEach (e :: es) env = (false, eval e env) :: starEach es env := by
  cases e <;> first | rfl | (cases h)
theorem bind_ok {α β : Type} (a : α) (h : HD) (f : α → HD → R β) : (R.ok a h).bind f = f a h := rfl
section
variable {Γ : Gm} {X : Cx} {W : WX} {gi : GI} {C : Cal} {lv : Nat}
theorem sa_nil : PA X [] (tA X.K X.mg W (evEs gi C [])) := PA.wk pa_nil fun σ H Q ⟨ρ, v, h, rs, er, p⟩ => p ρ H [] Ext.refl rs rfl
theorem sa_cons {e : PySem.Expr} {es : List PySem.Expr} {a : E} {as : List E} (ha : PE X e (tD X.K X.mg W (evE gi C a))) (hr : PA X es (tA X.K X.mg W (evEs gi C as))) (hs : isStar e = false) : PA X (e :: es) (tA X.K X.mg W (evEs gi C (a :: as))) := by
  refine PA.wk (pa_cons ha hr (star_of hs es X.env)) fun σ H Q ⟨ρ, v, h, rs, er, p⟩ => ?_
  simp only [evEs] at p
  refine ⟨ρ, v, h, rs, er, p.bind fun ρ1 H1 d h1 x e1 s1 r1 p1 => ?_⟩
  refine ⟨ρ1, v, h1, s1, er.ext e1, p1.bind fun ρ2 H2 ds h2 xs e2 s2 r2 p2 => ?_⟩
  exact p2 ρ2 H2 (x :: xs) Ext.refl s2 ⟨x, xs, rfl, r1.ext e2, r2⟩
end
end Mp

set_option Elab.async false
set_option linter.all false
set_option maxRecDepth 100000
set_option maxHeartbeats 1000000
/-! Mp: operations on values. -/
namespace Mp
open PySem PySem.Spec PyProof.Rows L2

theorem cap_le {n : Nat} (h : n ≤ cap) : n ≤ sizeLine := by
  rw [sizeLine_eq]; unfold cap at h; omega
theorem cap_lt {n : Nat} (h : n < cap) : n < sizeLine := by
  rw [sizeLine_eq]; unfold cap at h; omega
theorem foldl_flat (l : List Nat) : ∀ (n : Nat) (acc : Array Nat), (List.replicate n l.toArray).foldl (· ++ ·) acc = (acc.toList ++ (List.replicate n l).flatten).toArray
  | 0, acc => by simp
  | n + 1, acc => by
    rw [List.replicate_succ, List.foldl_cons, foldl_flat l n, List.replicate_succ, List.flatten_cons]
    simp
/-! ### a value as data -/
mutual
def toPy : D → PyData
  | .non => .none
  | .bl b => .bool b
  | .int i => .int i
  | .str x => .str x
  | .tup xs => .tuple (toPys xs)
  | .kls _ => .none
  | .ref _ => .none
  | .gl _ => .none
  | .ty _ => .none
def toPys : List D → List PyData
  | [] => []
  | a :: r => toPy a :: toPys r
end
mutual
theorem toPy_dep : ∀ d : D, (toPy d).depth = d.dep
  | .non => rfl
  | .bl _ => rfl
  | .int _ => rfl
  | .str _ => rfl
  | .kls _ => rfl
  | .ref _ => rfl
  | .gl _ => rfl
  | .ty _ => rfl
  | .tup xs => by simp only [toPy, PyData.depth, D.dep, toPys_dep xs]
theorem toPys_dep : ∀ ds : List D, PyData.depthAll (toPys ds) = deps ds
  | [] => rfl
  | a :: r => by simp only [toPys, PyData.depthAll, deps, toPy_dep a, toPys_dep r]
end
mutual
theorem toPy_lay : ∀ d : D, d.pure = true → (toPy d).canLay0 = true
  | .non, _ => rfl
  | .bl _, _ => rfl
  | .int _, _ => rfl
  | .str x, h => by
    simp only [toPy, PyData.canLay0]
    unfold PyData.strOk
    simp only [D.pure, strOkB] at h
    rw [← Array.all_toList]
    exact h
  | .kls _, h => by cases h
  | .ref _, h => by cases h
  | .gl _, h => by cases h
  | .ty _, h => by cases h
  | .tup xs, h => by
    simp only [toPy, PyData.canLay0]
    exact toPys_lay xs (by simpa [D.pure] using h)
theorem toPys_lay : ∀ ds : List D, purs ds = true → PyData.canLayAll0 (toPys ds) = true
  | [], _ => rfl
  | a :: r, h => by
    simp only [purs, Bool.and_eq_true] at h
    simp only [toPys, PyData.canLayAll0, toPy_lay a h.1, toPys_lay r h.2, Bool.and_self]
end
mutual
theorem toPy_eqv : ∀ a b : D, a.pure = true → b.pure = true → PyData.eqv (toPy a) (toPy b) = deq a b
  | a, .kls _, _, h => by cases h
  | a, .ref _, _, h => by cases h
  | a, .gl _, _, h => by cases h
  | a, .ty _, _, h => by cases h
  | .kls _, _, h, _ => by cases h
  | .ref _, _, h, _ => by cases h
  | .gl _, _, h, _ => by cases h
  | .ty _, _, h, _ => by cases h
  | .non, b, _, h => by cases b <;> first | rfl | (cases h; done) | simp [toPy, PyData.eqv, deq]
  | .bl _, b, _, h2 => by cases b <;> first | rfl | (cases h2; done) | (simp [toPy, PyData.eqv, deq]; done) | (simp only [toPy, PyData.eqv, deq]; rename_i p q; cases p <;> simp <;> rfl)
  | .int _, b, _, h2 => by cases b <;> first | rfl | (cases h2; done) | (simp [toPy, PyData.eqv, deq]; done) | (simp only [toPy, PyData.eqv, deq]; rename_i p q; cases q <;> simp <;> rfl)
  | .str _, b, _, h2 => by cases b <;> first | rfl | (cases h2; done) | simp [toPy, PyData.eqv, deq]
  | .tup xs, .tup ys, h1, h2 => by
    simp only [toPy, PyData.eqv, deq]
    exact toPys_eqv xs ys (by simpa [D.pure] using h1) (by simpa [D.pure] using h2)
  | .tup _, .non, _, _ => by simp [toPy, PyData.eqv, deq]
  | .tup _, .bl _, _, _ => by simp [toPy, PyData.eqv, deq]
  | .tup _, .int _, _, _ => by simp [toPy, PyData.eqv, deq]
  | .tup _, .str _, _, _ => by simp [toPy, PyData.eqv, deq]
theorem toPys_eqv : ∀ a b : List D, purs a = true → purs b = true → PyData.eqvAll (toPys a) (toPys b) = deqs a b
  | [], [], _, _ => rfl
  | [], _ :: _, _, _ => rfl
  | _ :: _, [], _, _ => rfl
  | a :: r, b :: s, h1, h2 => by
    simp only [purs, Bool.and_eq_true] at h1 h2
    simp only [toPys, PyData.eqvAll, deqs, toPy_eqv a b h1.1 h2.1, toPys_eqv r s h1.2 h2.2]
end
mutual
theorem toPy_dp {K : PySem.W.Frag} {mg : Mg} {ρ : List Addr} {H : Hp} : ∀ (d : D) (v : V), d.pure = true → Rep K mg ρ H d v → Dp K H v (toPy d)
  | .non, _, _, r => by cases r; exact .non
  | .bl _, _, _, r => by cases r; exact .bl _
  | .int _, _, _, r => by cases r; exact .int _
  | .str _, _, _, r => by cases r; exact .str _
  | .kls _, _, h, _ => by cases h
  | .ref _, _, h, _ => by cases h
  | .gl _, _, h, _ => by cases h
  | .ty _, _, h, _ => by cases h
  | .tup xs, _, h, ⟨p, vs, e, s, r⟩ => by
    subst e
    exact .tup s (toPys_dp xs vs (by simpa [D.pure] using h) r)
theorem toPys_dp {K : PySem.W.Frag} {mg : Mg} {ρ : List Addr} {H : Hp} : ∀ (ds : List D) (vs : List V), purs ds = true → Reps K mg ρ H ds vs → DpAll K H vs (toPys ds)
  | [], _, _, r => by cases r; exact .nil
  | a :: t, _, h, ⟨v, r, e, h1, h2⟩ => by
    subst e
    simp only [purs, Bool.and_eq_true] at h
    exact .cons (toPy_dp a v h.1 h1) (toPys_dp t r h.2 h2)
end
theorem flat_rep {K : PySem.W.Frag} {mg : Mg} {ρ : List Addr} {H : Hp} {d : D} {v : V} (f : d.flat = true) (r : Rep K mg ρ H d v) : flatV v = true ∧ scal v v = true := by
  cases d <;> first | (cases r; exact ⟨rfl, by simp [scal]⟩) | cases f

section
variable {X : Cx} {W : WX} {pins : List (Addr × Obj)} {σ : L2.St} {s : Shared} {H : Hp} {Q : VK} {ρ : List Addr} {h : HD} {a b : D} {x y : V} {v u : Value}
/-- a list's items -/
theorem lst_sq {K : PySem.W.Frag} {mg : Mg} {i : Nat} {xs : List D} (rs : RSh K mg ρ H h) (e : lstOf h i = some xs) : ∃ p vs, ρ[i]? = some p ∧ SqL K H p vs ∧ Reps K mg ρ H xs vs := by
  unfold lstOf at e
  split at e <;> cases e
  · obtain ⟨p, e1, _, vs, e2, r⟩ := rs.at_ (by assumption)
    exact ⟨p, vs, e1, .inl (.inl e2), r⟩
theorem ref_at {K : PySem.W.Frag} {mg : Mg} {i : Nat} {p : Addr} (r : Rep K mg ρ H (.ref i) x) (e : ρ[i]? = some p) : x = .ref p := by
  obtain ⟨q, e1, e2⟩ := r
  rw [e] at e1
  cases e1
  exact e2
theorem ls_sq {K : PySem.W.Frag} {mg : Mg} {d : D} {xs : List D} (rs : RSh K mg ρ H h) (r : Rep K mg ρ H d x) (e : lsD d h = some xs) : ∃ p vs, x = .ref p ∧ SqL K H p vs ∧ Reps K mg ρ H xs vs := by
  cases d with
  | kls ys =>
    cases e
    obtain ⟨p, vs, e1, s, r⟩ := r
    exact ⟨p, vs, e1, s.sq, r⟩
  | ref i =>
    obtain ⟨p, vs, e1, s, rr⟩ := lst_sq rs e
    exact ⟨p, vs, ref_at r e1, s, rr⟩
  | _ => cases e
/-- a new list -/
theorem new_lst {K : PySem.W.Frag} {mg : Mg} {xs : List D} {vs : List V} {p : Addr} (rs : RSh K mg ρ H h) (r : Reps K mg ρ H xs vs) (n : H p = none) : RSh K mg (ρ ++ [p]) (upd H p (.lst vs)) (h ++ [.lst xs]) ∧ Rep K mg (ρ ++ [p]) (upd H p (.lst vs)) (.ref h.length) (.ref p) :=
  ⟨rs.new n ⟨vs, upd_same, r.ext (Ext.new n)⟩, p, new_at rs p, rfl⟩

theorem bin_ok {op : Operator} (I : Inv X pins σ H s) (r1 : RelV x v) (r2 : RelV y u) (rs : RSh X.K X.mg ρ H h) (da : Rep X.K X.mg ρ H a x) (db : Rep X.K X.mg ρ H b y) (p : PostE X.K X.mg W ρ H σ Q (binD op a b h)) :
    wpAny (model X.prog X.w) X.A (binaryOp op v u) (EP X pins σ Q) X.xe s := by
  unfold binD at p
  split at p
  · cases da; cases db
    exact op_add pins s σ H _ _ v u Q I r1 r2 ⟨_, _, rfl, rfl, p _ _ _ Ext.refl rs rfl⟩
  · cases da; cases db
    split at p
    · exact op_add_str pins s σ H _ _ v u Q I r1 r2 ⟨_, _, rfl, rfl, cap_le (by assumption), p _ _ _ Ext.refl rs rfl⟩
    · exact p.elim
  · split at p
    · rename_i i j xs ys e1 e2
      split at p
      · rename_i hz
        obtain ⟨pa, f1, _, vs, q1, g1⟩ := rs.at_ e1
        obtain ⟨pb, f2, _, ws, q2, g2⟩ := rs.at_ e2
        have ex := ref_at da f1
        have ey := ref_at db f2
        subst ex ey
        refine op_cat pins s σ H _ _ v u Q I r1 r2 ⟨_, _, _, _, rfl, rfl, q1, q2, by rw [g1.len, g2.len]; exact cap_le hz, fun q nq => ?_⟩
        obtain ⟨s2, r3⟩ := new_lst rs (g1.append g2) nq
        exact p _ _ _ (Ext.new nq) s2 r3
      · exact p.elim
    · exact p.elim
  · cases da; cases db
    exact op_sub pins s σ H _ _ v u Q I r1 r2 ⟨_, _, rfl, rfl, p _ _ _ Ext.refl rs rfl⟩
  · cases da; cases db
    split at p
    · exact op_mul pins s σ H _ _ v u Q I r1 r2 ⟨_, _, rfl, rfl, (by assumption), p _ _ _ Ext.refl rs rfl⟩
    · exact p.elim
  · cases da; cases db
    split at p
    · rename_i x n c
      obtain ⟨c1, c2, c3⟩ := c
      obtain ⟨t, rfl⟩ := r1
      obtain ⟨t', rfl⟩ := r2
      have fin := p ρ H _ Ext.refl rs rfl
      have hs : sizeLine = 16777216 := sizeLine_eq
      unfold big at c1 c2
      unfold cap at c3
      refine PySem.P.mul_str (by
        have h1 : ¬ n < -(2 ^ 63 : Int) := by omega
        have h2 : ¬ n ≥ 2 ^ 63 := by omega
        rw [decide_eq_false h1, decide_eq_false h2]; rfl) (fun h1 h2 => ?_) (fun h1 h2 => ?_) ?_
      · have hn : (n.toNat : Int) = n := by omega
        have c4 : ((x.length * n.toNat : Nat) : Int) ≤ 4000000 := by omega
        rw [Int.natCast_mul, hn] at c4
        have : (x.length : Int) ≤ (2 ^ 63 - 1) / n := (Int.le_ediv_iff_mul_le (by omega)).mpr (by omega)
        omega
      · unfold Builtin.Str.tooLong
        exact decide_eq_false (by omega)
      · have e3 : (⟨(List.replicate n.toNat x.cps).foldl (· ++ ·) #[]⟩ : Str) = sOf (List.replicate n.toNat x.cps.toList).flatten := by
          unfold sOf
          have q := foldl_flat x.cps.toList n.toNat #[]
          rw [Array.toArray_toList] at q
          rw [q]
          simp
        have hl : (sOf (List.replicate n.toNat x.cps.toList).flatten).length = x.length * n.toNat := by
          simp [sOf, Str.length, Nat.mul_comm]
        split
        · rename_i h1
          have hz : n.toNat = 0 := by omega
          rw [hz] at fin
          exact ⟨by decide, ⟨.str _, H, I.tok _, ⟨_, rfl⟩, fin⟩⟩
        · rename_i h1
          split
          · rename_i h2
            have e4 : sOf (List.replicate n.toNat x.cps.toList).flatten = x := by
              rw [Bool.or_eq_true] at h2
              rcases h2 with h2 | h2
              · have : n = 1 := by simpa using h2
                subst this
                simp [sOf]
              · have : x.cps = #[] := by simpa [Str.length] using h2
                obtain ⟨cps⟩ := x
                cases this
                simp [sOf]
            rw [e4] at fin
            exact ⟨.str _, H, I, ⟨_, rfl⟩, fin⟩
          · refine ⟨by rw [e3, hl]; omega, ⟨.str _, H, I.tok _, ⟨_, rfl⟩, ?_⟩⟩
            rw [e3]
            exact fin
    · exact p.elim
  · cases da; cases db
    split at p
    · exact op_fdivN pins s σ H _ _ v u Q I r1 r2 ⟨_, _, rfl, rfl, (by assumption), p _ _ _ Ext.refl rs rfl⟩
    · exact p.elim
  · cases da; cases db
    split at p
    · exact op_modN pins s σ H _ _ v u Q I r1 r2 ⟨_, _, rfl, rfl, (by assumption), p _ _ _ Ext.refl rs rfl⟩
    · exact p.elim
  · cases da; cases db
    split at p
    · exact op_pow pins s σ H _ _ v u Q I r1 r2 ⟨_, _, rfl, rfl, (by assumption), p _ _ _ Ext.refl rs rfl⟩
    · exact p.elim
  · exact p.elim

theorem sc_rep {K : PySem.W.Frag} {mg : Mg} (f : a.sc b = true) (r : Rep K mg ρ H a x) (q : Rep K mg ρ H b y) : scal x y = true ∧ decide (x = y) = deq a b := by
  cases a <;> cases b <;> first | (cases f; done) | (cases r; cases q; refine ⟨rfl, ?_⟩; simp [deq])
theorem flat_eqV {K : PySem.W.Frag} {mg : Mg} (fa : a.flat = true) (fb : b.flat = true) (r : Rep K mg ρ H a x) (q : Rep K mg ρ H b y) : eqV x y = deq a b := by
  cases a <;> first | (cases fa; done) | (cases b <;> first | (cases fb; done) | (cases r; cases q; simp [eqV, deq]; done) | (cases r; cases q; rename_i i j; first | (cases i <;> simp [eqV, deq, b2i] <;> rfl) | (cases j <;> simp [eqV, deq, b2i] <;> rfl)))
theorem flat_V {K : PySem.W.Frag} {mg : Mg} (fa : a.flat = true) (r : Rep K mg ρ H a x) : flatV x = true := (flat_rep fa r).1
theorem mem_inV {K : PySem.W.Frag} {mg : Mg} (fa : a.flat = true) (r : Rep K mg ρ H a x) : ∀ {xs : List D} {vs : List V}, xs.all D.flat = true → Reps K mg ρ H xs vs → vs.all flatV = true ∧ inV x vs = memD a xs
  | [], _, _, q => by cases q; exact ⟨rfl, rfl⟩
  | b :: t, _, f, ⟨w, r', e, h1, h2⟩ => by
    subst e
    simp only [List.all_cons, Bool.and_eq_true] at f
    obtain ⟨i1, i2⟩ := mem_inV fa r f.2 h2
    refine ⟨by simp [flat_V f.1 h1, i1], ?_⟩
    unfold inV at i2 ⊢
    rw [List.any_cons, i2, flat_eqV f.1 fa h1 r]
    rfl
theorem one_of {y : Str} {c : Nat} (e : y.cps.toList = [c]) : y = ⟨#[c]⟩ := by
  obtain ⟨⟨l⟩⟩ := y
  have : l = [c] := e
  subst this
  rfl
theorem mem_any : ∀ {xs : List D}, a.pure = true → purs xs = true → ((toPys xs).any fun z => PyData.eqv z (toPy a)) = memD a xs
  | [], _, _ => rfl
  | b :: t, h1, h2 => by
    simp only [purs, Bool.and_eq_true] at h2
    show (PyData.eqv (toPy b) (toPy a) || (toPys t).any _) = (deq b a || memD a t)
    rw [toPy_eqv b a h2.1 h1, mem_any h1 h2.2]
theorem in_ok {c : Bool} (neg : Bool) (hu : X.A.units + 64 < cLine) (I : Inv X pins σ H s) (r1 : RelV x v) (r2 : RelV y u) (rs : RSh X.K X.mg ρ H h) (da : Rep X.K X.mg ρ H a x) (db : Rep X.K X.mg ρ H b y) (e : inD a b h = some c) (q : Q (.bl (if neg then !c else c)) H) :
    wpAny (model X.prog X.w) X.A (compareOp (if neg then .NotIn else .In) v u) (EP X pins σ Q) X.xe s := by
  unfold inD at e
  split at e
  · split at e
    · split at e
      · rename_i c1 e0
        cases e
        cases da; cases db
        have e1 := one_of e0
        subst e1
        cases neg with
        | false => exact op_in_sign pins s σ H _ _ v u Q I r1 r2 ⟨_, _, rfl, rfl, q⟩
        | true => exact op_notIn_sign pins s σ H _ _ v u Q I r1 r2 ⟨_, _, rfl, rfl, q⟩
      · cases e
    · cases e
  · split at e
    · rename_i f
      cases e
      rw [Bool.and_eq_true] at f
      obtain ⟨p, vs, e2, sq, rr⟩ := db
      subst e2
      obtain ⟨g1, g2⟩ := mem_inV f.1 da f.2 rr
      cases neg with
      | false => exact op_in_seq pins s σ H _ _ v u Q I r1 r2 ⟨p, vs, rfl, .inr sq, flat_V f.1 da, g1, by rw [g2]; exact q⟩
      | true => exact op_notIn_seq pins s σ H _ _ v u Q I r1 r2 ⟨p, vs, rfl, .inr sq, flat_V f.1 da, g1, by rw [g2]; exact q⟩
    · split at e
      · rename_i f
        cases e
        simp only [Bool.and_eq_true, decide_eq_true_eq] at f
        obtain ⟨⟨c1, c2⟩, c3⟩ := f
        obtain ⟨as, q1⟩ := Dp.reads I _ x v (toPy_dp a x c1 da) r1
        obtain ⟨p, vs, e2, sq, rr⟩ := db
        subst e2
        obtain ⟨bs, q2⟩ := Dp.reads I (.tuple (toPys _)) _ u (.tup sq (toPys_dp _ vs c2 rr)) r2
        have hz : ∀ n : Nat, X.A.units + 1 + min n (toPy a).depth < cLine := fun n => by rw [toPy_dep]; omega
        rw [← mem_any c1 c2] at q
        cases neg with
        | false => exact SeqAt.in_tuple_reads q2 q1 (toPys_lay _ c2) (toPy_lay a c1) (hz _) ⟨.bl _, H, I, rfl, q⟩
        | true => exact SeqAt.notIn_tuple_reads q2 q1 (toPys_lay _ c2) (toPy_lay a c1) (hz _) ⟨.bl _, H, I, rfl, q⟩
      · cases e
  · split at e
    · rename_i e0
      split at e
      · rename_i f
        cases e
        rw [Bool.and_eq_true] at f
        obtain ⟨p, vs, e2, sq, rr⟩ := ls_sq rs db e0
        subst e2
        obtain ⟨g1, g2⟩ := mem_inV f.1 da f.2 rr
        cases neg with
        | false => exact op_in_seq pins s σ H _ _ v u Q I r1 r2 ⟨p, vs, rfl, .inl sq, flat_V f.1 da, g1, by rw [g2]; exact q⟩
        | true => exact op_notIn_seq pins s σ H _ _ v u Q I r1 r2 ⟨p, vs, rfl, .inl sq, flat_V f.1 da, g1, by rw [g2]; exact q⟩
      · split at e
        · rename_i f
          cases e
          simp only [Bool.and_eq_true, decide_eq_true_eq] at f
          obtain ⟨⟨c1, c2⟩, c3⟩ := f
          obtain ⟨as, q1⟩ := Dp.reads I _ x v (toPy_dp a x c1 da) r1
          obtain ⟨p, vs, e2, sq, rr⟩ := ls_sq rs db e0
          subst e2
          obtain ⟨bs, q2⟩ := Dp.reads I (.list (toPys _)) _ u (.lst sq (toPys_dp _ vs c2 rr)) r2
          have hz : ∀ n : Nat, X.A.units + 1 + min n (toPy a).depth < cLine := fun n => by rw [toPy_dep]; omega
          rw [← mem_any c1 c2] at q
          cases neg with
          | false => exact SeqAt.in_list_reads q2 q1 (toPys_lay _ c2) (toPy_lay a c1) (hz _) ⟨.bl _, H, I, rfl, q⟩
          | true => exact SeqAt.notIn_list_reads q2 q1 (toPys_lay _ c2) (toPy_lay a c1) (hz _) ⟨.bl _, H, I, rfl, q⟩
        · cases e
    · cases e
theorem cmp_ok {op : CmpOp} (hu : X.A.units + 64 < cLine) (I : Inv X pins σ H s) (r1 : RelV x v) (r2 : RelV y u) (rs : RSh X.K X.mg ρ H h) (da : Rep X.K X.mg ρ H a x) (db : Rep X.K X.mg ρ H b y) (p : PostE X.K X.mg W ρ H σ Q (cmpD op a b h)) :
    wpAny (model X.prog X.w) X.A (compareOp op v u) (EP X pins σ Q) X.xe s := by
  unfold cmpD at p
  split at p
  · split at p
    · rename_i c
      have fin := p _ _ _ Ext.refl rs rfl
      rw [Bool.or_eq_true] at c
      rcases c with c | c
      · obtain ⟨e1, e2⟩ := sc_rep c da db
        exact op_eq pins s σ H _ _ v u Q I r1 r2 ⟨e1, by rw [e2]; exact fin⟩
      · simp only [Bool.and_eq_true, decide_eq_true_eq] at c
        obtain ⟨⟨c1, c2⟩, c3⟩ := c
        obtain ⟨as, q1⟩ := Dp.reads I _ x v (toPy_dp a x c1 da) r1
        obtain ⟨bs, q2⟩ := Dp.reads I _ y u (toPy_dp b y c2 db) r2
        refine SeqAt.compareEq_reads q1 q2 (toPy_lay a c1) (toPy_lay b c2) (by rw [toPy_dep, toPy_dep]; omega) ⟨.bl _, H, I, rfl, ?_⟩
        rw [toPy_eqv a b c1 c2]
        exact fin
    · exact p.elim
  · split at p
    · rename_i c
      have fin := p _ _ _ Ext.refl rs rfl
      rw [Bool.or_eq_true] at c
      rcases c with c | c
      · obtain ⟨e1, e2⟩ := sc_rep c da db
        exact op_ne pins s σ H _ _ v u Q I r1 r2 ⟨e1, by rw [e2]; exact fin⟩
      · simp only [Bool.and_eq_true, decide_eq_true_eq] at c
        obtain ⟨⟨c1, c2⟩, c3⟩ := c
        obtain ⟨as, q1⟩ := Dp.reads I _ x v (toPy_dp a x c1 da) r1
        obtain ⟨bs, q2⟩ := Dp.reads I _ y u (toPy_dp b y c2 db) r2
        refine SeqAt.compareNe_reads q1 q2 (toPy_lay a c1) (toPy_lay b c2) (by rw [toPy_dep, toPy_dep]; omega) ⟨.bl _, H, I, rfl, ?_⟩
        rw [toPy_eqv a b c1 c2]
        exact fin
    · exact p.elim
  · cases da; cases db
    exact op_lt pins s σ H _ _ v u Q I r1 r2 ⟨_, _, rfl, rfl, p _ _ _ Ext.refl rs rfl⟩
  · cases da; cases db
    exact op_le pins s σ H _ _ v u Q I r1 r2 ⟨_, _, rfl, rfl, p _ _ _ Ext.refl rs rfl⟩
  · cases da; cases db
    exact op_gt pins s σ H _ _ v u Q I r1 r2 ⟨_, _, rfl, rfl, p _ _ _ Ext.refl rs rfl⟩
  · cases da; cases db
    exact op_ge pins s σ H _ _ v u Q I r1 r2 ⟨_, _, rfl, rfl, p _ _ _ Ext.refl rs rfl⟩
  · cases db
    refine op_isN pins s σ H _ _ v u Q I r1 r2 ⟨rfl, ?_⟩
    have fin := p _ _ _ Ext.refl rs rfl
    cases a <;> first | (cases da; exact fin) | (obtain ⟨_, _, e, _⟩ := da; subst e; exact fin) | (obtain ⟨_, _, e⟩ := da; subst e; exact fin)
  · cases db
    refine op_notN pins s σ H _ _ v u Q I r1 r2 ⟨rfl, ?_⟩
    have fin := p _ _ _ Ext.refl rs rfl
    cases a <;> first | (cases da; exact fin) | (obtain ⟨_, _, e, _⟩ := da; subst e; exact fin) | (obtain ⟨_, _, e⟩ := da; subst e; exact fin)
  · split at p
    · rename_i c e
      exact in_ok false hu I r1 r2 rs da db e (p _ _ _ Ext.refl rs rfl)
    · exact p.elim
  · split at p
    · rename_i c e
      exact in_ok true hu I r1 r2 rs da db e (p _ _ _ Ext.refl rs rfl)
    · exact p.elim
  · exact p.elim
end
end Mp

set_option Elab.async false
set_option linter.all false
set_option maxRecDepth 100000
set_option maxHeartbeats 1000000
/-! Mp: places, truth, built-in functions and methods. -/
namespace Mp
open PySem PySem.Spec PyProof.Rows L2

theorem atI_eq {α : Type} (xs : List α) (i : Int) : L2.atI xs i = Mp.atI xs i := rfl
theorem atI_rep {K : PySem.W.Frag} {mg : Mg} {ρ : List Addr} {H : Hp} {xs : List D} {vs : List V} {i : Int} {d : D} (r : Reps K mg ρ H xs vs) (e : Mp.atI xs i = some d) : ∃ v, L2.atI vs i = some v ∧ Rep K mg ρ H d v := by
  unfold Mp.atI at e
  unfold L2.atI
  rw [r.len]
  change (L2.ixN xs.length i).bind _ = _ at e
  cases q : L2.ixN xs.length i with
  | none => rw [q] at e; cases e
  | some j =>
    rw [q] at e
    exact r.get e
/-- what is known of the own classes at all -/
structure ClsF (K : PySem.W.Frag) (gi : GI) (c : Str) (Cl : Addr) : Prop where
  cl : Cls K Cl
  k1 : PySem.W.findIn K (.ref Cl) "__class__" = some (some (.builtin "object.__class__"))
  k2 : PySem.W.specialIn K (.builtin "object.__class__") "__get__" = some (some (.builtin "getset_descriptor.__get__"))
  k3 : PySem.W.takesIn K (.builtin "object.__class__") = some true
  k4 : PySem.W.mroIn K Cl (.type "object") = some true
  k5 : ∀ n, ["NoneType", "bool", "int", "str", "tuple", "list"].contains n = true → PySem.W.kitOne K (.ref Cl) (.type n) = some false ∧ PySem.W.kitOne K (.type n) (.ref Cl) = some false
structure Own (X : Cx) (gi : GI) : Prop where
  cf : ∀ c, gi.own c = true → ∃ Cl, X.mg c = some (.ref Cl) ∧ ClsF X.K gi c Cl
  sub : ∀ d c D' C', gi.own d = true → gi.own c = true → X.mg d = some (.ref D') → X.mg c = some (.ref C') → PySem.W.kitOne X.K (.ref D') (.ref C') = some (gi.sub d c)

section
variable {X : Cx} {W : WX} {pins : List (Addr × Obj)} {σ : L2.St} {s : Shared} {H : Hp} {Q : VK} {ρ : List Addr} {h : HD} {a b : D} {x y : V} {v u : Value} {gi : GI}
theorem ix_ok {value slice : PySem.Expr} (I : Inv X pins σ H s) (r1 : RelV x v) (r2 : RelV y u) (rs : RSh X.K X.mg ρ H h) (da : Rep X.K X.mg ρ H a x) (db : Rep X.K X.mg ρ H b y) (p : PostE X.K X.mg W ρ H σ Q (ixD a b h))
    (hs : subscripted slice false v u = operate [v, u] (getItem v u)) : wpAny (model X.prog X.w) X.A (subscriptTail value slice v u) (EP X pins σ Q) X.xe s := by
  unfold ixD at p
  split at p
  · split at p
    · rename_i e
      obtain ⟨pa, vs, e1, sq, r⟩ := da
      subst e1
      cases db
      obtain ⟨w, e2, r3⟩ := atI_rep r e
      exact ix_tup value slice pins s σ H _ _ v u Q I r1 r2 ⟨pa, vs, _, w, rfl, rfl, sq, e2, p _ _ _ Ext.refl rs r3⟩ hs
    · exact p.elim
  · split at p
    · rename_i e
      split at p
      · rename_i hz
        cases da; cases db
        exact ix_str value slice pins s σ H _ _ v u Q I r1 r2 ⟨_, _, _, rfl, rfl, cap_le hz, e, p _ _ _ Ext.refl rs rfl⟩ hs
      · exact p.elim
    · exact p.elim
  · split at p
    · rename_i e0
      split at p
      · rename_i e
        obtain ⟨pa, vs, e2, sq, r⟩ := ls_sq rs da e0
        subst e2
        cases db
        obtain ⟨w, e3, r3⟩ := atI_rep r e
        exact ix_list value slice pins s σ H _ _ v u Q I r1 r2 ⟨pa, vs, _, w, rfl, rfl, sq, e3, p _ _ _ Ext.refl rs r3⟩ hs
      · exact p.elim
    · exact p.elim
  · exact p.elim
theorem Reps.isEmpty {K : PySem.W.Frag} {mg : Mg} {xs : List D} {vs : List V} (r : Reps K mg ρ H xs vs) : vs.isEmpty = xs.isEmpty := by
  have := r.len
  cases xs <;> cases vs <;> first | rfl | (simp at this)
/-- a value's truth -/
theorem tru_of {K : PySem.W.Frag} {mg : Mg} {c : Bool} (rs : RSh K mg ρ H h) (da : Rep K mg ρ H a x) (e : truth a h = some c) : TruV K x H c := by
  cases a with
  | non => cases da; cases e; rfl
  | bl b => cases da; cases e; rfl
  | int i =>
    cases da; cases e
    show _ = (i != 0)
    by_cases z : i = 0 <;> simp [z, bne]
  | str z =>
    cases da
    simp only [truth] at e
    split at e <;> cases e
    refine ⟨cap_le (by assumption), ?_⟩
    by_cases q : z.length = 0 <;> simp [q, bne]
  | tup xs =>
    obtain ⟨p, vs, e1, sq, r⟩ := da
    subst e1
    cases e
    exact .inr (.inl ⟨vs, sq, by rw [r.isEmpty]⟩)
  | ref i =>
    have key : ∀ xs, lstOf h i = some xs → c = !xs.isEmpty → TruV K x H c := fun xs e0 ec => by
      obtain ⟨p, vs, e1, sq, r⟩ := lst_sq rs e0
      have e2 := ref_at da e1
      subst e2
      exact .inl ⟨vs, sq, by rw [r.isEmpty]; exact ec⟩
    simp only [truth] at e
    split at e <;> cases e
    · rename_i e0
      exact key _ (by unfold lstOf; rw [e0]) rfl
  | kls xs =>
    obtain ⟨p, vs, e1, sq, r⟩ := da
    subst e1
    cases e
    exact .inl ⟨vs, sq.sq, by rw [r.isEmpty]⟩
  | gl _ => cases e
  | ty _ => cases e
theorem truthy_ok {c : Bool} {Q : Bool → Hp → Prop} (I : Inv X pins σ H s) (r1 : RelV x v) (rs : RSh X.K X.mg ρ H h) (da : Rep X.K X.mg ρ H a x) (e : truth a h = some c) (q : Q c H) : wpAny (model X.prog X.w) X.A (truthy v) (TP X pins σ Q) X.xe s :=
  tru_ok pins s σ H x v Q I r1 ⟨c, tru_of rs da e, q⟩
/-- a slice, by the places as ints -/
theorem clip_eq (n d : Nat) (o : Option Int) : HT.sIx n d o = clip n d o := by
  cases o <;> rfl
theorem sl_ok (lo hi : Option Int) : SlR X (fun x l u H Q => ∃ ρ a h, l = lo ∧ u = hi ∧ RSh X.K X.mg ρ H h ∧ Rep X.K X.mg ρ H a x ∧ PostE X.K X.mg W ρ H [] Q (slD a lo hi h)) := by
  intro pins s σ H x v vl vu l u sl Q I rx hs pl pu ⟨ρ, a, h, e1, e2, rs, da, p⟩
  subst e1 e2
  unfold slD at p
  split at p
  · split at p
    · rename_i z hz
      cases da
      refine sl_str pins s σ H _ v vl vu l u sl Q I rx hs pl pu ⟨z, rfl, cap_le hz, ?_⟩
      have fin := p _ _ _ Ext.refl rs rfl
      have e : cutS z l u = sOf (cut z.cps.toList l u) := by
        unfold cutS sOf cut
        have : z.length = z.cps.toList.length := by simp [Str.length]
        rw [this, clip_eq, clip_eq]
      rw [e]
      exact fin
    · exact p.elim
  · split at p
    · rename_i xs0 e0
      obtain ⟨pa, vs, e2, sq, r⟩ := ls_sq rs da e0
      subst e2
      refine sl_list pins s σ H _ v vl vu l u sl Q I rx hs pl pu ⟨pa, vs, rfl, sq, fun q nq => ?_⟩
      have rc : Reps X.K X.mg ρ H (cut xs0 l u) (cutV vs l u) := by
        unfold cutV cut
        rw [clip_eq, clip_eq, r.len]
        exact (r.drop _).take _
      obtain ⟨s2, r3⟩ := new_lst rs rc nq
      exact p _ _ _ (Ext.new nq) s2 r3
    · exact p.elim

/-- the value of a built-in function's or type's name -/
def B.val : B → Value
  | .len => .builtin "len" | .int => .type "int" | .bool => .type "bool" | .str => .type "str" | .isi => .builtin "isinstance" | .abs => .builtin "abs" | .min => .builtin "min" | .max => .builtin "max"
theorem B.boot : ∀ b : B, bootBuiltins (b.nm : Str) = some b.val
  | .len => by decide +kernel
  | .int => by decide +kernel
  | .bool => by decide +kernel
  | .str => by decide +kernel
  | .isi => by decide +kernel
  | .abs => by decide +kernel
  | .min => by decide +kernel
  | .max => by decide +kernel
theorem kit_tyB : ∀ a ∈ ["NoneType", "bool", "int", "str", "tuple", "list"], ∀ n ∈ ["NoneType", "bool", "int", "str", "tuple", "list"], kitB a n = some (a == n || (a == "bool" && n == "int")) := by decide +kernel
theorem kB_ok {K : PySem.W.Frag} {a n : String} {c : Bool} (ha : a ∈ ["NoneType", "bool", "int", "str", "tuple", "list"]) (e : kB a n = some c) : PySem.W.kitOne K (.type a) (.type n) = some c := by
  unfold kB at e
  split at e
  · rename_i hn
    cases e
    exact kit_ty (kit_tyB a ha n (List.contains_iff_mem.mp hn))
  · cases e
theorem sqT_ty {K : PySem.W.Frag} {p : Addr} {vs : List V} (sq : SqT K H p vs) : TyX K H (.ref p) (.type "tuple") := by
  rcases sq with (sq | ⟨o, sq⟩) | ⟨o, its, n, q1, q2, _⟩
  · exact .base (.tup sq)
  · exact .fTuple sq
  · exact .kTuple q1 q2
theorem sqL_ty {i : Nat} {xs : List D} {K : PySem.W.Frag} {mg : Mg} (rs : RSh K mg ρ H h) (da : Rep K mg ρ H (.ref i) x) (e : lstOf h i = some xs) : TyX K H x (.type "list") := by
  unfold lstOf at e
  split at e <;> cases e
  · obtain ⟨p, e1, _, vs, e2, r⟩ := rs.at_ (by assumption)
    have := ref_at da e1
    subst this
    exact .base (.lst e2)
theorem sqC_ty {p : Addr} {vs : List V} {K : PySem.W.Frag} (sq : SqC K H p vs) : TyX K H (.ref p) (.type "list") := by
  rcases sq with ⟨o, sq⟩ | ⟨o, its, n, q1, q2, _⟩
  · exact .base (.frz sq)
  · exact .kList q1 q2
theorem ins_ty {i : Nat} {c : Str} {fs : List (Str × D)} {X : Cx} (O : Own X gi) (ho : gi.own c = true) (rs : RSh X.K X.mg ρ H h) (da : Rep X.K X.mg ρ H (.ref i) x) (e : h[i]? = some (.ins c fs)) :
    ∃ p Cl dx gs, x = .ref p ∧ ρ[i]? = some p ∧ X.mg c = some (.ref Cl) ∧ ClsF X.K gi c Cl ∧ H p = some (.ins Cl dx gs) ∧ FsR X.K X.mg ρ H fs gs ∧ TyX X.K H x (.ref Cl) := by
  obtain ⟨p, e1, _, Cl, dx, gs, m, e2, r⟩ := rs.at_ e
  have := ref_at da e1
  subst this
  obtain ⟨Cl', m', F⟩ := O.cf c ho
  rw [m] at m'
  cases m'
  exact ⟨p, Cl, dx, gs, rfl, e1, m, F, e2, r, .base (.ins e2 F.cl F.k1 F.k2 F.k3 F.k4)⟩
theorem isTy_ok {n : String} {c : Bool} (O : Own X gi) (rs : RSh X.K X.mg ρ H h) (da : Rep X.K X.mg ρ H a x) (e : isTy gi n a h = some c) : ∃ t, TyX X.K H x t ∧ PySem.W.kitOne X.K t (.type n) = some c := by
  unfold isTy at e
  split at e
  · cases da; exact ⟨_, .base .non, kB_ok (by decide) e⟩
  · cases da; exact ⟨_, .base (.bl _), kB_ok (by decide) e⟩
  · cases da; exact ⟨_, .base (.int _), kB_ok (by decide) e⟩
  · cases da; exact ⟨_, .base (.str _), kB_ok (by decide) e⟩
  · obtain ⟨p, vs, e1, sq, r⟩ := da
    subst e1
    exact ⟨_, sqT_ty sq, kB_ok (by decide) e⟩
  · obtain ⟨p, vs, e1, sq, r⟩ := da
    subst e1
    exact ⟨_, sqC_ty sq, kB_ok (by decide) e⟩
  · split at e
    · rename_i e0
      exact ⟨_, sqL_ty rs da (by unfold lstOf; rw [e0]), kB_ok (by decide) e⟩
    · rename_i e0
      split at e
      · rename_i hc
        cases e
        rw [Bool.and_eq_true] at hc
        obtain ⟨p, Cl, dx, gs, _, _, _, F, _, _, ty⟩ := ins_ty O hc.1 rs da e0
        exact ⟨_, ty, (F.k5 n hc.2).1⟩
      · cases e
    · cases e
  · cases e
theorem isGl_ok {q : Str} {c : Bool} {Cq : Addr} (O : Own X gi) (rs : RSh X.K X.mg ρ H h) (da : Rep X.K X.mg ρ H a x) (hq : X.mg q = some (.ref Cq)) (e : isGl gi q a h = some c) : ∃ t, TyX X.K H x t ∧ PySem.W.kitOne X.K t (.ref Cq) = some c := by
  unfold isGl at e
  split at e
  · rename_i ho
    obtain ⟨Cl, m, F⟩ := O.cf q ho
    rw [hq] at m
    cases m
    split at e
    · cases e; cases da; exact ⟨_, .base .non, (F.k5 _ (by decide)).2⟩
    · cases e; cases da; exact ⟨_, .base (.bl _), (F.k5 _ (by decide)).2⟩
    · cases e; cases da; exact ⟨_, .base (.int _), (F.k5 _ (by decide)).2⟩
    · cases e; cases da; exact ⟨_, .base (.str _), (F.k5 _ (by decide)).2⟩
    · cases e
      obtain ⟨p, vs, e1, sq, r⟩ := da
      subst e1
      exact ⟨_, sqT_ty sq, (F.k5 _ (by decide)).2⟩
    · cases e
      obtain ⟨p, vs, e1, sq, r⟩ := da
      subst e1
      exact ⟨_, sqC_ty sq, (F.k5 _ (by decide)).2⟩
    · split at e
      · rename_i e0
        cases e
        exact ⟨_, sqL_ty rs da (by unfold lstOf; rw [e0]), (F.k5 _ (by decide)).2⟩
      · rename_i d _ e0
        split at e
        · rename_i hd
          cases e
          obtain ⟨p, Cl, dx, gs, _, _, m2, _, _, _, ty⟩ := ins_ty O hd rs da e0
          exact ⟨_, ty, O.sub d q _ _ hd ho m2 hq⟩
        · cases e
      · cases e
    · cases e
  · cases e
end
end Mp

set_option Elab.async false
set_option linter.all false
set_option maxRecDepth 100000
set_option maxHeartbeats 1000000
/-! Mp: calls, attributes, special methods. -/
namespace Mp
open PySem PySem.Spec PyProof.Rows L2

/-- a dict of the module -/
def DicF (K : PySem.W.Frag) (w : World) (mg : Mg) (x : Str) (kvs : List (Str × D)) : Prop := ∃ (a : Addr) (es : Array DictEntry) (n : Nat), mg x = some (.ref a) ∧ KDict K w a es n ∧ (∀ k, kvs.lookup k = none → PySem.W.nsIn K a k = some none) ∧
  ∀ k d, kvs.lookup k = some d → ∃ u v, PySem.W.nsIn K a k = some (some u) ∧ RelV v u ∧ ∀ ρ H, Rep K mg ρ H d v
/-- an own exception class without an __init__ of its own -/
structure ExnF (K : PySem.W.Frag) (mg : Mg) (c : Str) (C : Addr) : Prop where
  m : mg c = some (.ref C)
  q : PySem.W.excIn K C PySem.HandSPX.veTail "ValueError.__new__" = true
  kp : PySem.W.keepIn K (.ref C) = true
  b : PySem.W.subIn K (.ref C) (.type "BaseException") = some true
  t : PySem.W.typeIn K (.ref C) = some (.type "type")
/-- one exception class beside another: what isinstance and an except clause say -/
structure ExsF (K : PySem.W.Frag) (mg : Mg) (d c : Str) (b : Bool) (D : Addr) (u : Value) : Prop where
  m : mg d = some (.ref D)
  n : mg c = some u ∨ (mg c = none ∧ bootBuiltins c = some u ∧ c ≠ "__name__")
  k : PySem.W.kitOne K (.ref D) u = some b
  x : PySem.W.exmOne K (.ref D) u = some b
  e : ExcC K D
def MkOk (X : Cx) (C : Cal) (lv : Nat) (Cl : Addr) (m : Str) : Mk → Prop
  | .fld => NoAttr X.K Cl m
  | .fn q => ∃ f, Meth X.K Cl m f ∧ PySem.W.isFn X.K (.ref f) = true ∧ PySem.W.fnIn X.K f = true ∧ CalOk X.prog X.w X.K X.mg X.base C lv q f
  | .cm q => ∃ p g, ClX.CRead X.K Cl (.type "type") ∧ ClX.CMet X.K Cl (.type "type") m p g ∧ CalOk X.prog X.w X.K X.mg X.base C lv q g
  | .prop q => ∃ p g, PropOf X.K Cl m p g ∧ CalOk X.prog X.w X.K X.mg X.base C lv q g
  | .con d => ∃ v u, Con X.K Cl m v u ∧ ∀ ρ H, Rep X.K X.mg ρ H d v
/-- what is known of the text -/
structure Txt2 (X : Cx) (gi : GI) (C : Cal) (lv : Nat) : Prop where
  own : Own X gi
  gfn : ∀ c, gi.fn c = true → ∃ f, X.mg c = some (.ref f) ∧ PySem.W.keepIn X.K (.ref f) = true ∧ CalOk X.prog X.w X.K X.mg X.base C lv c f
  ini : ∀ c q Cl, gi.own c = true → gi.init c = some q → X.mg c = some (.ref Cl) → ∃ f, L2.Mk X.K Cl f ∧ CalOk X.prog X.w X.K X.mg X.base C lv q f
  at_ : ∀ c m k Cl, gi.own c = true → gi.at_ c m = some k → X.mg c = some (.ref Cl) → MkOk X C lv Cl m k
  nf : ∀ c d C' D', gi.own c = true → gi.own d = true → X.mg c = some (.ref C') → X.mg d = some (.ref D') → (d = c ∨ gi.sub d c = false) → PySem.W.notFirst X.K C' (.ref D') = true
  nfb : ∀ c C', gi.own c = true → X.mg c = some (.ref C') → ∀ n ∈ ["NoneType", "bool", "int", "str", "tuple", "list"], PySem.W.notFirst X.K C' (.type n) = true
  hd : ∀ c C', gi.own c = true → X.mg c = some (.ref C') → PySem.W.plainGet X.K C' Str.empty = true
  sf : ∀ c C', gi.own c = true → X.mg c = some (.ref C') → PySem.W.selfFirst X.K C' = true
  dic : ∀ x kvs, gi.dic x = some kvs → DicF X.K X.w X.mg x kvs
  exn : ∀ c, gi.exn c = some [] → ∃ C, ExnF X.K X.mg c C
  exs : ∀ d c b, gi.exs d c = some b → ∃ D u, ExsF X.K X.mg d c b D u

section
variable {X : Cx} {W : WX} {pins : List (Addr × Obj)} {σ : L2.St} {s : Shared} {H : Hp} {Q : VK} {ρ : List Addr} {h : HD} {a b : D} {x y : V} {v u : Value} {gi : GI} {C : Cal} {lv : Nat}
theorem noex_post {α β : Type} {K : PySem.W.Frag} {mg : Mg} {RR : List Addr → Hp → α → β → Prop} {Q : β → Hp → Prop} {W W' : WX} {σ σ' : L2.St} {r : R α} (p : Post K mg RR W ρ H σ Q r.noex) : Post K mg RR W' ρ H σ' Q r := by
  cases r with
  | ok d h => exact p
  | ex e h => exact p.elim
  | bad => exact p
/-- a def called in a place of one's own: no exception -/
theorem code_noex {A : Around} {E : Value → Shared → Prop} {q : Str} {f : Addr} {us : List Value} {vs : List V} {ds : List D} {Q' : Value → Shared → Prop} (hc : CalOk X.prog X.w X.K X.mg X.base C lv q f) (hr : Room lv A) (hf : A.frames = some X.stack) (I : Inv X pins σ H s) (r : Vals vs us)
    (rs : RSh X.K X.mg ρ H h) (rd : Reps X.K X.mg ρ H ds vs) (p : PostE X.K X.mg (fun _ _ _ _ => False) ρ H [] Q (C q ds h)) (fin : ∀ v s', EP X pins σ Q v s' → Q' v s') : wpAny (model X.prog X.w) A (call (.ref f) us) Q' E s := by
  have e0 : Env0 X.prog X.w X.K X.mg X.base A X.stack s H := by
    have e := I.env0
    exact ⟨hf, e.mod, e.bs, e.bsz, e.funs, e.frf, e.hok, e.bare⟩
  refine wpAny_call (codeAny_mono (hc A X.stack s H us vs Q (fun _ _ _ => False) ρ ds h hr e0 r rs rd p) fun r s' hq => ?_)
  cases r with
  | error e => obtain ⟨_, _, _, _, _, _, _, _, _, _, _, _, z⟩ := hq; exact z.elim
  | ok fl =>
    cases fl with
    | ret u => exact fin _ _ (I.after hq)
    | next => exact False.elim hq
    | brk => exact False.elim hq
    | cont => exact False.elim hq
/-- a new instance -/
theorem make_ok {q : Str} {f Cl : Addr} {c : Str} {us : List Value} {vs : List V} {ds : List D} (M : L2.Mk X.K Cl f) (hc : CalOk X.prog X.w X.K X.mg X.base C lv q f) (hr : Room (lv + 1) X.A) (tk : Takes X W) (hm : X.mg c = some (.ref Cl)) (I : Inv X pins σ H s) (r : Vals vs us)
    (rs : RSh X.K X.mg ρ H h) (rd : Reps X.K X.mg ρ H ds vs) (hi : gi.init c = some q) (p : PostE X.K X.mg W ρ H σ Q (mkD gi C c ds h)) : wpAny (model X.prog X.w) X.A (call (.ref Cl) us) (EP X pins σ Q) X.xe s := by
  unfold mkD at p
  rw [hi] at p
  have I2 := Inv.made (C := Cl) I
  have n1 : H (s.heap.objs.size + 1) = none := I.hok.fresh (Nat.le_succ _)
  have n2 : H s.heap.objs.size = none := I.hok.fresh (Nat.le_refl _)
  have n3 : upd H s.heap.objs.size (.own (s.heap.objs.size + 1)) (s.heap.objs.size + 1) = none := by
    rw [upd_ne (Nat.ne_of_gt (Nat.lt_succ_self _))]; exact n1
  have e1 := (Ext.laid (ρ := ρ) (o := .own (s.heap.objs.size + 1)) n2).trans (Ext.new (ρ := ρ) (o := .ins Cl s.heap.objs.size []) n3)
  have s1 := (rs.laid (o := .own (s.heap.objs.size + 1)) n2).new (o := .ins Cl s.heap.objs.size []) (u := .ins c []) n3 ⟨Cl, _, [], hm, upd_same, rfl⟩
  have r2 : Vals (V.ref (s.heap.objs.size + 1) :: vs) (Value.ref (s.heap.objs.size + 1) :: us) := .cons rfl r
  have rd2 : Reps X.K X.mg (ρ ++ [s.heap.objs.size + 1]) (upd (upd H s.heap.objs.size (.own (s.heap.objs.size + 1))) (s.heap.objs.size + 1) (.ins Cl s.heap.objs.size [])) (.ref h.length :: ds) (V.ref (s.heap.objs.size + 1) :: vs) :=
    ⟨_, _, rfl, ⟨_, new_at rs _, rfl⟩, rd.ext e1⟩
  have p2 := (Post.from e1 p).bind (RR := Rep X.K X.mg) (Q' := fun v H2 => v = .non ∧ Q (.ref (s.heap.objs.size + 1)) H2) fun ρ1 H1 d h1 x e2 s2 r3 p3 => by
    cases d with
    | non =>
      cases r3
      exact ⟨rfl, p3 ρ1 H1 _ Ext.refl s2 ⟨_, e2.pre _ _ (new_at rs _), rfl⟩⟩
    | _ => exact p3.elim
  refine wpAny_call (make_map (f := f) I.kIn M.makes M.init (beq_iff_eq.mp M.fn) (codeAny_mono (hc _ X.stack _ _ (Value.ref (s.heap.objs.size + 1) :: us) _ _ (WE W σ) _ _ _ (hr.make Cl us [])
    (I2.env0.make Cl us []) r2 s1 rd2 (PostE.toX p2)) fun r s' hq' => ?_))
  cases r with
  | error e => exact passAt tk σ pins _ _ e s' I2 hq'
  | ok fl =>
    cases fl with
    | ret u =>
      obtain ⟨v, H', I3, rv, ev, q3⟩ := I2.after hq'
      subst ev
      exact ⟨rv, ⟨V.ref (s.heap.objs.size + 1), H', I3, rfl, q3⟩⟩
    | next => exact False.elim hq'
    | brk => exact False.elim hq'
    | cont => exact False.elim hq'
theorem callD_keep (T : Txt2 X gi C lv) {c : Str} (p : canCall gi (.gl c) = true) : ∃ f, X.mg c = some (.ref f) ∧ PySem.W.keepIn X.K (.ref f) = true := by
  unfold canCall at p
  dsimp only at p
  split at p
  · rename_i ho
    obtain ⟨q, e⟩ := Option.isSome_iff_exists.mp p
    obtain ⟨Cl, m, F⟩ := T.own.cf c ho
    obtain ⟨f, M, _⟩ := T.ini c _ Cl ho e m
    exact ⟨Cl, m, M.kp⟩
  · obtain ⟨f, m, k, _⟩ := T.gfn c p
    exact ⟨f, m, k⟩
theorem callD_ok (T : Txt2 X gi C lv) {c : Str} {f : Addr} {us : List Value} {vs : List V} {ds : List D} (hr : Room (lv + 1) X.A) (tk : Takes X W) (hm : X.mg c = some (.ref f)) (I : Inv X pins σ H s) (r : Vals vs us)
    (rs : RSh X.K X.mg ρ H h) (rd : Reps X.K X.mg ρ H ds vs) (p : PostE X.K X.mg W ρ H σ Q (callD gi C (.gl c) ds h)) : wpAny (model X.prog X.w) X.A (call (.ref f) us) (EP X pins σ Q) X.xe s := by
  unfold callD at p
  dsimp only at p
  split at p
  · rename_i ho
    have p0 := p
    unfold mkD at p
    split at p
    · rename_i e
      obtain ⟨g, M, ck⟩ := T.ini c _ f ho e hm
      exact make_ok M ck hr tk hm I r rs rd e p0
    · exact p.elim
  · split at p
    · rename_i hf
      obtain ⟨g, m, k, ck⟩ := T.gfn c hf
      rw [hm] at m
      cases m
      exact call_ok ck (hr.mono (Nat.le_succ _)) tk I r rs rd p
    · exact p.elim
end
end Mp

set_option Elab.async false
set_option linter.all false
set_option maxRecDepth 100000
set_option maxHeartbeats 1000000
/-! Mp: expressions, one by one. -/
namespace Mp
open PySem PySem.Spec PyProof.Rows L2
open PySem (Expr)

abbrev EX (X : Cx) (W : WX) (gi : GI) (C : Cal) (e : Expr) (a : E) : Prop := PE X e (tD X.K X.mg W (evE gi C a))
abbrev AX (X : Cx) (W : WX) (gi : GI) (C : Cal) (es : List Expr) (as : List E) : Prop := PA X es (tA X.K X.mg W (evEs gi C as))
/-- the end of a test -/
noncomputable abbrev evB (gi : GI) (C : Cal) (a : E) (v : Ev) (h : HD) : R Bool := asB (evE gi C a v h)
abbrev TX (X : Cx) (W : WX) (gi : GI) (C : Cal) (e : Expr) (a : E) : Prop := PT X e (tT X.K X.mg W (evB gi C a))

section
variable {X : Cx} {W : WX} {gi : GI} {C : Cal} {lv : Nat} {pins : List (Addr × Obj)} {σ : L2.St} {s : Shared} {H : Hp} {Q : VK} {ρ : List Addr} {h : HD} {v : Ev} {ea eb ec : Expr} {a b c : E} {pos : Pos}
theorem bind_assoc {α β γ : Type} (m : R α) (f : α → HD → R β) (g : β → HD → R γ) : (m.bind f).bind g = m.bind fun a h => (f a h).bind g := by
  cases m <;> rfl
theorem evEs_one (f : List D → HD → R D) : (evEs gi C [a] v h).bind f = (evE gi C a v h).bind fun x h => f [x] h := by
  simp only [evEs, bind_assoc, bind_ok]
theorem evEs_two (f : List D → HD → R D) : (evEs gi C [a, b] v h).bind f = (evE gi C a v h).bind fun x h => (evE gi C b v h).bind fun y h => f [x, y] h := by
  simp only [evEs, bind_assoc, bind_ok]
theorem evEs_three (f : List D → HD → R D) : (evEs gi C [a, b, c] v h).bind f = (evE gi C a v h).bind fun x h => (evE gi C b v h).bind fun y h => (evE gi C c v h).bind fun z h => f [x, y, z] h := by
  simp only [evEs, bind_assoc, bind_ok]
/-- two expressions, one after the other -/
theorem run2 {γ δ : Type} {RR : List Addr → Hp → γ → δ → Prop} {Q : δ → Hp → Prop} (ha : EX X W gi C ea a) (hb : EX X W gi C eb b) (I : Inv X pins σ H s) (rs : RSh X.K X.mg ρ H h) (er : EvR X.K X.mg ρ H v σ) {f : D → D → HD → R γ} (p : Post X.K X.mg RR W ρ H σ Q ((evE gi C a v h).bind fun x h => (evE gi C b v h).bind fun y h => f x y h))
    {α : Type} {Q' : α → Shared → Prop} {g : Value → Value → Sem α}
    (hf : ∀ (u w : Value) s2 x y ρ2 H2 d1 d2 h2, Inv X pins σ H2 s2 → RelV x u → RelV y w → Ext ρ H ρ2 H2 → RSh X.K X.mg ρ2 H2 h2 → EvR X.K X.mg ρ2 H2 v σ → Rep X.K X.mg ρ2 H2 d1 x → Rep X.K X.mg ρ2 H2 d2 y → Post X.K X.mg RR W ρ2 H2 σ Q (f d1 d2 h2) → wpAny (model X.prog X.w) X.A (g u w) Q' X.xe s2) :
    wpAny (model X.prog X.w) X.A (eval ea X.env) (fun u s₁ => wpAny (model X.prog X.w) X.A (eval eb X.env) (fun w s₂ => wpAny (model X.prog X.w) X.A (g u w) Q' X.xe s₂) X.xe s₁) X.xe s := by
  refine thn (ha.run pins s σ H (fun x H1 => ∃ ρ1 d1 h1, Ext ρ H ρ1 H1 ∧ RSh X.K X.mg ρ1 H1 h1 ∧ Rep X.K X.mg ρ1 H1 d1 x ∧ Post X.K X.mg RR W ρ1 H1 σ Q ((evE gi C b v h1).bind fun y h => f d1 y h)) I ⟨ρ, v, h, rs, er, p.bind fun ρ1 H1 d h1 x e1 s1 r1 p1 => ⟨ρ1, d, h1, e1, s1, r1, p1⟩⟩) fun u s1 ⟨x, H1, I1, rx, ρ1, d1, h1, e1, rs1, r1, p1⟩ => ?_
  refine thn (hb.run pins s1 σ H1 (fun y H2 => ∃ ρ2 d2 h2, Ext ρ1 H1 ρ2 H2 ∧ RSh X.K X.mg ρ2 H2 h2 ∧ Rep X.K X.mg ρ2 H2 d2 y ∧ Post X.K X.mg RR W ρ2 H2 σ Q (f d1 d2 h2)) I1 ⟨ρ1, v, h1, rs1, er.ext e1, p1.bind fun ρ2 H2 d h2 x e2 s2 r2 p2 => ⟨ρ2, d, h2, e2, s2, r2, p2⟩⟩) fun w s2 ⟨y, H2, I2, ry, ρ2, d2, h2, e2, rs2, r2, p2⟩ => ?_
  exact hf u w s2 x y ρ2 H2 d1 d2 h2 I2 rx ry (e1.trans e2) rs2 (er.ext (e1.trans e2)) (r1.ext e2) r2 p2
theorem run1 {γ δ : Type} {RR : List Addr → Hp → γ → δ → Prop} {Q : δ → Hp → Prop} (ha : EX X W gi C ea a) (I : Inv X pins σ H s) (rs : RSh X.K X.mg ρ H h) (er : EvR X.K X.mg ρ H v σ) {f : D → HD → R γ} (p : Post X.K X.mg RR W ρ H σ Q ((evE gi C a v h).bind f))
    {Q' : Value → Shared → Prop}
    (hf : ∀ (u : Value) s1 x ρ1 H1 d1 h1, Inv X pins σ H1 s1 → RelV x u → Ext ρ H ρ1 H1 → RSh X.K X.mg ρ1 H1 h1 → EvR X.K X.mg ρ1 H1 v σ → Rep X.K X.mg ρ1 H1 d1 x → Post X.K X.mg RR W ρ1 H1 σ Q (f d1 h1) → Q' u s1) :
    wpAny (model X.prog X.w) X.A (eval ea X.env) Q' X.xe s := by
  refine thn (ha.run pins s σ H (fun x H1 => ∃ ρ1 d1 h1, Ext ρ H ρ1 H1 ∧ RSh X.K X.mg ρ1 H1 h1 ∧ Rep X.K X.mg ρ1 H1 d1 x ∧ Post X.K X.mg RR W ρ1 H1 σ Q (f d1 h1)) I ⟨ρ, v, h, rs, er, p.bind fun ρ1 H1 d h1 x e1 s1 r1 p1 => ⟨ρ1, d, h1, e1, s1, r1, p1⟩⟩) fun u s1 ⟨x, H1, I1, rx, ρ1, d1, h1, e1, rs1, r1, p1⟩ => ?_
  exact hf u s1 x ρ1 H1 d1 h1 I1 rx e1 rs1 (er.ext e1) r1 p1

theorem s_tup {es : List Expr} {as : List E} {k : Nat} (ha : AX X W gi C es as) : EX X W gi C (.Tuple es k pos) (.prim .tup as) := by
  refine PE.wk (pe_tup ha) fun σ H Q ⟨ρ, v, h, rs, er, p⟩ => ?_
  simp only [evE] at p
  refine ⟨ρ, v, h, rs, er, p.bind fun ρ1 H1 ds h1 xs e1 s1 r1 p1 => ?_⟩
  simp only [prD] at p1
  split at p1
  · rename_i hz
    refine ⟨by rw [r1.len]; exact cap_le hz, fun q nq => p1 _ _ _ (Ext.laid nq) (s1.laid nq) ⟨q, xs, rfl, SqT.of upd_same, r1.ext (Ext.laid nq)⟩⟩
  · exact p1.elim
theorem s_lst {es : List Expr} {as : List E} (ha : AX X W gi C es as) : EX X W gi C (.List es pos) (.prim .lst as) := by
  refine PE.wk (pe_lst ha) fun σ H Q ⟨ρ, v, h, rs, er, p⟩ => ?_
  simp only [evE] at p
  refine ⟨ρ, v, h, rs, er, p.bind fun ρ1 H1 ds h1 xs e1 s1 r1 p1 => ?_⟩
  simp only [prD] at p1
  split at p1
  · rename_i hz
    refine ⟨by rw [r1.len]; exact cap_le hz, fun q nq => ?_⟩
    obtain ⟨s2, r3⟩ := new_lst s1 r1 nq
    exact p1 _ _ _ (Ext.new nq) s2 r3
  · exact p1.elim
theorem clsOf_ins {d : D} {c : Str} {fs : List (Str × D)} (e : clsOf d h = some (c, fs)) : ∃ i, d = .ref i ∧ h[i]? = some (.ins c fs) := by
  unfold clsOf at e
  split at e
  · split at e
    · cases e
      exact ⟨_, rfl, by assumption⟩
    · cases e
  · cases e
theorem looks_at {M : Model} {a : Addr} {o : Obj} {T : String} {h : Heap} (e : h.get? a = some o) (c : o.cls = .type T) : PySem.W.Looks M h (typeOf (.ref a)) (.type T) := fun A Q E s k q => wpAny_typeOf_ref (k _ _ e) (by rw [c]; exact q)
/-- what stands right of an own == -/
theorem right_ty {d1 d2 : D} {c : Str} {Cl : Addr} {fs : List (Str × D)} {y : V} {w : Value} (T : Txt2 X gi C lv) (ec : clsOf d1 h = some (c, fs)) (ho : gi.own c = true) (m : X.mg c = some (.ref Cl)) (I : Inv X pins σ H s) (r2 : RelV y w) (rs : RSh X.K X.mg ρ H h) (db : Rep X.K X.mg ρ H d2 y) (hok : cmpOk gi d1 d2 h = true) :
    ∃ tb, PySem.W.Looks (model X.prog X.w) s.heap (typeOf w) tb ∧ PySem.W.notFirst X.K Cl tb = true := by
  unfold cmpOk at hok
  rw [ec] at hok
  dsimp only at hok
  split at hok
  · cases db; cases r2; exact ⟨_, .of_pure rfl, T.nfb c Cl ho m _ (by decide)⟩
  · cases db; cases r2; exact ⟨_, .of_pure rfl, T.nfb c Cl ho m _ (by decide)⟩
  · cases db; obtain ⟨t, rfl⟩ := r2; exact ⟨_, .of_pure rfl, T.nfb c Cl ho m _ (by decide)⟩
  · cases db; obtain ⟨t, rfl⟩ := r2; exact ⟨_, .of_pure rfl, T.nfb c Cl ho m _ (by decide)⟩
  · obtain ⟨p, vs, e1, sq, r⟩ := db
    subst e1
    cases r2
    obtain ⟨its, _, ⟨o, ho', hc, _⟩, _⟩ := I.tuple sq
    exact ⟨_, looks_at ho' hc, T.nfb c Cl ho m _ (by decide)⟩
  · obtain ⟨p, vs, e1, sq, r⟩ := db
    subst e1
    cases r2
    obtain ⟨its, _, ⟨o, n, ho', hc, _⟩, _⟩ := I.list sq.sq
    exact ⟨_, looks_at ho' hc, T.nfb c Cl ho m _ (by decide)⟩
  · rename_i j
    have key : ∀ xs, lstOf h j = some xs → ∃ tb, PySem.W.Looks (model X.prog X.w) s.heap (typeOf w) tb ∧ PySem.W.notFirst X.K Cl tb = true := fun xs e0 => by
      obtain ⟨p, vs, e1, sq, r⟩ := lst_sq rs e0
      have e2 := ref_at db e1
      subst e2
      cases r2
      obtain ⟨its, _, ⟨o, n, ho', hc, _⟩, _⟩ := I.list sq
      exact ⟨_, looks_at ho' hc, T.nfb c Cl ho m _ (by decide)⟩
    split at hok
    · rename_i e0
      exact key _ (by unfold lstOf; rw [e0])
    · rename_i d fs' e0
      rw [Bool.and_eq_true] at hok
      obtain ⟨p, Dl, dx, gs, e1, _, m2, F, hH, _, _⟩ := ins_ty T.own hok.1 rs db e0
      subst e1
      cases r2
      obtain ⟨mA, J, _⟩ := ins_get I.hok hH
      obtain ⟨od, J, _⟩ := J.look
      refine ⟨_, J.type, T.nf c d Cl Dl ho hok.1 m m2 ?_⟩
      have z := hok.2
      simp only [Bool.or_eq_true, decide_eq_true_eq, Bool.not_eq_true'] at z
      exact z
    · cases hok
  · cases hok
/-- a subscript that is no slice -/
def PlainIx2 (b : Expr) : Prop := ∀ o i, subscripted b false o i = operate [o, i] (getItem o i) ∧ subscripted b true o i = runValue (.builtin "lifetime.subscript" ⟨[o, i], []⟩)
/-- an instance and its special method -/
theorem spec_ok {m q : Str} {d : D} {x : V} {u : Value} (T : Txt2 X gi C lv) (I : Inv X pins σ H s) (r : RelV x u) (rs : RSh X.K X.mg ρ H h) (da : Rep X.K X.mg ρ H d x) (e : spec gi m d h = some q) :
    ∃ (i : Nat) (c : Str) (fs : List (Str × D)) (px Cl f : Addr) (ox : Obj) (od : Option Obj), d = .ref i ∧ clsOf d h = some (c, fs) ∧ gi.own c = true ∧ x = .ref px ∧ u = .ref px ∧ X.mg c = some (.ref Cl) ∧ PySem.W.InstAt s.heap px ox Cl od ∧ L2.Meth X.K Cl m f ∧
      PySem.W.isFn X.K (.ref f) = true ∧ PySem.W.fnIn X.K f = true ∧ CalOk X.prog X.w X.K X.mg X.base C lv q f := by
  unfold spec at e
  split at e
  · rename_i c fs ec
    split at e
    · rename_i ho
      split at e
      · rename_i q' em
        cases e
        obtain ⟨i, e0, ei⟩ := clsOf_ins ec
        subst e0
        obtain ⟨px, Cl, dx, gs, ex, _, mc, F, hH, _, _⟩ := ins_ty T.own ho rs da ei
        subst ex
        obtain ⟨f, hm, hf, hfn, ck⟩ := T.at_ c _ _ Cl ho em mc
        cases r
        obtain ⟨mA, J, _⟩ := ins_get I.hok hH
        obtain ⟨od, J, _⟩ := J.look
        exact ⟨i, c, fs, px, Cl, f, _, _, rfl, ec, ho, rfl, rfl, mc, J, hm, hf, hfn, ck⟩
      · cases e
    · cases e
  · cases e
/-- a def called around, errors going on -/
theorem call_okA {A : Around} {q : Str} {f : Addr} {us : List Value} {vs : List V} {ds : List D} (hc : CalOk X.prog X.w X.K X.mg X.base C lv q f) (hr : Room lv A) (hf : A.frames = some X.stack) (tk : Takes X W) (I : Inv X pins σ H s) (r : Vals vs us)
    (rs : RSh X.K X.mg ρ H h) (rd : Reps X.K X.mg ρ H ds vs) (p : PostE X.K X.mg W ρ H σ Q (C q ds h)) : wpAny (model X.prog X.w) A (call (.ref f) us) (EP X pins σ Q) X.xe s := by
  have e0 : Env0 X.prog X.w X.K X.mg X.base A X.stack s H := by
    have e := I.env0
    exact ⟨hf, e.mod, e.bs, e.bsz, e.funs, e.frf, e.hok, e.bare⟩
  refine wpAny_call (codeAny_mono (hc A X.stack s H us vs Q (WE W σ) ρ ds h hr e0 r rs rd p.toX) fun r s' hq => ?_)
  cases r with
  | error e => exact passAt tk σ pins H s e s' I hq
  | ok fl =>
    cases fl with
    | ret u => exact I.after hq
    | next => exact False.elim hq
    | brk => exact False.elim hq
    | cont => exact False.elim hq
theorem blR_post {f : Bool → Bool} {m : R D} (p : PostE X.K X.mg W ρ H σ Q (blR f m)) : PostE X.K X.mg W ρ H σ (fun z H2 => ∃ k, z = .bl k ∧ Q (.bl (f k)) H2) m := by
  unfold blR at p
  exact p.bind (RR := Rep X.K X.mg) fun ρ1 H1 d h1 z e2 s2 r3 p3 => by
    cases d with
    | bl k => cases r3; exact ⟨k, rfl, p3 _ _ _ Ext.refl s2 rfl⟩
    | _ => exact p3.elim
/-- == < <= by an own method -/
theorem own_cmp {op : CmpOp} {m q : Str} {f : Bool → Bool} (hop : ∀ a b, compareOp op a b = richCompare op a b) (hm : (cmpInfo op).2.1 = m) {d1 d2 : D} {x y : V} {u w : Value} (T : Txt2 X gi C lv) (hr : Room (lv + 1) X.A) (tk : Takes X W) (I : Inv X pins σ H s) (r1 : RelV x u) (r2 : RelV y w) (rs : RSh X.K X.mg ρ H h) (da : Rep X.K X.mg ρ H d1 x) (db : Rep X.K X.mg ρ H d2 y)
    (e : spec gi m d1 h = some q) (hok : cmpOk gi d1 d2 h = true) (p : PostE X.K X.mg W ρ H σ Q (blR id (C q [d1, d2] h))) : wpAny (model X.prog X.w) X.A (compareOp op u w) (EP X pins σ Q) X.xe s := by
  obtain ⟨i, c, fs, px, Cl, g, ox, od, ed, ec, ho, ex, eu, mc, J, me, hf, hfn, ck⟩ := spec_ok T I r1 rs da e
  subst ed ex eu hm
  obtain ⟨tb, L, nf⟩ := right_ty T ec ho mc I r2 rs db hok
  obtain ⟨mm, hF⟩ := I.fr
  rw [hop]
  refine PySem.W.cmp_K (op := op) hr.units0 hF I.ok.mod.kin J L nf me.at_ hf ?_
  refine thn (call_ok (us := [.ref px, w]) (vs := [.ref px, y]) (ds := [.ref i, d2]) ck (hr.mono (Nat.le_succ _)) tk I (.cons rfl (.cons r2 .nil)) rs ⟨_, _, rfl, da, Reps.one db⟩ (blR_post p)) fun z s2 hz => ?_
  obtain ⟨zv, H2, I2, rz, k, ek, q2⟩ := hz
  subst ek
  cases rz
  exact ⟨.bl k, H2, I2, rfl, q2⟩
/-- in, not in, by an own method -/
theorem own_in {q : Str} (neg : Bool) {d1 d2 : D} {x y : V} {u w : Value} (T : Txt2 X gi C lv) (hr : Room (lv + 1) X.A) (tk : Takes X W) (I : Inv X pins σ H s) (r1 : RelV x u) (r2 : RelV y w) (rs : RSh X.K X.mg ρ H h) (da : Rep X.K X.mg ρ H d1 x) (db : Rep X.K X.mg ρ H d2 y)
    (e : spec gi "__contains__" d2 h = some q) (p : PostE X.K X.mg W ρ H σ Q (blR (if neg then not else id) (C q [d2, d1] h))) : wpAny (model X.prog X.w) X.A (compareOp (if neg then .NotIn else .In) u w) (EP X pins σ Q) X.xe s := by
  obtain ⟨i, c, fs, px, Cl, g, ox, od, ed, ec, ho, ex, eu, mc, J, me, hf, hfn, ck⟩ := spec_ok T I r2 rs db e
  subst ed ex eu
  obtain ⟨mm, hF⟩ := I.fr
  have go : wpAny (model X.prog X.w) X.A (call (.ref g) [.ref px, u]) (fun r s' => wpAny (model X.prog X.w) X.A (truthy r) (fun b => EP X pins σ Q (.bool (if neg then !b else b))) X.xe s') X.xe s := by
    refine thn (call_ok (us := [.ref px, u]) (vs := [.ref px, x]) (ds := [.ref i, d1]) ck (hr.mono (Nat.le_succ _)) tk I (.cons rfl (.cons r1 .nil)) rs ⟨_, _, rfl, db, Reps.one da⟩ (blR_post p)) fun z s2 hz => ?_
    obtain ⟨zv, H2, I2, rz, k, ek, q2⟩ := hz
    subst ek
    cases rz
    refine wpAny_pure ?_
    cases neg
    · exact ⟨.bl k, H2, I2, rfl, q2⟩
    · exact ⟨.bl (!k), H2, I2, rfl, q2⟩
  cases neg
  · exact PySem.W.in_K hF I.ok.mod.kin J me.at_ hf go
  · exact PySem.W.notIn_K hF I.ok.mod.kin J me.at_ hf go
/-- a binary operator by an own method, both of one class -/
theorem own_bin {op : Operator} {m q : Str} (hd : dunB op = some m) {d1 d2 : D} {x y : V} {u w : Value} (T : Txt2 X gi C lv) (hr : Room (lv + 1) X.A) (tk : Takes X W) (I : Inv X pins σ H s) (r1 : RelV x u) (r2 : RelV y w) (rs : RSh X.K X.mg ρ H h) (da : Rep X.K X.mg ρ H d1 x) (db : Rep X.K X.mg ρ H d2 y)
    (e : spec gi m d1 h = some q) (hs : sameCls d1 d2 h = true) (p : PostE X.K X.mg W ρ H σ Q (C q [d1, d2] h)) : wpAny (model X.prog X.w) X.A (binaryOp op u w) (EP X pins σ Q) X.xe s := by
  obtain ⟨i, c, fs, px, Cl, g, ox, od, ed, ec, ho, ex, eu, mc, J, me, hf, hfn, ck⟩ := spec_ok T I r1 rs da e
  subst ed ex eu
  obtain ⟨mm, hF⟩ := I.fr
  unfold sameCls at hs
  rw [ec] at hs
  cases e2 : clsOf d2 h with
  | none => rw [e2] at hs; cases hs
  | some z =>
    obtain ⟨c2, fs2⟩ := z
    rw [e2] at hs
    have : c2 = c := of_decide_eq_true hs
    subst this
    obtain ⟨j, e0, ej⟩ := clsOf_ins e2
    subst e0
    obtain ⟨p2, Cl2, dx2, gs2, ex2, _, mc2, F2, hH2, _, _⟩ := ins_ty T.own ho rs db ej
    subst ex2
    rw [mc] at mc2
    cases mc2
    cases r2
    obtain ⟨mA2, J2, _⟩ := ins_get I.hok hH2
    obtain ⟨od2, J2, _⟩ := J2.look
    have en : PySem.dunder op.info.2 = m := by
      cases op <;> first | (cases hd; done) | (cases hd; decide +kernel)
    subst en
    refine PySem.W.binop_K hF I.ok.mod.kin J J2.type (T.sf _ Cl ho mc) me.at_ hf ?_
    refine thn (call_ok (us := [.ref px, .ref p2]) (vs := [.ref px, .ref p2]) (ds := [.ref i, .ref j]) ck (hr.mono (Nat.le_succ _)) tk I (.cons rfl (.cons rfl .nil)) rs ⟨_, _, rfl, da, Reps.one db⟩ p) fun z s2 hz => ?_
    obtain ⟨zv, H2, I2, rz, q2⟩ := hz
    exact SlX.cmpback rz ⟨zv, H2, I2, rz, q2⟩
/-- - ~ by an own method -/
theorem own_un {op : UnaryOp} {m q : Str} (hd : (op = .Invert ∧ m = "__invert__") ∨ (op = .USub ∧ m = "__neg__")) {d1 : D} {x : V} {u : Value} (T : Txt2 X gi C lv) (hr : Room (lv + 1) X.A) (tk : Takes X W) (I : Inv X pins σ H s) (r1 : RelV x u) (rs : RSh X.K X.mg ρ H h) (da : Rep X.K X.mg ρ H d1 x)
    (e : spec gi m d1 h = some q) (p : PostE X.K X.mg W ρ H σ Q (C q [d1] h)) : wpAny (model X.prog X.w) X.A (unaryOp op u) (EP X pins σ Q) X.xe s := by
  obtain ⟨i, c, fs, px, Cl, g, ox, od, ed, ec, ho, ex, eu, mc, J, me, hf, hfn, ck⟩ := spec_ok T I r1 rs da e
  subst ed ex eu
  have go : wpAny (model X.prog X.w) X.A (callSpecial? (.ref px) m) (fun r s' => ∃ v, r = some v ∧ EP X pins σ Q v s') X.xe s := by
    refine PySem.W.special_fn I.kIn J me.at_ (beq_iff_eq.mp hf) ?_
    refine thn (call_ok (us := [.ref px]) (vs := [.ref px]) (ds := [.ref i]) ck (hr.mono (Nat.le_succ _)) tk I (.cons rfl .nil) rs (Reps.one da) p) fun z s2 hz => ⟨z, rfl, hz⟩
  unfold unaryOp
  refine wpAny_holding ?_
  rcases hd with ⟨rfl, rfl⟩ | ⟨rfl, rfl⟩
  · refine wpAny_bind (thn go fun r s2 ⟨v, er, hv⟩ => ?_)
    subst er
    exact wpAny_pure hv
  · refine wpAny_bind (thn go fun r s2 ⟨v, er, hv⟩ => ?_)
    subst er
    exact wpAny_pure hv
/-- a look into a dict of the module -/
theorem dicIn_ok {d1 : D} {c : Str} {k : Bool} (neg : Bool) {x y : V} {u w : Value} (T : Txt2 X gi C lv) (I : Inv X pins σ H s) (r1 : RelV x u) (r2 : RelV y w) (da : Rep X.K X.mg ρ H d1 x) (db : Rep X.K X.mg ρ H (.gl c) y) (e : dicIn gi d1 c = some k) (q : Q (.bl (if neg then !k else k)) H) :
    wpAny (model X.prog X.w) X.A (compareOp (if neg then .NotIn else .In) u w) (EP X pins σ Q) X.xe s := by
  unfold dicIn at e
  split at e
  · rename_i z kvs ed
    cases e
    obtain ⟨a, es, n, m, D, f1, f2⟩ := T.dic c kvs ed
    obtain ⟨a', m', ey⟩ := db
    rw [m] at m'
    cases m'
    cases da
    have key : ∃ r : Option Value, PySem.W.nsIn X.K a z = some r ∧ r.isSome = (kvs.lookup z).isSome := by
      cases el : kvs.lookup z with
      | none => exact ⟨none, f1 z el, rfl⟩
      | some d => obtain ⟨u', v', g1, _, _⟩ := f2 z d el; exact ⟨_, g1, rfl⟩
    obtain ⟨r, g1, g2⟩ := key
    rw [← g2] at q
    cases neg
    · exact op_in_kd D pins s σ H _ _ u w Q I r1 r2 ⟨z, r, rfl, ey, g1, q⟩
    · exact op_notIn_kd D pins s σ H _ _ u w Q I r1 r2 ⟨z, r, rfl, ey, g1, q⟩
  · cases e
/-- a comparison of two values -/
theorem cmpP_ok {op : CmpOp} {d1 d2 : D} {x y : V} {u w : Value} (T : Txt2 X gi C lv) (hr : Room (lv + 1) X.A) (tk : Takes X W) (I : Inv X pins σ H s) (r1 : RelV x u) (r2 : RelV y w) (rs : RSh X.K X.mg ρ H h) (da : Rep X.K X.mg ρ H d1 x) (db : Rep X.K X.mg ρ H d2 y)
    (p : PostE X.K X.mg W ρ H σ Q (prD gi C (.cmp op) [d1, d2] h)) : wpAny (model X.prog X.w) X.A (compareOp op u w) (EP X pins σ Q) X.xe s := by
  have plain : ∀ op, PostE X.K X.mg W ρ H σ Q (cmpD op d1 d2 h) → wpAny (model X.prog X.w) X.A (compareOp op u w) (EP X pins σ Q) X.xe s := fun op p => cmp_ok hr.units I r1 r2 rs da db p
  cases op with
  | Eq =>
    simp only [prD] at p
    split at p
    · rename_i q e
      split at p
      · rename_i hok
        refine own_cmp (f := id) (fun _ _ => rfl) (by decide +kernel) T hr tk I r1 r2 rs da db e hok ?_
        exact p
      · exact p.elim
    · exact plain _ p
  | In =>
    simp only [prD] at p
    split at p
    · rename_i q e
      exact own_in false T hr tk I r1 r2 rs da db e p
    · split at p
      · split at p
        · rename_i k e
          exact dicIn_ok false T I r1 r2 da db e (p _ _ _ Ext.refl rs rfl)
        · exact p.elim
      · exact plain _ p
  | NotIn =>
    simp only [prD] at p
    split at p
    · rename_i q e
      exact own_in true T hr tk I r1 r2 rs da db e p
    · split at p
      · split at p
        · rename_i k e
          exact dicIn_ok true T I r1 r2 da db e (p _ _ _ Ext.refl rs rfl)
        · exact p.elim
      · exact plain _ p
  | Lt =>
    simp only [prD, dunC, Option.bind_some] at p
    split at p
    · rename_i q e
      split at p
      · rename_i hok
        exact own_cmp (f := id) (fun _ _ => rfl) (by decide +kernel) T hr tk I r1 r2 rs da db e hok p
      · exact p.elim
    · exact plain _ p
  | LtE =>
    simp only [prD, dunC, Option.bind_some] at p
    split at p
    · rename_i q e
      split at p
      · rename_i hok
        exact own_cmp (f := id) (fun _ _ => rfl) (by decide +kernel) T hr tk I r1 r2 rs da db e hok p
      · exact p.elim
    · exact plain _ p
  | _ => exact plain _ p
theorem s_bin {op : Operator} (T : Txt2 X gi C lv) (hr : Room (lv + 1) X.A) (tk : Takes X W) (ha : EX X W gi C ea a) (hb : EX X W gi C eb b) : EX X W gi C (.BinOp ea op eb pos) (.prim (.bin op) [a, b]) := by
  refine ⟨fun pins s σ H Q I ⟨ρ, v, h, rs, er, p⟩ => ?_⟩
  simp only [evE, evEs_two] at p
  refine wpAny_BinOp (run2 ha hb I rs er p fun u w s2 x y ρ2 H2 d1 d2 h2 I2 rx ry e2 rs2 er2 r1 r2 p2 => ?_)
  simp only [prD] at p2
  cases hd : dunB op with
  | none =>
    rw [hd] at p2
    exact bin_ok I2 rx ry rs2 r1 r2 p2
  | some m =>
    rw [hd, Option.bind_some] at p2
    split at p2
    · rename_i q e
      split at p2
      · rename_i hs
        exact own_bin hd T hr tk I2 rx ry rs2 r1 r2 e hs p2
      · exact p2.elim
    · exact bin_ok I2 rx ry rs2 r1 r2 p2
theorem s_cmp {op : CmpOp} (T : Txt2 X gi C lv) (hr : Room (lv + 1) X.A) (tk : Takes X W) (ha : EX X W gi C ea a) (hb : EX X W gi C eb b) (hs : behindInMarks op eb = false) : EX X W gi C (.Compare ea [op] [eb] pos) (.prim (.cmp op) [a, b]) := by
  refine ⟨fun pins s σ H Q I ⟨ρ, v, h, rs, er, p⟩ => ?_⟩
  simp only [evE, evEs_two] at p
  exact wpAny_Compare1 (run2 ha hb I rs er p fun u w s2 x y ρ2 H2 d1 d2 h2 I2 rx ry e2 rs2 er2 r1 r2 p2 => cmpP_ok T hr tk I2 rx ry rs2 r1 r2 p2) hs
/-- a value's truth behind an expression -/
theorem t_plain (ha : EX X W gi C ea a) (he : ∀ whole, isTrue ea X.env whole = (do let v ← whole; standAt ea.pos; holding [v] (truthy v))) : TX X W gi C ea a := by
  refine ⟨fun pins s σ H Q I ⟨ρ, v, h, rs, er, p⟩ => ?_⟩
  refine isTrue_plain ?_ (he _)
  unfold evB asB at p
  refine run1 ha I rs er p fun u s1 x ρ1 H1 d1 h1 I1 rx e1 rs1 er1 r1 p1 => ?_
  cases e : truth d1 h1 with
  | none => rw [e] at p1; exact p1.elim
  | some c => rw [e] at p1; exact truthy_ok I1 rx rs1 r1 e (p1 _ _ _ Ext.refl rs1 rfl)
theorem t_cmp {op : CmpOp} (T : Txt2 X gi C lv) (hr : Room (lv + 1) X.A) (tk : Takes X W) (ha : EX X W gi C ea a) (hb : EX X W gi C eb b) (hs : behindInMarks op eb = false) : TX X W gi C (.Compare ea [op] [eb] pos) (.prim (.cmp op) [a, b]) := by
  refine ⟨fun pins s σ H Q I ⟨ρ, v, h, rs, er, p⟩ => ?_⟩
  unfold evB asB at p
  simp only [evE, evEs_two, bind_assoc] at p
  refine wpAny_isTrue_Compare1 (run2 ha hb I rs er p fun u w s2 x y ρ2 H2 d1 d2 h2 I2 rx ry e2 rs2 er2 r1 r2 p2 => ?_) hs
  have p3 := p2.bind (RR := Rep X.K X.mg) (Q' := fun z H3 => ∃ ρ3 d3 h3, RSh X.K X.mg ρ3 H3 h3 ∧ Rep X.K X.mg ρ3 H3 d3 z ∧ PostT X.K X.mg W ρ3 H3 σ Q (match truth d3 h3 with | some b => .ok b h3 | none => .bad)) fun ρ1 H1 d h1 x e2 s2 r3 p3 => ⟨ρ1, d, h1, s2, r3, p3⟩
  refine thn (cmpP_ok T hr tk I2 rx ry rs2 r1 r2 p3) fun z s3 ⟨zv, H3, I3, rz, ρ3, d3, h3, rs3, r3, p4⟩ => ?_
  cases e : truth d3 h3 with
  | none => rw [e] at p4; exact p4.elim
  | some c => rw [e] at p4; exact truthy_ok I3 rz rs3 r3 e (p4 _ _ _ Ext.refl rs3 rfl)
theorem asB_not (m : R D) : asB (m.bind fun x h => match truth x h with | some b => .ok (.bl (!b)) h | none => .bad) = (asB m).bind fun b h => .ok (!b) h := by
  unfold asB
  rw [bind_assoc, bind_assoc]
  congr 1
  funext x h
  cases truth x h <;> rfl
theorem t_not (ha : TX X W gi C ea a) : TX X W gi C (.UnaryOp .Not ea pos) (.prim .not [a]) := by
  refine ⟨fun pins s σ H Q I ⟨ρ, v, h, rs, er, p⟩ => ?_⟩
  have e : evB gi C (.prim .not [a]) v h = (evB gi C a v h).bind fun b h => .ok (!b) h := by
    unfold evB
    simp only [evE, evEs_one, prD]
    exact asB_not _
  rw [e] at p
  exact isTrue_not (ha.run pins s σ H (fun c H1 => Q (!c) H1) I ⟨ρ, v, h, rs, er, p.bind fun ρ1 H1 d h1 x e1 s1 r1 p1 => by cases r1; exact p1 _ _ _ Ext.refl s1 rfl⟩)
theorem s_not (ha : EX X W gi C ea a) : EX X W gi C (.UnaryOp .Not ea pos) (.prim .not [a]) := by
  refine ⟨fun pins s σ H Q I ⟨ρ, v, h, rs, er, p⟩ => ?_⟩
  simp only [evE, evEs_one, prD] at p
  refine UnaryOp_ (run1 ha I rs er p fun u s1 x ρ1 H1 d1 h1 I1 rx e1 rs1 er1 r1 p1 => ?_)
  cases e : truth d1 h1 with
  | none => rw [e] at p1; exact p1.elim
  | some c =>
    rw [e] at p1
    exact not_of (thn (truthy_ok (Q := fun b H' => b = c ∧ H' = H1) I1 rx rs1 r1 e ⟨rfl, rfl⟩) fun b s2 ⟨H2, I2, eb, eH⟩ => by
      subst eb eH
      exact ⟨.bl (!b), H2, I2, rfl, p1 _ _ _ Ext.refl rs1 rfl⟩)
/-! ### and, or -/
theorem asB_and (C' : R D) (f : HD → R D) : asB (C'.bind fun x h => match truth x h with | some true => f h | some false => .ok x h | none => .bad) = (asB C').bind fun b h => if b then asB (f h) else .ok false h := by
  cases C' with
  | ok x h =>
    simp only [asB, R.bind]
    cases e : truth x h with
    | none => rfl
    | some b => cases b <;> simp [R.bind, e]
  | ex e h => rfl
  | bad => rfl
theorem asB_or (C' : R D) (f : HD → R D) : asB (C'.bind fun x h => match truth x h with | some true => .ok x h | some false => f h | none => .bad) = (asB C').bind fun b h => if b then .ok true h else asB (f h) := by
  cases C' with
  | ok x h =>
    simp only [asB, R.bind]
    cases e : truth x h with
    | none => rfl
    | some b => cases b <;> simp [R.bind, e]
  | ex e h => rfl
  | bad => rfl
abbrev WXX (X : Cx) (W : WX) (gi : GI) (C : Cal) (e : Expr) (a : E) : Prop := PW X e (tT X.K X.mg W (evB gi C a))
theorem PW.wk {e : Expr} {t t' : TT} (h : PW X e t) (q : ∀ σ H Q, t' σ H Q → t σ H Q) : PW X e t' := ⟨fun wh pins s σ H Q I p => h.run wh pins s σ H Q I (q σ H Q p)⟩
theorem t_and1 (ha : TX X W gi C ea a) : WXX X W gi C (.BoolOp .And [ea] pos) a := pw_and1 ha
theorem t_or1 (ha : TX X W gi C ea a) : WXX X W gi C (.BoolOp .Or [ea] pos) a := pw_or1 ha
theorem t_and {rest : List Expr} (ha : TX X W gi C ea a) (hb : WXX X W gi C (.BoolOp .And (eb :: rest) pos) b) : WXX X W gi C (.BoolOp .And (ea :: eb :: rest) pos) (.and a b) := by
  refine PW.wk (pw_and ha hb) fun σ H Q ⟨ρ, v, h, rs, er, p⟩ => ?_
  have e : evB gi C (.and a b) v h = (evB gi C a v h).bind fun c h => if c then evB gi C b v h else .ok false h := by
    unfold evB
    simp only [evE]
    exact asB_and _ _
  rw [e] at p
  refine ⟨ρ, v, h, rs, er, p.bind fun ρ1 H1 d h1 x e1 s1 r1 p1 => ?_⟩
  subst r1
  cases d with
  | true => exact iteT ⟨ρ1, v, h1, s1, er.ext e1, p1⟩
  | false => exact iteF (p1 _ _ _ Ext.refl s1 rfl)
theorem t_or {rest : List Expr} (ha : TX X W gi C ea a) (hb : WXX X W gi C (.BoolOp .Or (eb :: rest) pos) b) : WXX X W gi C (.BoolOp .Or (ea :: eb :: rest) pos) (.or a b) := by
  refine PW.wk (pw_or ha hb) fun σ H Q ⟨ρ, v, h, rs, er, p⟩ => ?_
  have e : evB gi C (.or a b) v h = (evB gi C a v h).bind fun c h => if c then .ok true h else evB gi C b v h := by
    unfold evB
    simp only [evE]
    exact asB_or _ _
  rw [e] at p
  refine ⟨ρ, v, h, rs, er, p.bind fun ρ1 H1 d h1 x e1 s1 r1 p1 => ?_⟩
  subst r1
  cases d with
  | true => exact iteT (p1 _ _ _ Ext.refl s1 rfl)
  | false => exact iteF ⟨ρ1, v, h1, s1, er.ext e1, p1⟩
/-- as values -/
theorem s_and {rest : List Expr} (ha : EX X W gi C ea a) (hb : EX X W gi C (.BoolOp .And (eb :: rest) pos) b) : EX X W gi C (.BoolOp .And (ea :: eb :: rest) pos) (.and a b) := by
  refine ⟨fun pins s σ H Q I ⟨ρ, v, h, rs, er, p⟩ => ?_⟩
  simp only [evE] at p
  refine BoolOp_and (run1 ha I rs er p fun u s1 x ρ1 H1 d1 h1 I1 rx e1 rs1 er1 r1 p1 => ?_)
  cases e : truth d1 h1 with
  | none => rw [e] at p1; exact p1.elim
  | some c =>
    rw [e] at p1
    refine thn (truthy_ok (Q := fun b H' => b = c ∧ H' = H1) I1 rx rs1 r1 e ⟨rfl, rfl⟩) fun k s2 ⟨H2, I2, eb, eH⟩ => ?_
    subst eb eH
    cases k with
    | true => exact hb.run pins s2 σ H2 Q I2 ⟨ρ1, v, h1, rs1, er1, p1⟩
    | false => exact ⟨x, H2, I2, rx, p1 _ _ _ Ext.refl rs1 r1⟩
theorem s_or {rest : List Expr} (ha : EX X W gi C ea a) (hb : EX X W gi C (.BoolOp .Or (eb :: rest) pos) b) : EX X W gi C (.BoolOp .Or (ea :: eb :: rest) pos) (.or a b) := by
  refine ⟨fun pins s σ H Q I ⟨ρ, v, h, rs, er, p⟩ => ?_⟩
  simp only [evE] at p
  refine BoolOp_or (run1 ha I rs er p fun u s1 x ρ1 H1 d1 h1 I1 rx e1 rs1 er1 r1 p1 => ?_)
  cases e : truth d1 h1 with
  | none => rw [e] at p1; exact p1.elim
  | some c =>
    rw [e] at p1
    refine thn (truthy_ok (Q := fun b H' => b = c ∧ H' = H1) I1 rx rs1 r1 e ⟨rfl, rfl⟩) fun k s2 ⟨H2, I2, eb, eH⟩ => ?_
    subst eb eH
    cases k with
    | true => exact ⟨x, H2, I2, rx, p1 _ _ _ Ext.refl rs1 r1⟩
    | false => exact hb.run pins s2 σ H2 Q I2 ⟨ρ1, v, h1, rs1, er1, p1⟩
theorem s_ite (hc : TX X W gi C ec c) (ha : EX X W gi C ea a) (hb : EX X W gi C eb b) : EX X W gi C (.IfExp ec ea eb pos) (.ite c a b) := by
  refine PE.wk (pe_ifExp hc ha hb) fun σ H Q ⟨ρ, v, h, rs, er, p⟩ => ?_
  have e : evE gi C (.ite c a b) v h = (evB gi C c v h).bind fun k h => if k then evE gi C a v h else evE gi C b v h := by
    unfold evB asB
    simp only [evE, bind_assoc]
    congr 1
    funext x h
    cases truth x h with
    | none => rfl
    | some k => cases k <;> rfl
  rw [e] at p
  refine ⟨ρ, v, h, rs, er, p.bind fun ρ1 H1 d h1 x e1 s1 r1 p1 => ?_⟩
  subst r1
  cases d with
  | true => exact iteT ⟨ρ1, v, h1, s1, er.ext e1, p1⟩
  | false => exact iteF ⟨ρ1, v, h1, s1, er.ext e1, p1⟩
theorem asB_ite (m : R Bool) (f g : HD → R D) : asB (m.bind fun k h => if k then f h else g h) = m.bind fun k h => if k then asB (f h) else asB (g h) := by
  cases m with
  | ok k h => cases k <;> rfl
  | ex e h => rfl
  | bad => rfl
theorem t_ite (hc : TX X W gi C ec c) (ha : TX X W gi C ea a) (hb : TX X W gi C eb b) : TX X W gi C (.IfExp ec ea eb pos) (.ite c a b) := by
  refine ⟨fun pins s σ H Q I ⟨ρ, v, h, rs, er, p⟩ => ?_⟩
  have e : evB gi C (.ite c a b) v h = (evB gi C c v h).bind fun k h => if k then evB gi C a v h else evB gi C b v h := by
    have e0 : evE gi C (.ite c a b) v h = (evB gi C c v h).bind fun k h => if k then evE gi C a v h else evE gi C b v h := by
      unfold evB asB
      simp only [evE, bind_assoc]
      congr 1
      funext x h
      cases truth x h with
      | none => rfl
      | some k => cases k <;> rfl
    show asB (evE gi C (.ite c a b) v h) = _
    rw [e0]
    exact asB_ite _ _ _
  rw [e] at p
  show wpAny _ _ (PySem.isTrue (.IfExp ec ea eb pos) X.env _) _ _ _
  unfold PySem.isTrue
  refine wpAny_bind (thn (hc.run pins s σ H (fun k H1 => ∃ ρ1 h1, RSh X.K X.mg ρ1 H1 h1 ∧ EvR X.K X.mg ρ1 H1 v σ ∧ PostT X.K X.mg W ρ1 H1 σ Q (if k then evB gi C a v h1 else evB gi C b v h1)) I ⟨ρ, v, h, rs, er, p.bind fun ρ1 H1 d h1 x e1 s1 r1 p1 => by subst r1; exact ⟨ρ1, h1, s1, er.ext e1, p1⟩⟩) fun k s1 ⟨H1, I1, ρ1, h1, rs1, er1, p1⟩ => ?_)
  cases k with
  | true => exact ha.run pins s1 σ H1 Q I1 ⟨ρ1, v, h1, rs1, er1, p1⟩
  | false => exact hb.run pins s1 σ H1 Q I1 ⟨ρ1, v, h1, rs1, er1, p1⟩
/-! ### places, slices -/
theorem s_ix {ei : Expr} {i : E} (T : Txt2 X gi C lv) (hr : Room (lv + 1) X.A) (tk : Takes X W) (ha : EX X W gi C ea a) (hi : EX X W gi C ei i) (hs : PlainIx2 ei) : EX X W gi C (.Subscript ea ei pos) (.prim .ix [a, i]) := by
  refine ⟨fun pins s σ H Q I ⟨ρ, v, h, rs, er, p⟩ => ?_⟩
  simp only [evE, evEs_two] at p
  refine Subscript_ (run2 ha hi I rs er p fun u w s2 x y ρ2 H2 d1 d2 h2 I2 rx ry e2 rs2 er2 r1 r2 p2 => ?_)
  simp only [prD] at p2
  split at p2
  · rename_i q e
    obtain ⟨i, c, fs, px, Cl, g, ox, od, ed, ec, ho, ex, eu, mc, J, me, hf, hfn, ck⟩ := spec_ok T I2 rx rs2 r1 e
    subst ed ex eu
    obtain ⟨mm, hF⟩ := I2.fr
    refine PySem.W.sub_K hF I2.ok.mod.kin J me.at_ hfn hf ?_ (hs _ _).2
    exact call_okA (us := [.ref px, w]) (vs := [.ref px, y]) (ds := [.ref i, d2]) ck ⟨hr.hd, by have := hr.dp; show X.A.depth + 3 * lv + 5 < _; omega, by have := hr.un; show X.A.units + 1 + 16 * lv + 200 < _; omega⟩ I2.ok.frames tk I2 (.cons rfl (.cons ry .nil)) rs2 ⟨_, _, rfl, r1, Reps.one r2⟩ p2
  · split at p2
    · rename_i c _
      split at p2
      · rename_i d e
        unfold dicAt at e
        split at e
        · rename_i z kvs ed
          obtain ⟨a, es, n, m, Dk, f1, f2⟩ := T.dic c kvs ed
          obtain ⟨a', m', ex⟩ := r1
          rw [m] at m'
          cases m'
          cases r2
          subst ex
          obtain ⟨u', v', g1, rv, g2⟩ := f2 z d e
          exact ix_kdict _ _ pins s2 σ H2 _ _ u w Q I2 rx ry ⟨a, z, v', rfl, rfl, ⟨es, n, u', Dk.at_, Dk.lit, g1, rv⟩, p2 _ _ _ Ext.refl rs2 (g2 _ _)⟩ (hs _ _).1
        · cases e
      · exact p2.elim
    · exact ix_ok I2 rx ry rs2 r1 r2 p2 (hs _ _).1
end
end Mp

set_option Elab.async false
set_option linter.all false
set_option maxRecDepth 100000
set_option maxHeartbeats 1000000
/-! Mp: calls, methods, attributes as expressions. -/
namespace Mp
open PySem PySem.Spec PyProof.Rows L2
open PySem (Expr)

def noStar : List Expr → Bool
  | [] => true
  | e :: r => !isStar e && noStar r
theorem plain_of (pos : Pos) (env : Env) : ∀ {es : List Expr}, noStar es = true → (backTo pos (starEach es env)).any (·.1) = false
  | [], _ => rfl
  | e :: r, hs => by
    unfold noStar at hs
    rw [Bool.and_eq_true] at hs
    rw [star_of (by simpa using hs.1)]
    show (false || (backTo pos (starEach r env)).any (·.1)) = false
    rw [plain_of pos env hs.2]
    rfl
section
variable {X : Cx} {W : WX} {gi : GI} {C : Cal} {lv : Nat} {pins : List (Addr × Obj)} {σ : L2.St} {s : Shared} {H : Hp} {Q : VK} {ρ : List Addr} {h : HD} {v : Ev} {ea eb ec : Expr} {a b c : E} {pos apos : Pos} {es : List Expr} {as : List E}
/-- a known value's call: the arguments, then the call -/
theorem callK {f : Value} {first : List Value} {fd : List D → HD → R D} {Q' : Value → Shared → Prop} (hk : PySem.W.keepIn X.K f = true) (ha : AX X W gi C es as) (hs : noStar es = true) (hl : es.length = as.length) (I : Inv X pins σ H s) (rs : RSh X.K X.mg ρ H h) (er : EvR X.K X.mg ρ H v σ)
    (p : PostE X.K X.mg W ρ H σ Q ((evEs gi C as v h).bind fd))
    (hc : ∀ us s1 xs ρ1 H1 ds h1, Inv X pins σ H1 s1 → Vals xs us → Ext ρ H ρ1 H1 → RSh X.K X.mg ρ1 H1 h1 → Reps X.K X.mg ρ1 H1 ds xs → PostE X.K X.mg W ρ1 H1 σ Q (fd ds h1) → wpAny (model X.prog X.w) X.A (call f (first ++ us)) Q' X.xe s1) :
    wpAny (model X.prog X.w) X.A (callWith pos f first (backTo pos (starEach es X.env)) []) Q' X.xe s := by
  have run : wpAny (model X.prog X.w) X.A (spliced (backTo pos (starEach es X.env))) (fun us s1 => X.K.In s1.heap ∧ wpAny (model X.prog X.w) X.A (call f (first ++ us)) Q' X.xe s1) X.xe s := by
    refine thn (ha.run pos pins s σ H (fun xs H1 => ∃ ρ1 ds h1, Ext ρ H ρ1 H1 ∧ RSh X.K X.mg ρ1 H1 h1 ∧ Reps X.K X.mg ρ1 H1 ds xs ∧ PostE X.K X.mg W ρ1 H1 σ Q (fd ds h1)) I ⟨ρ, v, h, rs, er, p.bind fun ρ1 H1 d h1 x e1 s1 r1 p1 => ⟨ρ1, d, h1, e1, s1, r1, p1⟩⟩) fun us s1 ⟨xs, H1, I1, rx, ρ1, ds, h1, e1, rs1, r1, p1⟩ => ?_
    exact ⟨I1.kIn, hc us s1 xs ρ1 H1 ds h1 I1 rx e1 rs1 r1 p1⟩
  cases es with
  | nil =>
    cases as with
    | nil =>
      have p0 : PostE X.K X.mg W ρ H σ Q (fd [] h) := by simpa only [evEs, bind_ok] using p
      exact PySem.W.callWith_K0 I.kIn hk (hc [] s [] ρ H [] h I .nil Ext.refl rs rfl p0)
    | cons _ _ => cases hl
  | cons e r =>
    unfold noStar at hs
    rw [Bool.and_eq_true] at hs
    exact PySem.W.callWith_K (h₀ := X.base) I.ok.mod.kin hk run (star_of (by simpa using hs.1) r X.env) (plain_of pos X.env hs.2)
/-- f(..), f a name, its value a def or a class -/
theorem s_call {f : Str} {p' : Pos} (T : Txt2 X gi C lv) (hr : Room (lv + 1) X.A) (tk : Takes X W) (hf : EX X W gi C (.Name f p') a) (ha : AX X W gi C es as) (hs : noStar es = true) (hl : es.length = as.length) : EX X W gi C (.Call (.Name f p') es [] pos) (.call a as) := by
  refine ⟨fun pins s σ H Q I ⟨ρ, v, h, rs, er, p⟩ => ?_⟩
  simp only [evE] at p
  refine wpAny_Call_Name_kw (run1 hf I rs er p fun u s1 x ρ1 H1 d1 h1 I1 rx e1 rs1 er1 r1 p1 => ?_)
  split at p1
  · rename_i hcan
    cases d1 with
    | gl c =>
      obtain ⟨fa, m, ex⟩ := r1
      subst ex
      cases rx
      obtain ⟨f', m', hk⟩ := callD_keep T hcan
      rw [m] at m'
      cases m'
      exact callK (first := []) hk ha hs hl I1 rs1 er1 p1 fun us s2 xs ρ2 H2 ds h2 I2 rv e2 rs2 r2 p2 => callD_ok T hr tk m I2 rv rs2 r2 p2
    | _ => cases hcan
  · exact p1.elim
/-- what a built-in function's call does to values -/
theorem abs_own {A : Around} {E : Value → Shared → Prop} {K : PySem.W.Frag} {x C f : Addr} {ox : Obj} {od : Option Obj} {P : Program} {w : World} {Q : Value → Shared → Prop} (KX : K.In s.heap) (I : PySem.W.InstAt s.heap x ox C od) (hs : PySem.W.findIn K (.ref C) "__abs__" = some (some (.ref f))) (hf : PySem.W.isFn K (.ref f) = true)
    (h : wpAny (model P w) A.in1 (call (.ref f) [.ref x]) Q E s) : wpAny (model P w) A (call (.builtin "abs") [.ref x]) Q E s := by
  refine Calls.call_function_entry kind_abs plain_abs entry_abs (args_abs _) ?_
  unfold Builtin.«abs»
  refine wpAny_bind (wpAny_pure ?_)
  refine wpAny_bind (PySem.W.special_fn KX I hs (beq_iff_eq.mp hf) (wpAny_mono h (fun r s' hr => ?_) fun _ _ y => y))
  exact wpAny_pure ⟨_, rfl, hr⟩
theorem blt_ok {bf : B} {ds : List D} {xs : List V} {us : List Value} (hcalm : X.calm = true) (T : Txt2 X gi C lv) (hr : Room (lv + 1) X.A) (tk : Takes X W) (I : Inv X pins σ H s) (r : Vals xs us) (rs : RSh X.K X.mg ρ H h) (rd : Reps X.K X.mg ρ H ds xs) (p : PostE X.K X.mg W ρ H σ Q (bltD gi C bf ds h)) :
    wpAny (model X.prog X.w) X.A (call bf.val us) (EP X pins σ Q) X.xe s := by
  unfold bltD at p
  split at p
  · obtain ⟨x, _, e1, rx, e2⟩ := rd
    cases e2; subst e1; cases rx
    split at p
    · rename_i hz
      exact call_len_str pins s σ H _ us Q I r ⟨_, rfl, cap_le hz, p _ _ _ Ext.refl rs rfl⟩
    · exact p.elim
  · obtain ⟨x, _, e1, ⟨q, vs, e3, sq, rr⟩, e2⟩ := rd
    cases e2; subst e1; subst e3
    exact call_len_seq pins s σ H _ us Q I r ⟨q, vs, rfl, .inr sq, by rw [rr.len]; exact p _ _ _ Ext.refl rs rfl⟩
  · obtain ⟨x, _, e1, rx, e2⟩ := rd
    cases e2; subst e1
    split at p
    · rename_i e0
      obtain ⟨q, vs, e4, sq, rr⟩ := ls_sq rs rx e0
      subst e4
      exact call_len_seq pins s σ H _ us Q I r ⟨q, vs, rfl, .inl sq, by rw [rr.len]; exact p _ _ _ Ext.refl rs rfl⟩
    · split at p
      · rename_i q e
        obtain ⟨u, eu, ru⟩ := vals1 r
        subst eu
        obtain ⟨i, c, fs, px, Cl, g, ox, od, ed, ec, ho, ex, eu, mc, J, me, hf, hfn, ck⟩ := spec_ok T I ru rs rx e
        subst ed ex eu
        obtain ⟨mm, hF⟩ := I.fr
        have p2 := p.bind (RR := Rep X.K X.mg) (Q' := fun z H2 => ∃ n : Int, z = .int n ∧ (0 ≤ n ∧ n < big) ∧ Q z H2) fun ρ1 H1 d h1 z e2 s2 r3 p3 => by
          cases d with
          | int n =>
            cases r3
            dsimp only at p3
            split at p3
            · rename_i hz
              exact ⟨n, rfl, hz, p3 _ _ _ Ext.refl s2 rfl⟩
            · exact p3.elim
          | _ => exact p3.elim
        have hr2 : Room lv X.A.in1 := ⟨hr.hd, by have := hr.dp; show X.A.depth + 3 * lv + 5 < _; omega, by have := hr.un; show X.A.units + 1 + 16 * lv + 200 < _; omega⟩
        refine PySem.W.len_K hF I.ok.mod.kin J me.at_ hf ?_
        refine code_noex (us := [.ref px]) (vs := [.ref px]) (ds := [.ref i]) ck hr2 I.ok.frames I (.cons rfl .nil) rs (Reps.one rx) (noex_post p2) fun z s2 hz => ?_
        obtain ⟨zv, H2, I2, rz, n, ek, ⟨hz1, hz2⟩, q2⟩ := hz
        subst ek
        obtain ⟨t, rfl⟩ := rz
        exact ⟨⟨hz1, by unfold big at hz2; omega⟩, .int n, H2, I2.tok _, ⟨_, rfl⟩, q2⟩
      · exact p.elim
  · obtain ⟨x, _, e1, rx, e2⟩ := rd
    cases e2; subst e1; cases rx
    exact call_int1 pins s σ H _ us Q I r (.inl ⟨_, rfl, p _ _ _ Ext.refl rs rfl⟩)
  · obtain ⟨x, _, e1, rx, e2⟩ := rd
    cases e2; subst e1; cases rx
    exact call_int1 pins s σ H _ us Q I r (.inr ⟨_, rfl, p _ _ _ Ext.refl rs rfl⟩)
  · obtain ⟨x, _, e1, rx, e2⟩ := rd
    cases e2; subst e1; cases rx
    rename_i i
    refine call_bool1 pins s σ H _ us Q I r (.inl ⟨i, rfl, ?_⟩)
    have fin := p _ _ _ Ext.refl rs rfl
    have e : decide (i ≠ 0) = (i != 0) := by
      by_cases z : i = 0 <;> simp [z, bne]
    rw [e] at fin
    exact fin
  · obtain ⟨x, _, e1, rx, e2⟩ := rd
    cases e2; subst e1; cases rx
    exact call_bool1 pins s σ H _ us Q I r (.inr ⟨_, rfl, p _ _ _ Ext.refl rs rfl⟩)
  · obtain ⟨x, _, e1, rx, e2⟩ := rd
    cases e2; subst e1
    rename_i d0 h0
    split at p
    · rename_i q e
      unfold spec at e
      split at e
      · rename_i c fs ec
        split at e
        · rename_i ho
          split at e
          · rename_i q' em
            cases e
            obtain ⟨i, e0, ei⟩ := clsOf_ins ec
            subst e0
            obtain ⟨px, Cl, dx, gs, ex, _, m, F, hH, _, _⟩ := ins_ty T.own ho rs rx ei
            subst ex
            obtain ⟨f, hm, hf, _, ck⟩ := T.at_ c _ _ Cl ho em m
            obtain ⟨u, eu, ru⟩ := vals1 r
            subst eu
            cases ru
            obtain ⟨mA, J, _⟩ := ins_get I.hok hH
            obtain ⟨od, J, _⟩ := J.look
            have p2 := p.bind (RR := Rep X.K X.mg) (Q' := fun z H2 => ∃ k, z = .str k ∧ Q z H2) fun ρ1 H1 d h1 x e2 s2 r3 p3 => by
              cases d with
              | str k => cases r3; exact ⟨k, rfl, p3 _ _ _ Ext.refl s2 rfl⟩
              | _ => exact p3.elim
            have hr2 : Room lv X.A.in1.in1 := ⟨hr.hd, by have := hr.dp; show X.A.depth + 3 * lv + 5 < _; omega, by have := hr.un; show X.A.units + 1 + 1 + 16 * lv + 200 < _; omega⟩
            refine PySem.W.kso_call (by have := hr.un; show X.A.units + 1 + 1 < _; omega) I.kIn J hm.at_ hf ?_
            refine code_noex (us := [.ref px]) (vs := [.ref px]) (ds := [.ref i]) ck hr2 I.ok.frames I (.cons rfl .nil) rs (Reps.one rx) (noex_post p2) fun z s2 hz => ?_
            obtain ⟨zv, H2, I2, rz, k, ek, q2⟩ := hz
            subst ek
            obtain ⟨t, rfl⟩ := rz
            exact ⟨.str k, H2, I2, ⟨t, rfl⟩, q2⟩
          · cases e
        · cases e
      · cases e
    · split at p
      · cases rx
        exact SkE.call_str_str pins s σ H _ us Q I r ⟨_, rfl, p _ _ _ Ext.refl rs rfl⟩
      · cases rx
        split at p
        · rename_i hz
          exact call_str_int pins s σ H _ us Q I r ⟨_, rfl, hz, p _ _ _ Ext.refl rs rfl⟩
        · exact p.elim
      · exact p.elim
  · obtain ⟨x, _, e1, rx, y, _, e2, ry, e3⟩ := rd
    cases e3; subst e2; subst e1; cases ry
    split at p
    · rename_i e
      obtain ⟨t, ty, ek⟩ := isTy_ok T.own rs rx e
      exact call_isi pins s σ H _ us Q I r ⟨x, _, t, _, _, rfl, .ty _, ty, ek, p _ _ _ Ext.refl rs rfl⟩
    · exact p.elim
  · obtain ⟨x, _, e1, rx, y, _, e2, ⟨ca, m, ry⟩, e3⟩ := rd
    cases e3; subst e2; subst e1; subst ry
    split at p
    · rename_i e
      obtain ⟨t, ty, ek⟩ := isGl_ok T.own rs rx m e
      exact call_isi pins s σ H _ us Q I r ⟨x, _, t, _, _, rfl, .own _, ty, ek, p _ _ _ Ext.refl rs rfl⟩
    · exact p.elim
  · obtain ⟨x, _, e1, rx, e2⟩ := rd
    cases e2; subst e1; cases rx
    exact call_abs pins s σ H _ us Q I r ⟨_, rfl, p _ _ _ Ext.refl rs rfl⟩
  · obtain ⟨x, _, e1, rx, e2⟩ := rd
    cases e2; subst e1
    split at p
    · rename_i q e
      obtain ⟨u, eu, ru⟩ := vals1 r
      subst eu
      obtain ⟨i, c, fs, px, Cl, g, ox, od, ed, ec, ho, ex, eu, mc, J, me, hf, hfn, ck⟩ := spec_ok T I ru rs rx e
      subst ed ex eu
      have hr2 : Room lv X.A.in1 := ⟨hr.hd, by have := hr.dp; show X.A.depth + 3 * lv + 5 < _; omega, by have := hr.un; show X.A.units + 1 + 16 * lv + 200 < _; omega⟩
      refine abs_own I.kIn J me.at_ hf ?_
      exact code_noex (us := [.ref px]) (vs := [.ref px]) (ds := [.ref i]) ck hr2 I.ok.frames I (.cons rfl .nil) rs (Reps.one rx) (noex_post p) fun z s2 hz => hz
    · exact p.elim
  · obtain ⟨x, _, e1, rx, y, _, e2, ry, e3⟩ := rd
    cases e3; subst e2; subst e1; cases rx; cases ry
    exact call_min2 hcalm pins s σ H _ us Q I r ⟨_, _, rfl, p _ _ _ Ext.refl rs rfl⟩
  · obtain ⟨x, _, e1, rx, y, _, e2, ry, e3⟩ := rd
    cases e3; subst e2; subst e1; cases rx; cases ry
    exact call_max2 hcalm pins s σ H _ us Q I r ⟨_, _, rfl, p _ _ _ Ext.refl rs rfl⟩
  · exact p.elim
theorem s_blt {bf : B} {p' : Pos} (hcalm : X.calm = true) (T : Txt2 X gi C lv) (hr : Room (lv + 1) X.A) (tk : Takes X W) (hg : Gl X (bf.nm : Str)) (hm : X.mg (bf.nm : Str) = none) (ha : AX X W gi C es as) (hs : noStar es = true) (hne : es ≠ []) : EX X W gi C (.Call (.Name (bf.nm : Str) p') es [] pos) (.prim (.b bf) as) := by
  refine ⟨fun pins s σ H Q I ⟨ρ, v, h, rs, er, p⟩ => ?_⟩
  simp only [evE, prD] at p
  have hn : (bf.nm : Str) ≠ "__name__" := by cases bf <;> decide
  have hdb : ((bf.nm : Str) == ("__debug__" : Str)) = false := by cases bf <;> decide
  refine wpAny_Call_Name_kw (ld_blt I hg hm bf.boot ?_ hn hdb)
  have run := ha.run pos pins s σ H (fun xs H1 => ∃ ρ1 ds h1, RSh X.K X.mg ρ1 H1 h1 ∧ Reps X.K X.mg ρ1 H1 ds xs ∧ PostE X.K X.mg W ρ1 H1 σ Q (bltD gi C bf ds h1)) I ⟨ρ, v, h, rs, er, p.bind fun ρ1 H1 d h1 x e1 s1 r1 p1 => ⟨ρ1, d, h1, s1, r1, p1⟩⟩
  have run2 : wpAny (model X.prog X.w) X.A (spliced (backTo pos (starEach es X.env))) (fun us s1 => wpAny (model X.prog X.w) X.A (call bf.val us) (EP X pins σ Q) X.xe s1) X.xe s :=
    thn run fun us s1 ⟨xs, H1, I1, rx, ρ1, ds, h1, rs1, r1, p1⟩ => blt_ok hcalm T hr tk I1 rx rs1 r1 p1
  cases es with
  | nil => exact absurd rfl hne
  | cons e r =>
    unfold noStar at hs
    rw [Bool.and_eq_true] at hs
    have he := star_of (e := e) (by simpa using hs.1) r X.env
    have hpl := plain_of pos X.env hs.2
    cases bf with
    | len => exact PyProof.Rows.callWith_builtin1 run2 he hpl
    | isi => exact PyProof.Rows.callWith_builtin1 run2 he hpl
    | abs => exact PyProof.Rows.callWith_builtin1 run2 he hpl
    | min => exact PyProof.Rows.callWith_builtin1 run2 he hpl
    | max => exact PyProof.Rows.callWith_builtin1 run2 he hpl
    | int => exact PyProof.Rows.callWith_type1 run2 he hpl
    | bool => exact PyProof.Rows.callWith_type1 run2 he hpl
    | str => exact PyProof.Rows.callWith_type1 run2 he hpl
theorem base_of {o : Expr} (h : isCall0 o = false) (f : Str) (env : Env) (w : Sem Value) : attributeBase o f env w = w := by
  unfold attributeBase
  split
  · cases h
  · rfl
/-- e.f: an attribute, a property, a constant of the class -/
theorem s_attr {f : Str} (T : Txt2 X gi C lv) (hr : Room (lv + 1) X.A) (ha : EX X W gi C ea a) (hb : isCall0 ea = false) : EX X W gi C (.Attribute ea f pos) (.attr a f) := by
  refine ⟨fun pins s σ H Q I ⟨ρ, v, h, rs, er, p⟩ => ?_⟩
  simp only [evE] at p
  refine attr_of (base_of hb f X.env _) (run1 ha I rs er p fun u s1 x ρ1 H1 d1 h1 I1 rx e1 rs1 er1 r1 p1 => ?_)
  split at p1
  · rename_i c fs ec
    split at p1
    · rename_i ho
      obtain ⟨i, e0, ei⟩ := clsOf_ins ec
      subst e0
      obtain ⟨px, Cl, dx, gs, ex, _, m, F, hH, rf, _⟩ := ins_ty T.own ho rs1 r1 ei
      subst ex
      cases rx
      split at p1
      · rename_i q em
        obtain ⟨pa, g, hp, ck⟩ := T.at_ c _ _ Cl ho em m
        obtain ⟨mA, O, _, _, _, _⟩ := ins_get I1.hok hH
        obtain ⟨od, J, _⟩ := O.look
        obtain ⟨rest, hrec⟩ := hp.rec_
        have I2 := I1.tok (s1.toks + 1)
        have hc : (PySem.W.clsIn X.K Cl).isSome = true := by
          obtain ⟨cd, hc, _⟩ := PySem.W.any_some F.cl.hd
          rw [hc]
          rfl
        refine PySem.W.get_bind I1.kIn J (PySem.W.plainGet_of (F.cl.get f)).1 (PySem.W.findObj_data hc hp.at_ hp.get hp.tak) (PySem.W.plainGet_of (F.cl.get f)).2 (wpAny_call (PySem.W.prop_get (s := { s1 with toks := s1.toks + 1 }) I1.kIn hrec ?_))
        refine codeAny_mono (ck X.A.in1 X.stack { s1 with toks := s1.toks + 1 } H1 [.ref px] [.ref px] Q (fun _ _ _ => False) ρ1 [.ref i] h1 hr.in1 I2.env0.in1 (.cons rfl .nil) rs1 (Reps.one r1) (noex_post p1)) fun r s' hq => ?_
        cases r with
        | error er => obtain ⟨_, _, _, _, _, _, _, _, _, _, _, _, z⟩ := hq; exact z.elim
        | ok fl =>
          cases fl with
          | ret u =>
            obtain ⟨v, H', I3, rv, q3⟩ := I2.after hq
            show wpAny _ _ (handedOut u) _ _ _
            rw [PySem.W.handedOut_of (handed_of rv)]
            exact wpAny_pure ⟨v, H', I3, rv, q3⟩
          | next => exact False.elim hq
          | brk => exact False.elim hq
          | cont => exact False.elim hq
      · rename_i d em
        obtain ⟨vv, uu, hcon, hrep⟩ := T.at_ c _ _ Cl ho em m
        split at p1
        · rename_i el
          refine getcon_ok I1 hH F.cl hcon (rf.look.2 el) (fun s' I' => ⟨vv, H1, I', hcon.rel, p1 _ _ _ Ext.refl rs1 (hrep _ _)⟩)
        · exact p1.elim
      · rename_i em
        have hn := T.at_ c _ _ Cl ho em m
        split at p1
        · rename_i d el
          obtain ⟨vv, hl, hrep⟩ := rf.look.1 d el
          exact getattr_ok I1 hH F.cl hn hl (fun u' s' I' ru => ⟨vv, H1, I', ru, p1 _ _ _ Ext.refl rs1 hrep⟩)
        · exact p1.elim
      · exact p1.elim
    · exact p1.elim
  · exact p1.elim
end
end Mp

set_option Elab.async false
set_option linter.all false
set_option maxRecDepth 100000
set_option maxHeartbeats 1000000
/-! Mp: methods, slices, f-strings, chains as expressions. -/
namespace Mp
open PySem PySem.Spec PyProof.Rows L2
open PySem (Expr)
open PySem.Builtin.Str (subAt)

section
variable {X : Cx} {W : WX} {gi : GI} {C : Cal} {lv : Nat} {pins : List (Addr × Obj)} {σ : L2.St} {s : Shared} {H : Hp} {Q : VK} {ρ : List Addr} {h : HD} {v : Ev} {ea eb ec : Expr} {a b c : E} {pos apos : Pos} {es : List Expr} {as : List E}
theorem all_plain (pos : Pos) (env : Env) : ∀ {es : List Expr}, noStar es = true → (backTo pos (starEach es env)).all (fun x => !x.1) = true
  | [], _ => rfl
  | e :: r, hs => by
    unfold noStar at hs
    rw [Bool.and_eq_true] at hs
    rw [star_of (by simpa using hs.1)]
    show (!false && (backTo pos (starEach r env)).all (fun x => !x.1)) = true
    rw [all_plain pos env hs.2]
    rfl
/-- o.m(..): the object, then what getMethod gives, then the call -/
theorem meth_run {m : Str} {env : Env} {A : Around} {M : Model} {Q : Value → Shared → Prop} {E : Value → Shared → Prop} (hb : isCall0 ea = false) (hl : (apos.endLine == pos.line) = true) (hn : es.length ≤ 29) (hs : noStar es = true)
    (h : wpAny M A (eval ea env) (fun ov s₁ => wpAny M A (getMethod ov m (plainOf ea env)) (fun fx s₂ => wpAny M A (callWith pos fx.1 fx.2 (backTo pos (starEach es env)) []) Q E s₂) E s₁) E s) :
    wpAny M A (eval (.Call (.Attribute ea m apos) es [] pos) env) Q E s := by
  rw [arm_eval_Call, base_of hb]
  refine wpAny_bind (wpAny_mono h (fun ov s₁ h₁ => wpAny_bind (wpAny_standAt ?_)) fun _ _ x => x)
  have hf : methodCallForm (es.length + ([] : List Keyword).length) (backTo pos (starEach es env)) (backToKw pos (keywordEach [] env)) = true := by
    unfold methodCallForm
    rw [Bool.and_eq_true, Bool.and_eq_true]
    refine ⟨⟨all_plain pos env hs, rfl⟩, ?_⟩
    show decide (es.length + 0 + 0 < 30) = true
    exact decide_eq_true (by omega)
  rw [mcall_line hf hl]
  exact wpAny_bind (wpAny_holding (wpAny_mono h₁ (fun fx s₂ h₂ => h₂) fun _ _ x => x))
/-- a built-in method's call: the arguments, then the call -/
theorem callM {id : String} {u : Value} {fd : List D → HD → R D} (ha : AX X W gi C es as) (hs : noStar es = true) (hl : es.length = as.length) (I : Inv X pins σ H s) (rs : RSh X.K X.mg ρ H h) (er : EvR X.K X.mg ρ H v σ)
    (p : PostE X.K X.mg W ρ H σ Q ((evEs gi C as v h).bind fd))
    (hc : ∀ us s1 xs ρ1 H1 ds h1, Inv X pins σ H1 s1 → Vals xs us → Ext ρ H ρ1 H1 → RSh X.K X.mg ρ1 H1 h1 → Reps X.K X.mg ρ1 H1 ds xs → PostE X.K X.mg W ρ1 H1 σ Q (fd ds h1) → wpAny (model X.prog X.w) X.A (call (.builtin id) (u :: us)) (EP X pins σ Q) X.xe s1) :
    wpAny (model X.prog X.w) X.A (callWith pos (.builtin id) [u] (backTo pos (starEach es X.env)) []) (EP X pins σ Q) X.xe s := by
  have run : wpAny (model X.prog X.w) X.A (spliced (backTo pos (starEach es X.env))) (fun us s1 => wpAny (model X.prog X.w) X.A (call (.builtin id) (u :: us)) (EP X pins σ Q) X.xe s1) X.xe s := by
    refine thn (ha.run pos pins s σ H (fun xs H1 => ∃ ρ1 ds h1, Ext ρ H ρ1 H1 ∧ RSh X.K X.mg ρ1 H1 h1 ∧ Reps X.K X.mg ρ1 H1 ds xs ∧ PostE X.K X.mg W ρ1 H1 σ Q (fd ds h1)) I ⟨ρ, v, h, rs, er, p.bind fun ρ1 H1 d h1 x e1 s1 r1 p1 => ⟨ρ1, d, h1, e1, s1, r1, p1⟩⟩) fun us s1 ⟨xs, H1, I1, rx, ρ1, ds, h1, e1, rs1, r1, p1⟩ => ?_
    exact hc us s1 xs ρ1 H1 ds h1 I1 rx e1 rs1 r1 p1
  refine Calls.callWith_builtin (plain_of pos X.env hs) ?_
  cases es with
  | nil =>
    cases as with
    | nil =>
      have p0 : PostE X.K X.mg W ρ H σ Q (fd [] h) := by simpa only [evEs, bind_ok] using p
      exact PySem.evalArgs_none (hc [] s [] ρ H [] h I .nil Ext.refl rs rfl p0)
    | cons _ _ => cases hl
  | cons e r =>
    unfold noStar at hs
    rw [Bool.and_eq_true] at hs
    rw [star_of (by simpa using hs.1)] at run ⊢
    exact Calls.evalArgs_plain run
def bmT : BM → String
  | .rmpre => "str" | .startsw => "str" | _ => "list"
def bmId : BM → String
  | .append => "list.append" | .pop => "list.pop" | .reverse => "list.reverse" | .extend => "list.extend" | .rmpre => "str.removeprefix" | .startsw => "str.startswith"
theorem isPre_eq : ∀ (b a : List Nat), isPre b a = (a.take b.length == b)
  | [], a => by simp [isPre]
  | _ :: _, [] => by simp [isPre]
  | x :: r, y :: s => by
    simp only [isPre, isPre_eq r s, List.length_cons, List.take_succ_cons]
    by_cases e : x = y
    · subst e
      simp
    · have e' : ¬ y = x := fun z => e z.symm
      rw [decide_eq_false e, Bool.false_and]
      symm
      rw [beq_eq_false_iff_ne]
      intro z
      injection z with z1 z2
      exact e' z1
theorem isPre_len {b a : List Nat} (h : isPre b a = true) : b.length ≤ a.length := by
  rw [isPre_eq, beq_iff_eq] at h
  have := congrArg List.length h
  rw [List.length_take] at this
  omega
theorem pre_eq (x y : Str) : (decide (0 + y.length ≤ x.length) && subAt x y 0) = isPre y.cps.toList x.cps.toList := by
  rw [StrLaws.subAt_eq, List.drop_zero]
  have e : y.length = y.cps.toList.length := by simp [Str.length]
  rw [e, isPre_eq]
  cases q : (x.cps.toList.take y.cps.toList.length == y.cps.toList) with
  | false => rw [Bool.and_false]
  | true =>
    have z := isPre_len (b := y.cps.toList) (a := x.cps.toList) (by rw [isPre_eq]; exact q)
    have e2 : x.length = x.cps.toList.length := by simp [Str.length]
    rw [Bool.and_true, e2]
    exact decide_eq_true (by omega)
theorem rmpre_eq (x y : Str) : Txt.removeprefix x y = if isPre y.cps.toList x.cps.toList then sOf (x.cps.toList.drop y.length) else x := by
  rw [StrLaws.removeprefix_eq, pre_eq]
  congr 1
  unfold sOf
  congr 2
  rw [List.take_of_length_le]
  rw [List.length_drop]
  simp [Str.length]
theorem bm_ok {bm : BM} {d : D} {ds : List D} {x : V} {xs : List V} {u : Value} {us : List Value} (I : Inv X pins σ H s) (r1 : RelV x u) (r : Vals xs us) (rs : RSh X.K X.mg ρ H h) (da : Rep X.K X.mg ρ H d x) (rd : Reps X.K X.mg ρ H ds xs)
    (p : PostE X.K X.mg W ρ H σ Q (bmD bm d ds h)) : wpAny (model X.prog X.w) X.A (call (.builtin (bmId bm)) (u :: us)) (EP X pins σ Q) X.xe s := by
  unfold bmD at p
  split at p
  · obtain ⟨y, _, e1, ry, e2⟩ := rd
    cases e2; subst e1
    rename_i i d0 h0
    split at p
    · rename_i xs0 e
      obtain ⟨px, ep, _, vs, hH, rv⟩ := rs.at_ e
      have ex := ref_at da ep
      subst ex
      split at p
      · rename_i hz
        refine mt_append pins s σ H _ [y] u us Q I r1 r ⟨px, vs, y, rfl, rfl, hH, by rw [rv.len]; exact Nat.lt_of_lt_of_le hz (by decide), ?_⟩
        have n1 : ∀ xs, H px ≠ some (.tup xs) := fun xs z => by rw [hH] at z; cases z
        have n2 : ∀ o u, H px ≠ some (.frz o u) := fun o u z => by rw [hH] at z; cases z
        have m := List.mem_of_getElem? ep
        have ew : Ext ρ H ρ (upd H px (.lst (vs ++ [y]))) := Ext.write m n1 n2
        exact p _ _ _ ew (rs.write ep n1 n2 ⟨_, upd_same, (rv.ext ew).append (Reps.one (ry.ext ew))⟩) rfl
      · exact p.elim
    · exact p.elim
  · cases rd
    rename_i i h0
    split at p
    · rename_i xs0 e
      obtain ⟨px, ep, _, vs, hH, rv⟩ := rs.at_ e
      have ex := ref_at da ep
      subst ex
      split at p
      · rename_i d0 el
        rw [List.getLast?_eq_getElem?] at el
        obtain ⟨y, ey, ry⟩ := rv.get el
        rw [← rv.len] at ey
        refine mt_pop pins s σ H _ [] u us Q I r1 r ⟨px, vs, y, rfl, rfl, hH, ey, ?_⟩
        have n1 : ∀ xs, H px ≠ some (.tup xs) := fun xs z => by rw [hH] at z; cases z
        have n2 : ∀ o u, H px ≠ some (.frz o u) := fun o u z => by rw [hH] at z; cases z
        have m := List.mem_of_getElem? ep
        have ew : Ext ρ H ρ (upd H px (.lst vs.dropLast)) := Ext.write m n1 n2
        exact p _ _ _ ew (rs.write ep n1 n2 ⟨_, upd_same, (rv.ext ew).dropLast⟩) (ry.ext ew)
      · exact p.elim
    · exact p.elim
  · cases rd
    split at p
    · rename_i xs0 e
      obtain ⟨px, ep, _, vs, hH, rv⟩ := rs.at_ e
      have ex := ref_at da ep
      subst ex
      refine mt_reverse pins s σ H _ [] u us Q I r1 r ⟨px, vs, rfl, rfl, hH, ?_⟩
      have n1 : ∀ xs, H px ≠ some (.tup xs) := fun xs z => by rw [hH] at z; cases z
      have n2 : ∀ o u, H px ≠ some (.frz o u) := fun o u z => by rw [hH] at z; cases z
      have m := List.mem_of_getElem? ep
      have ew : Ext ρ H ρ (upd H px (.lst vs.reverse)) := Ext.write m n1 n2
      exact p _ _ _ ew (rs.write ep n1 n2 ⟨_, upd_same, (rv.ext ew).reverse⟩) rfl
    · exact p.elim
  · obtain ⟨y, _, e1, ry, e2⟩ := rd
    cases e2; subst e1
    split at p
    · rename_i xs0 ys0 e e'
      obtain ⟨px, ep, _, vs, hH, rv⟩ := rs.at_ e
      obtain ⟨py, ep', _, ws, hH', rw'⟩ := rs.at_ e'
      have ex := ref_at da ep
      have ey := ref_at ry ep'
      subst ex ey
      split at p
      · rename_i hz
        refine mt_extend pins s σ H _ _ u us Q I r1 r ⟨px, py, vs, ws, rfl, rfl, hH, hH', by rw [rv.len, rw'.len]; exact Nat.le_trans hz (by decide), ?_⟩
        have n1 : ∀ xs, H px ≠ some (.tup xs) := fun xs z => by rw [hH] at z; cases z
        have n2 : ∀ o u, H px ≠ some (.frz o u) := fun o u z => by rw [hH] at z; cases z
        have m := List.mem_of_getElem? ep
        have ew : Ext ρ H ρ (upd H px (.lst (vs ++ ws))) := Ext.write m n1 n2
        exact p _ _ _ ew (rs.write ep n1 n2 ⟨_, upd_same, (rv.ext ew).append (rw'.ext ew)⟩) rfl
      · exact p.elim
    · exact p.elim
  · obtain ⟨y, _, e1, ry, e2⟩ := rd
    cases e2; subst e1; cases ry; cases da
    split at p
    · rename_i hz
      refine mt_removeprefix pins s σ H _ _ u us Q I r1 r ⟨_, _, rfl, rfl, cap_le hz, ?_⟩
      rw [rmpre_eq]
      exact p _ _ _ Ext.refl rs rfl
    · exact p.elim
  · obtain ⟨y, _, e1, ry, e2⟩ := rd
    cases e2; subst e1; cases ry; cases da
    refine mt_startswith pins s σ H _ _ u us Q I r1 r ⟨_, _, rfl, rfl, ?_⟩
    have e : ∀ x y : Str, Txt.startswith x y = isPre y.cps.toList x.cps.toList := fun x y => pre_eq x y
    rw [e]
    exact p _ _ _ Ext.refl rs rfl
  · exact p.elim
/-- the type of what a built-in method is called on -/
theorem bm_ty {bm : BM} {d : D} {x : V} (rs : RSh X.K X.mg ρ H h) (da : Rep X.K X.mg ρ H d x) (hd : bmTy bm d h = true) : tyV X.K (bmT bm) x H := by
  unfold bmTy at hd
  split at hd
  · cases da; rfl
  · cases da; rfl
  · split at hd
    · rename_i e
      obtain ⟨px, ep, _, vs, hH, rv⟩ := rs.at_ e
      have ex := ref_at da ep
      subst ex
      cases bm <;> first | (cases hd; done) | exact .inl ⟨rfl, vs, .of hH⟩
    · cases hd
  · cases hd
theorem bm_slot (bm : BM) : PlainAttrs (bmT bm) ∧ typeOf (.builtin (bmId bm)) = pure (.type "method_descriptor") := by
  cases bm
  · exact ⟨PySem.F.plainAttrs_list, PySem.F.type_list_append⟩
  · exact ⟨PySem.F.plainAttrs_list, PySem.F.type_list_pop⟩
  · exact ⟨PySem.F.plainAttrs_list, PySem.F.type_list_reverse⟩
  · exact ⟨PySem.F.plainAttrs_list, PySem.F.type_list_extend⟩
  · exact ⟨PySem.F.plainAttrs_str, PySem.F.type_str_removeprefix⟩
  · exact ⟨PySem.F.plainAttrs_str, PySem.F.type_str_startswith⟩
theorem bm_nm {m : Str} {bm : BM} (h : bmOf m = some bm) : Slot (bmT bm) m (bmId bm) := by
  unfold bmOf at h
  split at h
  · rename_i e; cases h; subst e; exact PySem.F.slot_list_append
  split at h
  · rename_i e; cases h; subst e; exact PySem.F.slot_list_pop
  split at h
  · rename_i e; cases h; subst e; exact PySem.F.slot_list_reverse
  split at h
  · rename_i e; cases h; subst e; exact PySem.F.slot_list_extend
  split at h
  · rename_i e; cases h; subst e; exact PySem.F.slot_str_removeprefix
  split at h
  · rename_i e; cases h; subst e; exact PySem.F.slot_str_startswith
  · cases h
theorem clsOf_gl {c : Str} : clsOf (.gl c) h = none := rfl
theorem s_meth {m : Str} (T : Txt2 X gi C lv) (hr : Room (lv + 1) X.A) (tk : Takes X W) (ho : EX X W gi C ea a) (ha : AX X W gi C es as) (hb : isCall0 ea = false) (hl : (apos.endLine == pos.line) = true) (hn : es.length ≤ 29) (hs : noStar es = true) (hlen : es.length = as.length) :
    EX X W gi C (.Call (.Attribute ea m apos) es [] pos) (.meth a m (bmOf m) as) := by
  refine ⟨fun pins s σ H Q I ⟨ρ, v, h, rs, er, p⟩ => ?_⟩
  simp only [evE] at p
  refine meth_run hb hl hn hs (run1 ho I rs er p fun u s1 x ρ1 H1 d1 h1 I1 rx e1 rs1 er1 r1 p1 => ?_)
  split at p1
  · -- a class
    rename_i c
    split at p1
    · rename_i q em
      split at em
      · rename_i ho
        obtain ⟨Cl, mC, rr⟩ := r1
        subst rr
        cases rx
        obtain ⟨pr, g, cr, cm, ck⟩ := T.at_ c _ _ Cl ho em mC
        refine ClX.getmethcm_ok I1 cr cm fun s2 I2 => ?_
        have go : ∀ us s3 xs ρ3 H3 ds h3, Inv X ((s1.heap.objs.size, PySem.W.methodObj (.ref g) (.ref Cl)) :: pins) σ H3 s3 → Vals xs us → RSh X.K X.mg ρ3 H3 h3 → Reps X.K X.mg ρ3 H3 ds xs → PostE X.K X.mg W ρ3 H3 σ Q (C q (.gl c :: ds) h3) →
            wpAny (model X.prog X.w) X.A (call (.ref s1.heap.objs.size) us) (EP X pins σ Q) X.xe s3 := fun us s3 xs ρ3 H3 ds h3 I3 rv rs3 r3 p3 => by
          have z : wpAny (model X.prog X.w) X.A (call (.ref s1.heap.objs.size) us) (EP X ((s1.heap.objs.size, PySem.W.methodObj (.ref g) (.ref Cl)) :: pins) σ Q) X.xe s3 := by
            refine wpAny_call (PySem.W.method_call (ClX.pin_at I3) (codeAny_mono (ck X.A X.stack s3 H3 (.ref Cl :: us) (.ref Cl :: xs) Q (WE W σ) ρ3 (.gl c :: ds) h3 (hr.mono (Nat.le_succ _)) I3.env0 (.cons rfl rv) rs3 ⟨_, _, rfl, ⟨Cl, mC, rfl⟩, r3⟩ p3.toX) fun r s' hq => ?_))
            cases r with
            | error e => exact passAt tk σ _ H3 s3 e s' I3 hq
            | ok fl =>
              cases fl with
              | ret u => exact I3.after hq
              | next => exact False.elim hq
              | brk => exact False.elim hq
              | cont => exact False.elim hq
          exact thn z fun _ _ y => ClX.unpinE y
        cases es with
        | nil =>
          cases as with
          | nil =>
            have p0 : PostE X.K X.mg W ρ1 H1 σ Q (C q [.gl c] h1) := by simpa only [evEs, bind_ok] using p1
            exact PySem.W.callWith_M0 (first := []) ⟨ClX.pin_at I2, I2.kIn⟩ cm.fi (go [] s2 [] ρ1 H1 [] h1 I2 .nil rs1 rfl p0)
          | cons _ _ => cases hlen
        | cons e r =>
          have hs' := hs
          unfold noStar at hs
          rw [Bool.and_eq_true] at hs
          refine ClX.callwith_cm I2 (ClX.base_none I1 (Nat.le_refl _)) cm.fi ?_ (star_of (by simpa using hs.1) r X.env) (plain_of pos X.env hs.2)
          refine thn (ha.run pos _ s2 σ H1 (fun xs H3 => ∃ ρ3 ds h3, Ext ρ1 H1 ρ3 H3 ∧ RSh X.K X.mg ρ3 H3 h3 ∧ Reps X.K X.mg ρ3 H3 ds xs ∧ PostE X.K X.mg W ρ3 H3 σ Q (C q (.gl c :: ds) h3)) I2 ⟨ρ1, v, h1, rs1, er1, p1.bind fun ρ1 H1 d h1 x e1 s1 r1 p1 => ⟨ρ1, d, h1, e1, s1, r1, p1⟩⟩) fun us s3 ⟨xs, H3, I3, rx, ρ3, ds, h3, e3, rs3, r3, p3⟩ => ?_
          exact ⟨⟨ClX.pin_at I3, I3.kIn⟩, go us s3 xs ρ3 H3 ds h3 I3 rx rs3 r3 p3⟩
      · cases em
    · exact p1.elim
  · rename_i nog
    split at p1
    · rename_i c fs ec
      split at p1
      · rename_i ho
        obtain ⟨i, e0, ei⟩ := clsOf_ins ec
        subst e0
        obtain ⟨px, Cl, dx, gs, ex, _, mC, F, hH, rf, _⟩ := ins_ty T.own ho rs1 r1 ei
        subst ex
        cases rx
        split at p1
        · rename_i q el em
          obtain ⟨g, hm, hf, _, ck⟩ := T.at_ c _ _ Cl ho em mC
          refine getmeth_ok I1 hH F.cl hm (rf.look.2 el) ?_
          exact callK (first := [.ref px]) hm.kp ha hs hlen I1 rs1 er1 p1 fun us s2 xs ρ2 H2 ds h2 I2 rv e2 rs2 r2 p2 =>
            call_ok (vs := .ref px :: xs) (ds := .ref i :: ds) ck (hr.mono (Nat.le_succ _)) tk I2 (.cons rfl rv) rs2 ⟨_, _, rfl, r1.ext e2, r2⟩ p2
        · exact p1.elim
      · exact p1.elim
    · split at p1
      · rename_i b eb
        split at p1
        · rename_i hty
          obtain ⟨hT, hd⟩ := tyV_is I1 rx (bm_ty rs1 r1 hty)
          refine PySem.getMethod_builtin hT (bm_slot b).1 (bm_nm eb) (bm_slot b).2 hd ?_
          exact callM ha hs hlen I1 rs1 er1 p1 fun us s2 xs ρ2 H2 ds h2 I2 rv e2 rs2 r2 p2 => bm_ok I2 rx rv rs2 (r1.ext e2) r2 p2
        · exact p1.elim
      · exact p1.elim

/-! ### slices -/
theorem slD_noex {d : D} {l u : Option Int} (p : PostE X.K X.mg W ρ H σ Q (slD d l u h)) : PostE X.K X.mg (fun _ _ _ _ => False) ρ H [] Q (slD d l u h) := by
  cases d with
  | str z =>
    unfold slD at p ⊢
    dsimp only at p ⊢
    by_cases e : z.length ≤ cap
    · rw [if_pos e] at p ⊢; exact p
    · rw [if_neg e] at p; exact p.elim
  | ref i =>
    unfold slD at p ⊢
    dsimp only at p ⊢
    cases e : lsD (.ref i) h with
    | some xs => rw [e] at p; exact p
    | none => rw [e] at p; exact p.elim
  | kls xs => exact p
  | _ => exact p.elim
theorem slR : SlR X (fun x l u H Q => ∃ ρ a h, RSh X.K X.mg ρ H h ∧ Rep X.K X.mg ρ H a x ∧ PostE X.K X.mg (fun _ _ _ _ => False) ρ H [] Q (slD a l u h)) :=
  fun pins s σ H x v vl vu l u sl Q I rx hs pl pu ⟨ρ, a, h, rs, da, p⟩ => sl_ok l u pins s σ H x v vl vu l u sl Q I rx hs pl pu ⟨ρ, a, h, rfl, rfl, rs, da, p⟩
theorem s_sl0 {p2 : Pos} (ha : EX X W gi C ea a) : EX X W gi C (.Subscript ea (.Slice none none none p2) pos) (.prim (.sl false false) [a]) := by
  refine PE.wk (pe_slice slR ha po_none po_none) fun σ H Q ⟨ρ, v, h, rs, er, p⟩ => ?_
  simp only [evE, evEs_one] at p
  exact ⟨ρ, v, h, rs, er, p.bind fun ρ1 H1 d h1 x e1 s1 r1 p1 => ⟨ρ1, d, h1, s1, r1, slD_noex (by simpa only [prD] using p1)⟩⟩
theorem s_sl1 {p2 : Pos} (ha : EX X W gi C ea a) (hb : EX X W gi C eb b) : EX X W gi C (.Subscript ea (.Slice (some eb) none none p2) pos) (.prim (.sl true false) [a, b]) := by
  refine PE.wk (pe_slice slR ha (po_some hb) po_none) fun σ H Q ⟨ρ, v, h, rs, er, p⟩ => ?_
  simp only [evE, evEs_two] at p
  refine ⟨ρ, v, h, rs, er, p.bind fun ρ1 H1 d h1 x e1 s1 r1 p1 => ⟨ρ1, v, h1, s1, er.ext e1, p1.bind fun ρ2 H2 d2 h2 y e2 s2 r2 p2 => ?_⟩⟩
  cases d2 with
  | int i => cases r2; exact ⟨i, rfl, ρ2, d, h2, s2, r1.ext e2, slD_noex p2⟩
  | _ => exact p2.elim
theorem s_sl2 {p2 : Pos} (ha : EX X W gi C ea a) (hb : EX X W gi C eb b) : EX X W gi C (.Subscript ea (.Slice none (some eb) none p2) pos) (.prim (.sl false true) [a, b]) := by
  refine PE.wk (pe_slice slR ha po_none (po_some hb)) fun σ H Q ⟨ρ, v, h, rs, er, p⟩ => ?_
  simp only [evE, evEs_two] at p
  refine ⟨ρ, v, h, rs, er, p.bind fun ρ1 H1 d h1 x e1 s1 r1 p1 => ⟨ρ1, v, h1, s1, er.ext e1, p1.bind fun ρ2 H2 d2 h2 y e2 s2 r2 p2 => ?_⟩⟩
  cases d2 with
  | int i => cases r2; exact ⟨i, rfl, ρ2, d, h2, s2, r1.ext e2, slD_noex p2⟩
  | _ => exact p2.elim
theorem s_sl3 {p2 : Pos} (ha : EX X W gi C ea a) (hb : EX X W gi C eb b) (hc : EX X W gi C ec c) : EX X W gi C (.Subscript ea (.Slice (some eb) (some ec) none p2) pos) (.prim (.sl true true) [a, .prim .asI [b], c]) := by
  refine PE.wk (pe_slice slR ha (po_some hb) (po_some hc)) fun σ H Q ⟨ρ, v, h, rs, er, p⟩ => ?_
  simp only [evE, evEs_three, evEs_one, bind_assoc] at p
  refine ⟨ρ, v, h, rs, er, p.bind fun ρ1 H1 d h1 x e1 s1 r1 p1 => ⟨ρ1, v, h1, s1, er.ext e1, p1.bind fun ρ2 H2 d2 h2 y e2 s2 r2 p2 => ?_⟩⟩
  cases d2 with
  | int i =>
    cases r2
    refine ⟨i, rfl, ρ2, v, h2, s2, (er.ext e1).ext e2, Post.bind (m := evE gi C c v h2) p2 fun ρ3 H3 d3 h3 z e3 s3 r3 p3 => ?_⟩
    cases d3 with
    | int j => cases r3; exact ⟨j, rfl, ρ3, d, h3, s3, (r1.ext e2).ext e3, slD_noex p3⟩
    | _ => exact p3.elim
  | _ => exact p2.elim
/-! ### f-strings -/
theorem s_fmt (ha : EX X W gi C ea a) : EX X W gi C (.FormattedValue ea (-1) none pos) (.prim .fmt [a]) := by
  refine PE.wk (pe_fmt ha) fun σ H Q ⟨ρ, v, h, rs, er, p⟩ => ?_
  simp only [evE, evEs_one] at p
  refine ⟨ρ, v, h, rs, er, p.bind fun ρ1 H1 d h1 x e1 s1 r1 p1 => ?_⟩
  simp only [prD, fmtD] at p1
  split at p1
  · split at p1
    · rename_i hz
      cases r1
      exact .inl ⟨_, rfl, cap_le hz, p1 _ _ _ Ext.refl s1 rfl⟩
    · exact p1.elim
  · split at p1
    · rename_i hz
      cases r1
      exact .inr ⟨_, rfl, hz, p1 _ _ _ Ext.refl s1 rfl⟩
    · exact p1.elim
  · exact p1.elim
def tsOf (X : Cx) (W : WX) (gi : GI) (C : Cal) : List E → List TE
  | [] => []
  | a :: r => tD X.K X.mg W (evE gi C a) :: tsOf X W gi C r
theorem js_of : ∀ {as : List E} {acc : Str} {ρ : List Addr} {h : HD} {H : Hp} (rs : RSh X.K X.mg ρ H h) (er : EvR X.K X.mg ρ H v σ), PostE X.K X.mg W ρ H σ Q (evJ gi C as acc v h) → tJs (tsOf X W gi C as) acc σ H fun out H1 => Q (.str out) H1
  | [], acc, ρ, h, H, rs, er, p => by
    simp only [evJ] at p
    exact p _ _ _ Ext.refl rs rfl
  | a :: r, acc, ρ, h, H, rs, er, p => by
    simp only [evJ] at p
    refine ⟨ρ, v, h, rs, er, p.bind fun ρ1 H1 d h1 x e1 s1 r1 p1 => ?_⟩
    cases d with
    | str y =>
      dsimp only at p1
      split at p1
      · rename_i hz
        cases r1
        exact ⟨y, rfl, cap_le hz, js_of s1 (er.ext e1) p1⟩
      · exact p1.elim
    | _ => exact p1.elim
theorem s_join {e1 e2 : Expr} {r : List Expr} (hp : PJ X (e1 :: e2 :: r) (tsOf X W gi C as)) : EX X W gi C (.JoinedStr (e1 :: e2 :: r) pos) (.join as) := by
  refine PE.wk (pe_joined hp) fun σ H Q ⟨ρ, v, h, rs, er, p⟩ => ?_
  simp only [evE] at p
  exact js_of rs er p
theorem s_join1 (ha : EX X W gi C ea a) : EX X W gi C (.JoinedStr [ea] pos) a := pe_joined1 ha
/-! ### -x -/
theorem s_neg (T : Txt2 X gi C lv) (hr : Room (lv + 1) X.A) (tk : Takes X W) (ha : EX X W gi C ea a) : EX X W gi C (.UnaryOp .USub ea pos) (.prim .neg [a]) := by
  refine ⟨fun pins s σ H Q I ⟨ρ, v, h, rs, er, p⟩ => ?_⟩
  simp only [evE, evEs_one] at p
  refine UnaryOp_ (run1 ha I rs er p fun u s1 x ρ1 H1 d1 h1 I1 rx e1 rs1 er1 r1 p1 => ?_)
  cases d1 with
  | int i => cases r1; exact un_neg pins s1 σ H1 _ u Q I1 rx ⟨i, rfl, p1 _ _ _ Ext.refl rs1 rfl⟩
  | ref i =>
    simp only [prD] at p1
    split at p1
    · rename_i q e
      exact own_un (.inr ⟨rfl, rfl⟩) T hr tk I1 rx rs1 r1 e p1
    · exact p1.elim
  | _ => exact p1.elim
theorem s_inv (T : Txt2 X gi C lv) (hr : Room (lv + 1) X.A) (tk : Takes X W) (ha : EX X W gi C ea a) : EX X W gi C (.UnaryOp .Invert ea pos) (.prim .inv [a]) := by
  refine ⟨fun pins s σ H Q I ⟨ρ, v, h, rs, er, p⟩ => ?_⟩
  simp only [evE, evEs_one] at p
  refine UnaryOp_ (run1 ha I rs er p fun u s1 x ρ1 H1 d1 h1 I1 rx e1 rs1 er1 r1 p1 => ?_)
  simp only [prD] at p1
  split at p1
  · rename_i q e
    exact own_un (.inl ⟨rfl, rfl⟩) T hr tk I1 rx rs1 r1 e p1
  · exact p1.elim
/-! ### a < b < c -/
theorem bl_truthy {k : Bool} {x : V} {u : Value} {R : Bool → Shared → Prop} (e : x = .bl k) (rx : RelV x u) (q : R k s) : wpAny (model X.prog X.w) X.A (truthy u) R X.xe s := by
  subst e
  cases rx
  exact wpAny_of_eq rfl q
theorem s_chain {o1 o2 : CmpOp} (T : Txt2 X gi C lv) (hr : Room (lv + 1) X.A) (tk : Takes X W) (ha : EX X W gi C ea a) (hb : EX X W gi C eb b) (hc : EX X W gi C ec c) (hm : lastMarks [o1, o2] [eb, ec] = false) : EX X W gi C (.Compare ea [o1, o2] [eb, ec] pos) (.chain o1 o2 a b c) := by
  refine ⟨fun pins s σ H Q I ⟨ρ, v, h, rs, er, p⟩ => ?_⟩
  simp only [evE] at p
  refine Compare_chain (rs := []) ?_ hm
  refine thn (ha.run pins s σ H (fun x H1 => ∃ ρ1 d1 h1, Ext ρ H ρ1 H1 ∧ RSh X.K X.mg ρ1 H1 h1 ∧ Rep X.K X.mg ρ1 H1 d1 x ∧ PostE X.K X.mg W ρ1 H1 σ Q ((evE gi C b v h1).bind fun y h => (prD gi C (.cmp o1) [d1, y] h).bind fun r h => match r with
    | .bl true => (evE gi C c v h).bind fun z h => prD gi C (.cmp o2) [y, z] h
    | .bl false => .ok (.bl false) h
    | _ => .bad)) I ⟨ρ, v, h, rs, er, p.bind fun ρ1 H1 d h1 x e1 s1 r1 p1 => ⟨ρ1, d, h1, e1, s1, r1, p1⟩⟩) fun u s1 ⟨x, H1, I1, rx, ρ1, d1, h1, e1, rs1, r1, p1⟩ => ?_
  refine chain_link ?_
  refine run1 hb I1 rs1 (er.ext e1) p1 fun w s2 y ρ2 H2 d2 h2 I2 ry e2 rs2 er2 r2 p2 => ?_
  have p3 := p2.bind (RR := Rep X.K X.mg) (Q' := fun z H3 => ∃ k ρ3 h3, z = .bl k ∧ Ext ρ2 H2 ρ3 H3 ∧ RSh X.K X.mg ρ3 H3 h3 ∧ PostE X.K X.mg W ρ3 H3 σ Q (if k then (evE gi C c v h3).bind fun z h => prD gi C (.cmp o2) [d2, z] h else .ok (.bl false) h3)) fun ρ3 H3 d h3 z e3 s3 r3 p3 => by
    cases d with
    | bl k =>
      cases r3
      refine ⟨k, ρ3, h3, rfl, e3, s3, ?_⟩
      cases k <;> exact p3
    | _ => exact p3.elim
  refine thn (cmpP_ok T hr tk I2 rx ry rs2 (r1.ext e2) r2 p3) fun z s3 ⟨zv, H3, I3, rz, k, ρ3, h3, ez, e3, rs3, p4⟩ => ?_
  refine bl_truthy ez rz ?_
  cases k with
  | false =>
    subst ez
    exact ⟨_, H3, I3, rz, p4 _ _ _ Ext.refl rs3 rfl⟩
  | true =>
    refine chain_last ?_
    exact run1 hc I3 rs3 (er2.ext e3) p4 fun w2 s4 y2 ρ4 H4 d4 h4 I4 ry2 e4 rs4 er4 r4 p5 => cmpP_ok T hr tk I4 ry ry2 rs4 ((r2.ext e3).ext e4) r4 p5
theorem t_chain {o1 o2 : CmpOp} (T : Txt2 X gi C lv) (hr : Room (lv + 1) X.A) (tk : Takes X W) (ha : EX X W gi C ea a) (hb : EX X W gi C eb b) (hc : EX X W gi C ec c) (hm : lastMarks [o1, o2] [eb, ec] = false) : TX X W gi C (.Compare ea [o1, o2] [eb, ec] pos) (.chain o1 o2 a b c) := by
  refine ⟨fun pins s σ H Q I ⟨ρ, v, h, rs, er, p⟩ => ?_⟩
  unfold evB asB at p
  simp only [evE, bind_assoc] at p
  refine isTrue_chain (rs := []) ?_ hm
  refine thn (ha.run pins s σ H (fun x H1 => ∃ ρ1 d1 h1, Ext ρ H ρ1 H1 ∧ RSh X.K X.mg ρ1 H1 h1 ∧ Rep X.K X.mg ρ1 H1 d1 x ∧ PostT X.K X.mg W ρ1 H1 σ Q ((evE gi C b v h1).bind fun y h => (prD gi C (.cmp o1) [d1, y] h).bind fun r h => R.bind (match r with
    | .bl true => (evE gi C c v h).bind fun z h => prD gi C (.cmp o2) [y, z] h
    | .bl false => .ok (.bl false) h
    | _ => .bad) fun x h => match truth x h with | some b => .ok b h | none => .bad)) I ⟨ρ, v, h, rs, er, p.bind fun ρ1 H1 d h1 x e1 s1 r1 p1 => ⟨ρ1, d, h1, e1, s1, r1, p1⟩⟩) fun u s1 ⟨x, H1, I1, rx, ρ1, d1, h1, e1, rs1, r1, p1⟩ => ?_
  refine test_link ?_
  refine thn (hb.run pins s1 σ H1 (fun y H2 => ∃ ρ2 d2 h2, Ext ρ1 H1 ρ2 H2 ∧ RSh X.K X.mg ρ2 H2 h2 ∧ Rep X.K X.mg ρ2 H2 d2 y ∧ PostT X.K X.mg W ρ2 H2 σ Q ((prD gi C (.cmp o1) [d1, d2] h2).bind fun r h => R.bind (match r with
    | .bl true => (evE gi C c v h).bind fun z h => prD gi C (.cmp o2) [d2, z] h
    | .bl false => .ok (.bl false) h
    | _ => .bad) fun x h => match truth x h with | some b => .ok b h | none => .bad)) I1 ⟨ρ1, v, h1, rs1, er.ext e1, p1.bind fun ρ1 H1 d h1 x e1 s1 r1 p1 => ⟨ρ1, d, h1, e1, s1, r1, p1⟩⟩) fun w s2 ⟨y, H2, I2, ry, ρ2, d2, h2, e2, rs2, r2, p2⟩ => ?_
  have p3 := p2.bind (RR := Rep X.K X.mg) (Q' := fun z H3 => ∃ k ρ3 h3, z = .bl k ∧ Ext ρ2 H2 ρ3 H3 ∧ RSh X.K X.mg ρ3 H3 h3 ∧ PostT X.K X.mg W ρ3 H3 σ Q (if k then (evE gi C c v h3).bind fun z h => (prD gi C (.cmp o2) [d2, z] h).bind fun x h => match truth x h with | some b => .ok b h | none => .bad else .ok false h3)) fun ρ3 H3 d h3 z e3 s3 r3 p3 => by
    cases d with
    | bl k =>
      cases r3
      refine ⟨k, ρ3, h3, rfl, e3, s3, ?_⟩
      cases k
      · exact p3
      · dsimp only at p3
        rw [bind_assoc] at p3
        exact p3
    | _ => exact p3.elim
  refine thn (cmpP_ok T hr tk I2 rx ry rs2 (r1.ext e2) r2 p3) fun z s3 ⟨zv, H3, I3, rz, k, ρ3, h3, ez, e3, rs3, p4⟩ => ?_
  refine bl_truthy ez rz ?_
  cases k with
  | false => exact ⟨H3, I3, p4 _ _ _ Ext.refl rs3 rfl⟩
  | true =>
    refine test_last ?_
    refine thn (hc.run pins s3 σ H3 (fun y H4 => ∃ ρ4 d4 h4, Ext ρ3 H3 ρ4 H4 ∧ RSh X.K X.mg ρ4 H4 h4 ∧ Rep X.K X.mg ρ4 H4 d4 y ∧ PostT X.K X.mg W ρ4 H4 σ Q ((prD gi C (.cmp o2) [d2, d4] h4).bind fun x h => match truth x h with | some b => .ok b h | none => .bad)) I3 ⟨ρ3, v, h3, rs3, ((er.ext e1).ext e2).ext e3, p4.bind fun ρ1 H1 d h1 x e1 s1 r1 p1 => ⟨ρ1, d, h1, e1, s1, r1, p1⟩⟩) fun w2 s4 ⟨y2, H4, I4, ry2, ρ4, d4, h4, e4, rs4, r4, p5⟩ => ?_
    have p6 := p5.bind (RR := Rep X.K X.mg) (Q' := fun z H5 => ∃ ρ5 d5 h5, RSh X.K X.mg ρ5 H5 h5 ∧ Rep X.K X.mg ρ5 H5 d5 z ∧ PostT X.K X.mg W ρ5 H5 σ Q (match truth d5 h5 with | some b => .ok b h5 | none => .bad)) fun ρ1 H1 d h1 x e2 s2 r3 p3 => ⟨ρ1, d, h1, s2, r3, p3⟩
    refine thn (cmpP_ok T hr tk I4 ry ry2 rs4 ((r2.ext e3).ext e4) r4 p6) fun z2 s5 ⟨zv2, H5, I5, rz2, ρ5, d5, h5, rs5, r5, p7⟩ => ?_
    cases e : truth d5 h5 with
    | none => rw [e] at p7; exact p7.elim
    | some k => rw [e] at p7; exact truthy_ok I5 rz2 rs5 r5 e (p7 _ _ _ Ext.refl rs5 rfl)
end
end Mp

set_option Elab.async false
set_option linter.all false
set_option maxRecDepth 100000
set_option maxHeartbeats 1000000
/-! Mp: what is walked; targets; loops. -/
namespace Mp
open PySem PySem.Spec PyProof.Rows L2
open PySem (Expr)

/-- J walks w's items, from the state at ρ0, H0 on -/
structure WkR (K : PySem.W.Frag) (mg : Mg) (ρ0 : List Addr) (H0 : Hp) (w : Wk) (J : L2.It) : Prop where
  go : ∀ i ρ H h, i < w.items.length → Ext ρ0 H0 ρ H → RSh K mg ρ H h → w.still h → J.go i H
  yl : ∀ i ρ H h x H', Ext ρ0 H0 ρ H → RSh K mg ρ H h → w.still h → J.yld i H x H' → H' = H ∧ ∀ d, w.items[i]? = some d → Rep K mg ρ H d x
  stop : ∀ i ρ H h, w.items.length ≤ i → Ext ρ0 H0 ρ H → RSh K mg ρ H h → w.still h → J.stop i H
abbrev IX (X : Cx) (W : WX) (gi : GI) (C : Cal) (tg e : Expr) (it : It) : Prop := PI X tg e (tX X.K X.mg (WkR X.K X.mg) W (evIt gi C it))

section
variable {X : Cx} {W : WX} {gi : GI} {C : Cal} {lv : Nat} {pins : List (Addr × Obj)} {σ : L2.St} {s : Shared} {H : Hp} {Q : VK} {ρ : List Addr} {h : HD} {v : Ev} {tg ea eb ec : Expr} {a b c : E} {pos apos : Pos} {es : List Expr} {as : List E} {R : L2.It → Hp → Prop}
theorem it_list {p : Addr} {xs : List V} (I : Inv X pins σ H s) (hq : SqL X.K H p xs) (q : R (Itl X.K p) H) : wpAny (model X.prog X.w) X.A (pyIter (.ref p)) (PIE X pins σ tg R) X.xe s := by
  obtain ⟨its, rv, pl, hz⟩ := I.list hq
  refine wpAny_pyIter_list pl.isList ?_
  refine ⟨s.heap.objs.size, [s.heap.objs.size], _, _, H, rfl, I.kept (t' := s.toks) fun b o e => Heap.get?_push_of_some _ e, turn_list p _, ⟨_, Heap.get?_push_size _ rfl, rfl, rfl⟩, fun b hb => ?_, q⟩
  have e : b = s.heap.objs.size := by simpa using hb
  subst e
  exact I.fpOk (Nat.le_refl _) (I.hok.fresh (Nat.le_refl _))
theorem it_tup {p : Addr} {xs : List V} (I : Inv X pins σ H s) (hq : SqT X.K H p xs) (q : R (Itt X.K p) H) : wpAny (model X.prog X.w) X.A (pyIter (.ref p)) (PIE X pins σ tg R) X.xe s := by
  obtain ⟨its, rv, pl, hz⟩ := I.tuple hq
  refine wpAny_pyIter_tuple (show s.heap.IsTuple p its.toArray from pl) ?_
  refine ⟨s.heap.objs.size, [s.heap.objs.size], _, _, H, rfl, I.kept (t' := s.toks) fun b o e => Heap.get?_push_of_some _ e, turn_tuple p _, ⟨_, Heap.get?_push_size _ rfl, rfl, rfl⟩, fun b hb => ?_, q⟩
  have e : b = s.heap.objs.size := by simpa using hb
  subst e
  exact I.fpOk (Nat.le_refl _) (I.hok.fresh (Nat.le_refl _))
theorem it_str {x : Str} {t : Tok} (I : Inv X pins σ H s) (q : R (Its x) H) : wpAny (model X.prog X.w) X.A (pyIter (.str x t)) (PIE X pins σ tg R) X.xe s := by
  cases ha : x.cps.all (· < 128)
  · exact wpAny_pyIter_wide ha (pi_one (tk := s.toks) I _ (turn_str _ x t "str_iterator" (.inr rfl)) ⟨_, Heap.get?_push_size _ rfl, rfl, rfl⟩ q)
  · exact wpAny_pyIter_ascii ha (pi_one (tk := s.toks) I _ (turn_str _ x t "str_ascii_iterator" (.inl rfl)) ⟨_, Heap.get?_push_size _ rfl, rfl, rfl⟩ q)
theorem wk_list {i : Nat} {p : Addr} {xs : List D} (e1 : ρ[i]? = some p) : WkR X.K X.mg ρ H ⟨xs, [(i, xs)]⟩ (Itl X.K p) := by
  have key : ∀ ρ2 H2 h2, Ext ρ H ρ2 H2 → RSh X.K X.mg ρ2 H2 h2 → Wk.still ⟨xs, [(i, xs)]⟩ h2 → ∃ vs, SqL X.K H2 p vs ∧ Reps X.K X.mg ρ2 H2 xs vs := fun ρ2 H2 h2 e rs st => by
    have e0 : lstOf h2 i = some xs := st (i, xs) (List.mem_cons_self ..)
    obtain ⟨p', vs, e3, sq, r⟩ := lst_sq rs e0
    rw [e.pre i p e1] at e3
    cases e3
    exact ⟨vs, sq, r⟩
  refine ⟨fun j ρ2 H2 h2 hj e rs st => ?_, fun j ρ2 H2 h2 x H' e rs st y => ?_, fun j ρ2 H2 h2 hj e rs st => ?_⟩
  · obtain ⟨vs, sq, r⟩ := key ρ2 H2 h2 e rs st
    have hl := r.len
    have hj' : j < vs.length := by rw [hl]; exact hj
    exact ⟨vs, vs[j], sq, by simp [hj']⟩
  · obtain ⟨vs, sq, r⟩ := key ρ2 H2 h2 e rs st
    obtain ⟨e4, y⟩ := y
    refine ⟨e4, fun d hd => ?_⟩
    obtain ⟨w, e5, r5⟩ := r.get hd
    have e6 := y vs sq
    rw [e5] at e6
    cases e6
    exact r5
  · obtain ⟨vs, sq, r⟩ := key ρ2 H2 h2 e rs st
    exact ⟨vs, sq, by rw [r.len]; exact hj⟩
theorem wk_kls {p : Addr} {xs : List D} {vs : List V} (sq : SqC X.K H p vs) (r : Reps X.K X.mg ρ H xs vs) : WkR X.K X.mg ρ H ⟨xs, []⟩ (Itl X.K p) := by
  refine ⟨fun j ρ2 H2 h2 hj e rs st => ?_, fun j ρ2 H2 h2 x H' e rs st y => ?_, fun j ρ2 H2 h2 hj e rs st => ?_⟩
  · have hj' : j < vs.length := by rw [r.len]; exact hj
    exact ⟨vs, vs[j], (e.sqC sq).sq, by simp [hj']⟩
  · obtain ⟨e4, y⟩ := y
    refine ⟨e4, fun d hd => ?_⟩
    obtain ⟨w, e5, r5⟩ := (r.ext e).get hd
    have e6 := y vs (e.sqC sq).sq
    rw [e5] at e6
    cases e6
    exact r5
  · exact ⟨vs, (e.sqC sq).sq, by rw [r.len]; exact hj⟩
theorem wk_tup {p : Addr} {xs : List D} {vs : List V} (sq : SqT X.K H p vs) (r : Reps X.K X.mg ρ H xs vs) : WkR X.K X.mg ρ H ⟨xs, []⟩ (Itt X.K p) := by
  refine ⟨fun j ρ2 H2 h2 hj e rs st => ?_, fun j ρ2 H2 h2 x H' e rs st y => ?_, fun j ρ2 H2 h2 hj e rs st => ?_⟩
  · have hj' : j < vs.length := by rw [r.len]; exact hj
    exact ⟨vs, vs[j], e.sqT sq, by simp [hj']⟩
  · obtain ⟨e4, y⟩ := y
    refine ⟨e4, fun d hd => ?_⟩
    obtain ⟨w, e5, r5⟩ := (r.ext e).get hd
    have e6 := y vs (e.sqT sq)
    rw [e5] at e6
    cases e6
    exact r5
  · exact ⟨vs, e.sqT sq, by rw [r.len]; exact hj⟩
theorem wk_str {x : Str} : WkR X.K X.mg ρ H ⟨chars x.cps.toList, []⟩ (Its x) := by
  have hl : (chars x.cps.toList).length = x.cps.size := by simp [chars]
  refine ⟨fun j ρ2 H2 h2 hj e rs st => ?_, fun j ρ2 H2 h2 u H' e rs st y => ?_, fun j ρ2 H2 h2 hj e rs st => ?_⟩
  · exact (by rw [hl] at hj; exact hj : j < x.cps.size)
  · obtain ⟨e4, c, ec, ev⟩ := y
    refine ⟨e4, fun d hd => ?_⟩
    have e7 : (chars x.cps.toList)[j]? = some d := hd
    unfold chars at e7
    rw [List.getElem?_map, Array.getElem?_toList, ec] at e7
    cases e7
    exact ev
  · exact (by rw [hl] at hj; exact hj : x.cps.size ≤ j)
theorem wk_rng {lo : Int} {n : Nat} : WkR X.K X.mg ρ H ⟨rngD lo n, []⟩ (Itr lo n) := by
  have hl : (rngD lo n).length = n := by simp [rngD]
  refine ⟨fun j ρ2 H2 h2 hj e rs st => ?_, fun j ρ2 H2 h2 u H' e rs st y => ?_, fun j ρ2 H2 h2 hj e rs st => ?_⟩
  · exact (by rw [hl] at hj; exact hj : j < n)
  · obtain ⟨e4, ev⟩ := y
    refine ⟨e4, fun d hd => ?_⟩
    have e7 : (rngD lo n)[j]? = some d := hd
    unfold rngD at e7
    rw [List.getElem?_map] at e7
    cases e8 : (List.range n)[j]? with
    | none => rw [e8] at e7; cases e7
    | some k =>
      rw [e8] at e7
      cases e7
      obtain ⟨hk, e9⟩ := List.getElem?_eq_some_iff.mp e8
      rw [List.getElem_range] at e9
      subst e9
      exact ev
  · exact (by rw [hl] at hj; exact hj : n ≤ j)
theorem ofOpt_post {α β : Type} {RR : List Addr → Hp → α → β → Prop} {Q : β → Hp → Prop} {o : Option α} (p : Post X.K X.mg RR W ρ H σ Q (ofOpt o h)) : ∃ d, o = some d ∧ Post X.K X.mg RR W ρ H σ Q (.ok d h) := by
  cases o with
  | none => exact p.elim
  | some d => exact ⟨d, rfl, p⟩
theorem i_val (ha : EX X W gi C ea a) : IX X W gi C tg ea (.val a) := by
  refine ⟨fun pins s σ H R I ⟨ρ, v, h, rs, er, p⟩ => ?_⟩
  simp only [evIt] at p
  refine run1 (γ := Wk) (RR := WkR X.K X.mg) (Q := R) ha I rs er p fun u s1 x ρ1 H1 d1 h1 I1 rx e1 rs1 er1 r1 p1 => ?_
  obtain ⟨w, ew, p2⟩ := ofOpt_post p1
  unfold wkVal at ew
  split at ew
  · cases ew
    obtain ⟨q, vs, e3, sq, r⟩ := r1
    subst e3
    cases rx
    exact it_tup I1 sq (p2 _ _ _ Ext.refl rs1 (wk_tup sq r))
  · cases ew
    cases r1
    obtain ⟨t, rfl⟩ := rx
    exact it_str I1 (p2 _ _ _ Ext.refl rs1 wk_str)
  · cases ew
    obtain ⟨q, vs, e3, sq, r⟩ := r1
    subst e3
    cases rx
    exact it_list I1 sq.sq (p2 _ _ _ Ext.refl rs1 (wk_kls sq r))
  · rename_i i
    cases e0 : lstOf h1 i with
    | none => rw [e0] at ew; cases ew
    | some xs =>
      rw [e0] at ew
      cases ew
      obtain ⟨q, vs, e3, sq, r⟩ := lst_sq rs1 e0
      have e4 := ref_at r1 e3
      subst e4
      cases rx
      exact it_list I1 sq (p2 _ _ _ Ext.refl rs1 (wk_list e3))
  · cases ew
theorem i_rng1 {p pos : Pos} (hg : Gl X "range") (hm : X.mg "range" = none) (ha : EX X W gi C ea a) (hs : isStar ea = false) : IX X W gi C tg (.Call (.Name "range" p) [ea] [] pos) (.rng1 a) := by
  refine ⟨fun pins s σ H R I ⟨ρ, v, h, rs, er, p⟩ => ?_⟩
  simp only [evIt] at p
  refine (pi_range1 (tg := tg) hg hm (sa_cons ha sa_nil hs) (star_of hs [] X.env)).run pins s σ H R I ?_
  have p' : Post X.K X.mg (WkR X.K X.mg) W ρ H σ R ((evEs gi C [a] v h).bind fun ds h => match ds with
    | [x] => (match x with
      | .int j => if -big ≤ j ∧ j < big then .ok ⟨rngD 0 j.toNat, []⟩ h else .bad
      | _ => .bad)
    | _ => .bad) := by
    simp only [evEs, bind_assoc, bind_ok]
    exact p
  refine ⟨ρ, v, h, rs, er, p'.bind fun ρ1 H1 ds h1 xs e1 s1 r1 p1 => ?_⟩
  cases ds with
  | nil => exact p1.elim
  | cons d ds =>
    cases ds with
    | cons _ _ => exact p1.elim
    | nil =>
      obtain ⟨x, _, e2, r2, e3⟩ := r1
      cases e3; subst e2
      cases d with
      | int j =>
        cases r2
        dsimp only at p1
        split at p1
        · rename_i hz
          exact ⟨j, rfl, hz.1, hz.2, p1 _ _ _ Ext.refl s1 wk_rng⟩
        · exact p1.elim
      | _ => exact p1.elim
theorem i_rng2 {p pos : Pos} (hg : Gl X "range") (hm : X.mg "range" = none) (ha : EX X W gi C ea a) (hb : EX X W gi C eb b) (hs : isStar ea = false) (hs2 : isStar eb = false) : IX X W gi C tg (.Call (.Name "range" p) [ea, eb] [] pos) (.rng2 a b) := by
  refine ⟨fun pins s σ H R I ⟨ρ, v, h, rs, er, p⟩ => ?_⟩
  simp only [evIt] at p
  refine (pi_range2 (tg := tg) hg hm (sa_cons ha (sa_cons hb sa_nil hs2) hs) (by rw [star_of hs, star_of hs2]; rfl) (star_of hs2 [] X.env)).run pins s σ H R I ?_
  have p' : Post X.K X.mg (WkR X.K X.mg) W ρ H σ R ((evEs gi C [a, b] v h).bind fun ds h => match ds with
    | [x, y] => (match x, y with
      | .int i, .int j => if -big ≤ i ∧ i < big ∧ -big ≤ j ∧ j < big then .ok ⟨rngD i (j - i).toNat, []⟩ h else .bad
      | _, _ => .bad)
    | _ => .bad) := by
    simp only [evEs, bind_assoc, bind_ok]
    exact p
  refine ⟨ρ, v, h, rs, er, p'.bind fun ρ1 H1 ds h1 xs e1 s1 r1 p1 => ?_⟩
  match ds, r1, p1 with
  | [d, d'], r1, p1 =>
    obtain ⟨x, _, e2, r2, y, _, e3, r3, e4⟩ := r1
    cases e4; subst e3; subst e2
    dsimp only at p1
    split at p1
    · cases r2; cases r3
      split at p1
      · rename_i hz
        exact ⟨_, _, rfl, hz, p1 _ _ _ Ext.refl s1 wk_rng⟩
      · exact p1.elim
    · exact p1.elim
  | [], r1, p1 => exact p1.elim
  | [_], r1, p1 => exact p1.elim
  | _ :: _ :: _ :: _, r1, p1 => exact p1.elim
/-! ### targets -/
def gT (K : PySem.W.Frag) (mg : Mg) (t : T) : TG := fun x σ H Q => ∃ ρ v h d v', RSh K mg ρ H h ∧ EvR K mg ρ H v σ ∧ Rep K mg ρ H d x ∧ tgt v t d = some v' ∧ ∀ σ', EvR K mg ρ H v' σ' → Q σ' H
theorem EvR.set {K : PySem.W.Frag} {mg : Mg} {i : Nat} {d : D} {x : V} (er : EvR K mg ρ H v σ) (r : Rep K mg ρ H d x) : EvR K mg ρ H (v.set i (some d)) (σ.set i (some x)) := by
  refine ⟨by simp [er.1], fun j d' e => ?_⟩
  by_cases hj : i = j
  · subst hj
    have hi : i < v.length := by
      by_cases z : i < v.length
      · exact z
      · rw [List.getElem?_eq_none (by simp; omega)] at e
        cases e
    rw [List.getElem?_set_self hi] at e
    cases e
    exact ⟨x, List.getElem?_set_self (by rw [← er.1]; exact hi), r⟩
  · rw [List.getElem?_set_ne hj] at e
    obtain ⟨y, e1, r1⟩ := er.2 j d' e
    exact ⟨y, by rw [List.getElem?_set_ne hj]; exact e1, r1⟩
theorem PG.wk {e : Expr} {t t' : TG} (hp : PG X e t) (q : ∀ x σ H Q, t' x σ H Q → t x σ H Q) : PG X e t' := ⟨fun pins s σ H v u Q I r p => hp.run pins s σ H v u Q I r (q v σ H Q p)⟩
/-- several names -/
def gNs : List Nat → TGs
  | [] => gNil
  | i :: r => gCons (gName i) (gNs r)
theorem many_ok {K : PySem.W.Frag} {mg : Mg} : ∀ {is : List Nat} {ds : List D} {xs : List V} {v v' : Ev} {σ : L2.St} {Q : L2.St → Hp → Prop}, EvR K mg ρ H v σ → Reps K mg ρ H ds xs → setMany v is ds = some v' → (∀ σ', EvR K mg ρ H v' σ' → Q σ' H) → gNs is xs σ H Q
  | [], [], xs, v, v', σ, Q, er, r, e, q => by
    cases r; cases e
    exact ⟨rfl, q _ er⟩
  | i :: is, d :: ds, xs, v, v', σ, Q, er, r, e, q => by
    obtain ⟨x, xr, e1, r1, r2⟩ := r
    subst e1
    exact ⟨x, xr, rfl, many_ok (er.set r1) r2 e q⟩
  | [], _ :: _, _, _, _, _, _, _, _, e, _ => by cases e
  | _ :: _, [], _, _, _, _, _, _, _, e, _ => by cases e
theorem many_len : ∀ {is : List Nat} {ds : List D} {v v' : Ev}, setMany v is ds = some v' → ds.length = is.length
  | [], [], _, _, _ => rfl
  | _ :: is, _ :: ds, v, v', e => by simp [many_len (is := is) (ds := ds) e]
  | [], _ :: _, _, _, e => by cases e
  | _ :: _, [], _, _, e => by cases e
/-- the library's reading of a target -/
def gR (K : PySem.W.Frag) : T → TG
  | .one i => gName i
  | .tup is => gTup K is.length (gNs is)
theorem wipe_set {σ : L2.St} {i : Nat} {x : Option V} : ∀ {vs : List Nat}, i ∈ vs → L2.wipe (σ.set i x) vs = L2.wipe σ vs
  | w :: vs, hi => by
    show (L2.wipe (σ.set i x) vs).set w none = (L2.wipe σ vs).set w none
    by_cases hm : i ∈ vs
    · rw [wipe_set hm]
    · have e : i = w := by
        rcases List.mem_cons.mp hi with e | e
        · exact e
        · exact absurd e hm
      subst e
      have key : ∀ vs : List Nat, i ∉ vs → L2.wipe (σ.set i x) vs = (L2.wipe σ vs).set i x := fun vs => by
        induction vs with
        | nil => intro _; rfl
        | cons w vs ih =>
          intro hn
          rw [List.mem_cons, not_or] at hn
          show (L2.wipe (σ.set i x) vs).set w none = ((L2.wipe σ vs).set w none).set i x
          rw [ih hn.2, List.set_comm _ _ hn.1]
      rw [key vs hm, List.set_set]
theorem many_okR {K : PySem.W.Frag} {mg : Mg} {own : List Nat} : ∀ {is : List Nat} {ds : List D} {xs : List V} {v v' : Ev} {σ : L2.St} {Q : L2.St → Hp → Prop}, EvR K mg ρ H v σ → Reps K mg ρ H ds xs → setMany v is ds = some v' →
    (∀ σ', EvR K mg ρ H v' σ' → ((∀ i ∈ is, i ∈ own) → L2.wipe σ' own = L2.wipe σ own) → Q σ' H) → gNs is xs σ H Q
  | [], [], xs, v, v', σ, Q, er, r, e, q => by
    cases r; cases e
    exact ⟨rfl, q _ er fun _ => rfl⟩
  | i :: is, d :: ds, xs, v, v', σ, Q, er, r, e, q => by
    obtain ⟨x, xr, e1, r1, r2⟩ := r
    subst e1
    exact ⟨x, xr, rfl, many_okR (own := own) (er.set r1) r2 e fun σ' er' hw => q σ' er' fun ho => by
      rw [hw fun j hj => ho j (List.mem_cons_of_mem _ hj), wipe_set (ho i (List.mem_cons_self ..))]⟩
  | [], _ :: _, _, _, _, _, _, _, _, e, _ => by cases e
  | _ :: _, [], _, _, _, _, _, _, _, e, _ => by cases e
theorem gR_ok {K : PySem.W.Frag} {mg : Mg} {own : List Nat} {t : T} {d : D} {x : V} {v' : Ev} {Q : L2.St → Hp → Prop} (er : EvR K mg ρ H v σ) (r : Rep K mg ρ H d x) (e : tgt v t d = some v')
    (q : ∀ σ', EvR K mg ρ H v' σ' → ((∀ i ∈ tIs t, i ∈ own) → L2.wipe σ' own = L2.wipe σ own) → Q σ' H) : gR K t x σ H Q := by
  cases t with
  | one i =>
    cases e
    exact q _ (er.set r) fun ho => wipe_set (ho i (List.mem_cons_self ..))
  | tup is =>
    cases d with
    | tup ds =>
      obtain ⟨p, vs, e1, sq, rr⟩ := r
      exact ⟨p, vs, e1, sq, by rw [rr.len]; exact many_len e, many_okR er rr e q⟩
    | _ => cases e
theorem gT_of {t : T} {e : Expr} (hg : PG X e (gR X.K t)) : PG X e (gT X.K X.mg t) :=
  PG.wk hg fun x σ H Q ⟨ρ, v, h, d, v', rs, er, r, e, q⟩ => gR_ok (own := []) er r e fun σ' er' _ => q σ' er'
end
end Mp

set_option Elab.async false
set_option linter.all false
set_option maxRecDepth 100000
set_option maxHeartbeats 1000000
/-! Mp: statements, one by one. -/
namespace Mp
open PySem PySem.Spec PyProof.Rows L2
open PySem (Expr)

abbrev SX (X : Cx) (W : WX) (gi : GI) (C : Cal) (st : Stmt) (a : S) : Prop := PS X st (tS X.K X.mg W (exS gi C a))
abbrev BX (X : Cx) (W : WX) (gi : GI) (C : Cal) (sts : List Stmt) (as : List S) : Prop := PSs X sts (tS X.K X.mg W (exB gi C as))
section
variable {X : Cx} {W : WX} {gi : GI} {C : Cal} {lv : Nat} {pins : List (Addr × Obj)} {σ : L2.St} {s : Shared} {H : Hp} {Q : VK} {ρ : List Addr} {h : HD} {v : Ev} {tg ea eb ec : Expr} {a b c : E} {pos apos : Pos} {es : List Expr} {as : List E} {sa sb : List Stmt} {ba bb : List S}
theorem st_asB (m : R D) (f : Bool → HD → RS) : (m.st v fun x h => match truth x h with | some true => f true h | some false => f false h | none => .bad) = (asB m).st v f := by
  cases m with
  | ok x h =>
    show (match truth x h with | some true => f true h | some false => f false h | none => .bad) = R.st (match truth x h with | some b => R.ok b h | none => .bad) v f
    cases truth x h with
    | none => rfl
    | some k => cases k <;> rfl
  | ex e h => rfl
  | bad => rfl
theorem b_nil : BX X W gi C [] [] := PSs.wk pss_nil fun D σ H ⟨ρ, v, h, rs, er, p⟩ => by
  simp only [exB] at p
  exact p _ _ _ Ext.refl rs er
theorem b_cons {st : Stmt} {rest : List Stmt} {x : S} {r : List S} (h1 : SX X W gi C st x) (h2 : BX X W gi C rest r) : BX X W gi C (st :: rest) (x :: r) := by
  refine PSs.wk (pss_cons h1 h2) fun D σ H ⟨ρ, v, h, rs, er, p⟩ => ?_
  simp only [exB] at p
  refine ⟨ρ, v, h, rs, er, ?_⟩
  revert p
  cases exS gi C x v h with
  | nx v' h' => exact fun p ρ' H' σ' e s2 er2 => ⟨ρ', v', h', s2, er2, PostS.from e p⟩
  | rt d h' => exact fun p => p
  | bk v' h' => exact fun p => p
  | ct v' h' => exact fun p => p
  | ex e v' h' => exact fun p => p
  | bad => exact fun p => p
theorem s_set {i : Nat} {x : Str} {pos' : Pos} (hN : X.N.Nodup) (hi : X.N[i]? = some x) (hx : Loc X.env.scope x) (ha : EX X W gi C ea a) (hs : swapsWith ea (some (.Name x pos')) pos.line X.env = pure false) (hf : X.fn x = true ∨ X.env.scope.names.lookup x = some .local) : SX X W gi C (.Assign [.Name x pos'] ea pos) (.set i a) := by
  refine PS.wk (ps_set hN hi hx ha hs hf) fun D σ H ⟨ρ, v, h, rs, er, p⟩ => ?_
  simp only [exS] at p
  exact ⟨ρ, v, h, rs, er, PostS.bind er p fun ρ1 H1 d h1 x e1 s1 er1 r1 p1 => p1 _ _ _ Ext.refl s1 (er1.set r1)⟩
theorem s_unp {is : List Nat} {k : Nat} {p2 : Pos} (ha : EX X W gi C ea a) (hg : PG X (.Tuple es k p2) (gT X.K X.mg (.tup is))) (hs : swapsWithSole [.Tuple es k p2] ea pos.line X.env = pure false) (hw : swappedStores [.Tuple es k p2] ea X.env = pure none)
    (h1 : (assignEach [.Tuple es k p2] X.env).map (·.2) = [assign (.Tuple es k p2) X.env]) : SX X W gi C (.Assign [.Tuple es k p2] ea pos) (.unp is a) := by
  refine PS.wk (ps_asg ha hg hs hw h1) fun D σ H ⟨ρ, v, h, rs, er, p⟩ => ?_
  simp only [exS] at p
  refine ⟨ρ, v, h, rs, er, PostS.bind er p fun ρ1 H1 d h1 x e1 s1 er1 r1 p1 => ?_⟩
  cases d with
  | tup ds =>
    dsimp only at p1
    cases e : setMany v is ds with
    | none => rw [e] at p1; exact p1.elim
    | some v' =>
      rw [e] at p1
      exact ⟨ρ1, v, h1, _, v', s1, er1, r1, e, fun σ' er' => p1 _ _ _ Ext.refl s1 er'⟩
  | _ => exact p1.elim
theorem s_expr (ha : EX X W gi C ea a) (hs : swapsWith ea none pos.line X.env = pure false) : SX X W gi C (.Expr ea pos) (.expr a) := by
  refine PS.wk (ps_expr ha hs) fun D σ H ⟨ρ, v, h, rs, er, p⟩ => ?_
  simp only [exS] at p
  exact ⟨ρ, v, h, rs, er, PostS.bind er p fun ρ1 H1 d h1 x e1 s1 er1 r1 p1 => p1 _ _ _ Ext.refl s1 er1⟩
theorem s_ret (ha : EX X W gi C ea a) : SX X W gi C (.Return (some ea) pos) (.ret a) := by
  refine PS.wk (ps_ret ha) fun D σ H ⟨ρ, v, h, rs, er, p⟩ => ?_
  simp only [exS] at p
  exact ⟨ρ, v, h, rs, er, PostS.bind er p fun ρ1 H1 d h1 x e1 s1 er1 r1 p1 => p1 _ _ _ Ext.refl s1 r1⟩
theorem s_retN : SX X W gi C (.Return none pos) .retN := PS.wk ps_retN fun D σ H ⟨ρ, v, h, rs, er, p⟩ => by
  simp only [exS] at p
  exact p _ _ _ Ext.refl rs rfl
theorem s_pass : SX X W gi C (.Pass pos) .pass := PS.wk ps_pass fun D σ H ⟨ρ, v, h, rs, er, p⟩ => by
  simp only [exS] at p
  exact p _ _ _ Ext.refl rs er
theorem s_brk : SX X W gi C (.Break pos) .brk := PS.wk ps_break fun D σ H ⟨ρ, v, h, rs, er, p⟩ => by
  simp only [exS] at p
  exact p _ _ _ Ext.refl rs er
theorem s_cnt : SX X W gi C (.Continue pos) .cnt := PS.wk ps_continue fun D σ H ⟨ρ, v, h, rs, er, p⟩ => by
  simp only [exS] at p
  exact p _ _ _ Ext.refl rs er
theorem s_never {st : Stmt} : SX X W gi C st .never := PS.wk ps_never fun D σ H ⟨ρ, v, h, rs, er, p⟩ => by
  simp only [exS] at p
  exact p
theorem s_if (hc : TX X W gi C ec c) (ha : BX X W gi C sa ba) (hb : BX X W gi C sb bb) : SX X W gi C (.If ec sa sb pos) (.ite c ba bb) := by
  refine PS.wk (ps_if hc ha hb) fun D σ H ⟨ρ, v, h, rs, er, p⟩ => ?_
  simp only [exS] at p
  have p := (st_asB (v := v) (evE gi C c v h) (fun b h => if b then exB gi C ba v h else exB gi C bb v h)) ▸ (show PostS X.K X.mg W ρ H D ((evE gi C c v h).st v fun x h => match truth x h with | some true => if true = true then exB gi C ba v h else exB gi C bb v h | some false => if false = true then exB gi C ba v h else exB gi C bb v h | none => .bad) from p)
  refine ⟨ρ, v, h, rs, er, PostS.bind er p fun ρ1 H1 d h1 x e1 s1 er1 r1 p1 => ?_⟩
  subst r1
  cases d with
  | true => exact ⟨ρ1, v, h1, s1, er1, p1⟩
  | false => exact ⟨ρ1, v, h1, s1, er1, p1⟩
theorem s_while (hp : PassesOwn (model X.prog X.w) X.A X.env X.xe) (hc : TX X W gi C ec c) (ha : BX X W gi C sa ba) : SX X W gi C (.While ec sa [] pos) (.whl c ba) := by
  refine PS.wk (ps_while hp hc ha) fun D σ H ⟨ρ, v, h, rs, er, p⟩ => ?_
  simp only [exS] at p
  refine ⟨fun n σ' H' => ∃ ρ' v' h', RSh X.K X.mg ρ' H' h' ∧ EvR X.K X.mg ρ' H' v' σ' ∧ PostS X.K X.mg W ρ' H' D (loopW (fun v h => asB (evE gi C c v h)) (fun v h => exB gi C ba v h) n v' h'), ⟨bigW, ρ, v, h, rs, er, p⟩, ?_⟩
  rintro n σ1 H1 ⟨ρ1, v1, h1, rs1, er1, p1⟩
  cases n with
  | zero => exact p1.elim
  | succ n =>
    unfold loopW at p1
    refine ⟨ρ1, v1, h1, rs1, er1, PostS.bind er1 p1 fun ρ2 H2 d h2 x e2 s2 er2 r2 p2 => ?_⟩
    subst r2
    cases d with
    | false => exact p2 _ _ _ Ext.refl s2 er2
    | true =>
      refine ⟨fun σ' H' => ∃ ρ' v' h', RSh X.K X.mg ρ' H' h' ∧ EvR X.K X.mg ρ' H' v' σ' ∧ PostS X.K X.mg W ρ' H' D (loopW (fun v h => asB (evE gi C c v h)) (fun v h => exB gi C ba v h) n v' h'), fun σ' H' q => ⟨n, Nat.lt_succ_self _, q⟩, ρ2, v1, h2, s2, er2, ?_⟩
      rw [if_pos rfl] at p2
      revert p2
      cases exB gi C ba v1 h2 with
      | nx v' h' => exact fun p ρ' H' σ' e s2 er2 => ⟨ρ', v', h', s2, er2, PostS.from e p⟩
      | rt d h' => exact fun p => p
      | bk v' h' => exact fun p => p
      | ct v' h' => exact fun p ρ' H' σ' e s2 er2 => ⟨ρ', v', h', s2, er2, PostS.from e p⟩
      | ex e v' h' => exact fun p => p
      | bad => exact fun p => p
theorem s_for {t : T} {it : It} (hp : PassesOwn (model X.prog X.w) X.A X.env X.xe) (hc : X.calm = true) (hi : IX X W gi C tg ea it) (hg : PG X tg (gT X.K X.mg t)) (ha : BX X W gi C sa ba) (hs : ∀ x, foldedSetIterable ea X.env x = pure x) : SX X W gi C (.For tg ea sa [] pos) (.for_ t it ba) := by
  refine PS.wk (ps_for hp hc hi hg ha hs) fun D σ H ⟨ρ, v, h, rs, er, p⟩ => ?_
  simp only [exS] at p
  refine ⟨ρ, v, h, rs, er, PostS.bind er p fun ρ1 H1 w h1 J e1 s1 er1 J1 p1 => ?_⟩
  generalize hf : (fun d v h => match tgt v t d with
    | some v' => exB gi C ba v' h
    | none => RS.bad) = f at p1
  refine ⟨fun i m σ' H' => m = w.items.length - i ∧ i ≤ w.items.length ∧ ∃ ρ' v' h', Ext ρ1 H1 ρ' H' ∧ RSh X.K X.mg ρ' H' h' ∧ EvR X.K X.mg ρ' H' v' σ' ∧ PostS X.K X.mg W ρ' H' D (loopF w f (w.items.drop i) v' h'), ⟨_, rfl, Nat.zero_le _, ρ1, v, h1, Ext.refl, s1, er1, by rw [List.drop_zero]; exact p1⟩, ?_⟩
  rintro i m σ2 H2 ⟨em, hi2, ρ2, v2, h2, e2, s2, er2, p2⟩
  by_cases hlt : i < w.items.length
  · rw [List.drop_eq_getElem_cons hlt] at p2
    unfold loopF at p2
    split at p2
    · rename_i st
      refine .inr ⟨J1.go i ρ2 H2 h2 hlt e2 s2 st, fun σ' H' => ∃ ρ' v' h', Ext ρ1 H1 ρ' H' ∧ RSh X.K X.mg ρ' H' h' ∧ EvR X.K X.mg ρ' H' v' σ' ∧ PostS X.K X.mg W ρ' H' D (loopF w f (w.items.drop (i + 1)) v' h'), fun σ' H' q => ⟨_, by omega, rfl, hlt, q⟩, fun x H' y => ?_⟩
      obtain ⟨eH, rx⟩ := J1.yl i ρ2 H2 h2 x H' e2 s2 st y
      subst eH
      have rd := rx _ (List.getElem?_eq_getElem hlt)
      generalize w.items[i] = d at p2 rd
      subst hf
      dsimp only at p2
      cases et : tgt v2 t d with
      | none => rw [et] at p2; exact p2.elim
      | some v3 =>
        rw [et] at p2
        refine ⟨ρ2, v2, h2, d, v3, s2, er2, rd, et, fun σ3 er3 => ⟨ρ2, v3, h2, s2, er3, ?_⟩⟩
        revert p2
        dsimp only
        cases exB gi C ba v3 h2 with
        | nx v' h' => exact fun p ρ' H' σ' e s2 er2 => ⟨ρ', v', h', e2.trans e, s2, er2, PostS.from e p⟩
        | rt d h' => exact fun p => p
        | bk v' h' => exact fun p => p
        | ct v' h' => exact fun p ρ' H' σ' e s2 er2 => ⟨ρ', v', h', e2.trans e, s2, er2, PostS.from e p⟩
        | ex e v' h' => exact fun p => p
        | bad => exact fun p => p
    · exact p2.elim
  · have hle : w.items.length ≤ i := by omega
    rw [List.drop_eq_nil_of_le hle] at p2
    unfold loopF at p2
    split at p2
    · rename_i st
      exact .inl ⟨J1.stop i ρ2 H2 h2 hle e2 s2 st, p2 _ _ _ Ext.refl s2 er2⟩
    · exact p2.elim
theorem s_fld {f : Str} {pos' : Pos} (T : Txt2 X gi C lv) (ha : EX X W gi C ea a) (hb : EX X W gi C eb b) (hs : swapsWith eb (some (.Attribute ea f pos')) pos.line X.env = pure false) : SX X W gi C (.Assign [.Attribute ea f pos'] eb pos) (.setAt a f b) := by
  refine PS.wk (ps_fld ha hb hs) fun D σ H ⟨ρ, v, h, rs, er, p⟩ => ?_
  simp only [exS] at p
  refine ⟨ρ, v, h, rs, er, PostS.bind er p fun ρ1 H1 d1 h1 y e1 s1 er1 r1 p1 => ⟨ρ1, v, h1, s1, er1, PostS.bind er1 p1 fun ρ2 H2 d2 h2 x e2 s2 er2 r2 p2 => ?_⟩⟩
  cases d2 with
  | ref i =>
    dsimp only at p2
    cases ei : h2[i]? with
    | none => rw [ei] at p2; exact p2.elim
    | some o =>
      rw [ei] at p2
      cases o with
      | ins c fs =>
        dsimp only at p2
        split at p2
        · rename_i em
          split at em
          · rename_i ho
            obtain ⟨px, Cl, dx, gs, ex, ep, mC, F, hH, rf, _⟩ := ins_ty T.own ho s2 r2 ei
            subst ex
            have n1 : ∀ xs, H2 px ≠ some (.tup xs) := fun xs z => by rw [hH] at z; cases z
            have n2 : ∀ o u, H2 px ≠ some (.frz o u) := fun o u z => by rw [hH] at z; cases z
            split at p2
            · rename_i hz
              have hn := T.at_ c _ _ Cl ho em mC
              refine ⟨px, Cl, dx, gs, rfl, hH, F.cl, hn, by rw [rf.len]; exact hz, ?_⟩
              have m := List.mem_of_getElem? ep
              have ew : Ext ρ2 H2 ρ2 (upd H2 px (.ins Cl dx (L2.putF f y gs))) := Ext.write m n1 n2
              exact p2 _ _ _ ew (s2.write ep n1 n2 ⟨Cl, dx, _, mC, upd_same, FsR.put ((r1.ext e2).ext ew) (rf.ext ew)⟩) (er2.ext ew)
            · exact p2.elim
          · cases em
        · exact p2.elim
      | _ => exact p2.elim
  | _ => exact p2.elim
theorem s_augG {i : Nat} {x : Str} {op : Operator} {pos' : Pos} {g : Int → Int → Int} (hg : PIp X op (ipI g)) (e0 : ∀ (p q : Int) (v' : Ev) (h' : HD), augR op i p q v' h' = RS.nx (v'.set i (some (.int (g p q)))) h')
    (hN : X.N.Nodup) (hi : X.N[i]? = some x) (hx : Loc X.env.scope x) (ha : EX X W gi C ea a) (hf : X.fn x = true ∨ X.env.scope.names.lookup x = some .local) : SX X W gi C (.AugAssign (.Name x pos') op ea pos) (.aug i op a) := by
  refine PS.wk (ps_aug hN hi hx ha hg hf) fun D σ H ⟨ρ, v, h, rs, er, p⟩ => ?_
  simp only [exS] at p
  cases ev : v[i]? with
  | none => rw [ev] at p; exact p.elim
  | some o =>
    rw [ev] at p
    cases o with
    | none => exact p.elim
    | some d =>
      obtain ⟨y, ey, ry⟩ := er.2 i d ev
      refine ⟨y, ey, ρ, v, h, rs, er, PostS.bind er p fun ρ1 H1 d1 h1 z e1 s1 er1 r1 p1 => ?_⟩
      split at p1
      · cases ry; cases r1
        rw [e0] at p1
        exact ⟨_, _, rfl, rfl, p1 _ _ _ Ext.refl s1 (er1.set rfl)⟩
      · exact p1.elim
theorem s_aug {i : Nat} {x : Str} {op : Operator} {pos' : Pos} (hop : op = .Add ∨ op = .Sub) (hN : X.N.Nodup) (hi : X.N[i]? = some x) (hx : Loc X.env.scope x) (ha : EX X W gi C ea a) (hf : X.fn x = true ∨ X.env.scope.names.lookup x = some .local) : SX X W gi C (.AugAssign (.Name x pos') op ea pos) (.aug i op a) := by
  rcases hop with e | e
  · subst e
    exact s_augG ip_add (fun _ _ _ _ => rfl) hN hi hx ha hf
  · subst e
    exact s_augG ip_sub (fun _ _ _ _ => rfl) hN hi hx ha hf
end
end Mp

set_option Elab.async false
set_option linter.all false
set_option maxRecDepth 100000
set_option maxHeartbeats 1000000
/-! Mp: list comprehensions. -/
namespace Mp
open PySem PySem.Spec PyProof.Rows L2
open PySem (Expr)

section
variable {K : PySem.W.Frag} {mg : Mg} {ρ ρ' ρ1 : List Addr} {H H' H1 : Hp} {h : HD}
mutual
theorem Rep.extV (pre : ∀ (i : Nat) p, ρ[i]? = some p → ρ'[i]? = some p) (sq : ∀ p vs, SqT K H p vs → SqT K H' p vs) (sc : ∀ p vs, SqC K H p vs → SqC K H' p vs) : ∀ {d : D} {v : V}, Rep K mg ρ H d v → Rep K mg ρ' H' d v
  | .non, _, r => r
  | .bl _, _, r => r
  | .int _, _, r => r
  | .str _, _, r => r
  | .ty _, _, r => r
  | .gl _, _, r => r
  | .ref i, _, ⟨p, e, q⟩ => ⟨p, pre i p e, q⟩
  | .tup xs, _, ⟨p, vs, e, s, r⟩ => ⟨p, vs, e, sq p vs s, Reps.extV pre sq sc r⟩
  | .kls xs, _, ⟨p, vs, e, s, r⟩ => ⟨p, vs, e, sc p vs s, Reps.extV pre sq sc r⟩
theorem Reps.extV (pre : ∀ (i : Nat) p, ρ[i]? = some p → ρ'[i]? = some p) (sq : ∀ p vs, SqT K H p vs → SqT K H' p vs) (sc : ∀ p vs, SqC K H p vs → SqC K H' p vs) : ∀ {ds : List D} {vs : List V}, Reps K mg ρ H ds vs → Reps K mg ρ' H' ds vs
  | [], _, r => r
  | _ :: _, _, ⟨v, r, e, h1, h2⟩ => ⟨v, r, e, Rep.extV pre sq sc h1, Reps.extV pre sq sc h2⟩
end
theorem FsR.extV (pre : ∀ (i : Nat) p, ρ[i]? = some p → ρ'[i]? = some p) (sq : ∀ p vs, SqT K H p vs → SqT K H' p vs) (sc : ∀ p vs, SqC K H p vs → SqC K H' p vs) : ∀ {fs : List (Str × D)} {gs : List (Str × V)}, FsR K mg ρ H fs gs → FsR K mg ρ' H' fs gs
  | [], _, r => r
  | (_, _) :: _, _, ⟨v, r, e, h1, h2⟩ => ⟨v, r, e, Rep.extV pre sq sc h1, FsR.extV pre sq sc h2⟩
theorem ObjR.extV {p : Addr} {o : O} (pre : ∀ (i : Nat) p, ρ[i]? = some p → ρ'[i]? = some p) (sq : ∀ p vs, SqT K H p vs → SqT K H' p vs) (sc : ∀ p vs, SqC K H p vs → SqC K H' p vs) (e : H' p = H p) (r : ObjR K mg ρ H p o) : ObjR K mg ρ' H' p o := by
  cases o with
  | lst xs => obtain ⟨vs, e1, r⟩ := r; exact ⟨vs, by rw [e]; exact e1, r.extV pre sq sc⟩
  | ins c fs => obtain ⟨C, dx, gs, m, e1, r⟩ := r; exact ⟨C, dx, gs, m, by rw [e]; exact e1, r.extV pre sq sc⟩
  | dct kvs => obtain ⟨gs, e1, r⟩ := r; exact ⟨gs, by rw [e]; exact e1, r.extV pre sq sc⟩
  | raw => trivial
theorem sq_off {p : Addr} {ws : List V} {o : HO} (hp : H p = some (.lst ws)) : ∀ q vs, SqT K H q vs → SqT K (upd H p o) q vs := fun q vs s => by
  rcases s with (s | ⟨u, s⟩) | s
  · have ne : q ≠ p := by rintro rfl; rw [hp] at s; cases s
    exact .inl (.inl (by rw [upd_ne ne]; exact s))
  · have ne : q ≠ p := by rintro rfl; rw [hp] at s; cases s
    exact .inl (.inr ⟨u, by rw [upd_ne ne]; exact s⟩)
  · exact .inr s
theorem sc_off {p : Addr} {ws : List V} {o : HO} (hp : H p = some (.lst ws)) : ∀ q vs, SqC K H q vs → SqC K (upd H p o) q vs := fun q vs s => by
  rcases s with ⟨u, s⟩ | s
  · have ne : q ≠ p := by rintro rfl; rw [hp] at s; cases s
    exact .inl ⟨u, by rw [upd_ne ne]; exact s⟩
  · exact .inr s
/-- a list that the interpreter does not hold is rewritten -/
theorem RSh.off {p : Addr} {ws vs : List V} (s : RSh K mg ρ H h) (hp : H p = some (.lst ws)) (n : p ∉ ρ) : RSh K mg ρ (upd H p (.lst vs)) h where
  len := s.len
  nd := s.nd
  trk := fun q hq => by
    have ne : q ≠ p := by rintro rfl; exact n hq
    rw [upd_ne ne]; exact s.trk q hq
  obj := fun i o e => by
    obtain ⟨q, e1, m, r⟩ := s.at_ e
    exact ⟨q, e1, r.extV (fun _ _ e => e) (sq_off hp) (sc_off hp) (upd_ne (by rintro rfl; exact n m))⟩
theorem Ext.off {p : Addr} {ws : List V} {o : HO} (a : Ext ρ H ρ1 H1) (n : H p = none) : Ext ρ H ρ1 (upd H1 p o) :=
  ⟨a.pre, fun b xs e => by rw [upd_ne (by rintro rfl; rw [n] at e; cases e)]; exact a.tup b xs e, fun b o u e => by rw [upd_ne (by rintro rfl; rw [n] at e; cases e)]; exact a.frz b o u e,
    fun b o e hb => by rw [upd_ne (by rintro rfl; rw [n] at e; cases e)]; exact a.keep b o e hb, a.gone⟩
/-- a list becomes the interpreter's -/
theorem Ext.take {p : Addr} (a : Ext ρ H ρ1 H1) (n : H p = none) : Ext ρ H (ρ1 ++ [p]) H1 :=
  ⟨fun i q e => by
    have e' := a.pre i q e
    have hi : i < ρ1.length := (List.getElem?_eq_some_iff.mp e').1
    rw [List.getElem?_append_left hi]
    exact e', a.tup, a.frz, a.keep, fun b e => by
      rcases List.mem_append.mp e with e | e
      · exact a.gone b e
      · have : b = p := by simpa using e
        subst this
        exact .inr n⟩
theorem RSh.take {p : Addr} {vs : List V} {ds : List D} (s : RSh K mg ρ H h) (hp : H p = some (.lst vs)) (n : p ∉ ρ) (r : Reps K mg ρ H ds vs) : RSh K mg (ρ ++ [p]) H (h ++ [.lst ds]) where
  len := by simp [s.len]
  nd := by
    rw [List.nodup_append]
    refine ⟨s.nd, by simp, fun a ha b hb => ?_⟩
    have : b = p := by simpa using hb
    subst this
    exact fun z => n (z ▸ ha)
  trk := fun q hq => by
    rcases List.mem_append.mp hq with hm | hq
    · exact s.trk q hm
    · have : q = p := by simpa using hq
      subst this
      rw [hp]; simp
  obj := fun i o e => by
    have pre : ∀ (i : Nat) q, ρ[i]? = some q → (ρ ++ [p])[i]? = some q := fun i q e => by
      have hi : i < ρ.length := (List.getElem?_eq_some_iff.mp e).1
      rw [List.getElem?_append_left hi]
      exact e
    by_cases hi : i < h.length
    · rw [List.getElem?_append_left hi] at e
      obtain ⟨q, e1, m, r1⟩ := s.at_ e
      exact ⟨q, pre i q e1, r1.extV pre (fun _ _ s => s) (fun _ _ s => s) rfl⟩
    · rw [List.getElem?_append_right (by omega)] at e
      have hz : i - h.length = 0 := by
        by_cases z : i - h.length = 0
        · exact z
        · rw [List.getElem?_eq_none (by simp; omega)] at e
          cases e
      rw [hz] at e
      have e' : O.lst ds = o := by simpa using e
      subst e'
      refine ⟨p, ?_, vs, hp, r.extV pre (fun _ _ s => s) (fun _ _ s => s)⟩
      rw [List.getElem?_append_right (by rw [s.len]; omega), s.len, hz]
      rfl
theorem wipe_get {σ : L2.St} {i : Nat} : ∀ {vs : List Nat}, (L2.wipe σ vs)[i]? = if i ∈ vs then (σ[i]?).map fun _ => none else σ[i]?
  | [] => by simp [L2.wipe]
  | w :: vs => by
    show ((L2.wipe σ vs).set w none)[i]? = _
    by_cases e : w = i
    · subst e
      rw [if_pos (List.mem_cons_self ..)]
      by_cases hw : w < (L2.wipe σ vs).length
      · rw [List.getElem?_set_self hw]
        rw [L2.wipe_length] at hw
        rw [List.getElem?_eq_getElem hw]
        rfl
      · rw [List.getElem?_eq_none (by rw [List.length_set]; omega)]
        rw [L2.wipe_length] at hw
        rw [List.getElem?_eq_none (by omega)]
        rfl
    · rw [List.getElem?_set_ne e, wipe_get]
      have : (i ∈ w :: vs) ↔ i ∈ vs := by
        rw [List.mem_cons]
        exact ⟨fun z => z.resolve_left fun q => e q.symm, .inr⟩
      simp only [this]
theorem wipe_idem {σ : L2.St} {vs : List Nat} : L2.wipe (L2.wipe σ vs) vs = L2.wipe σ vs := by
  apply List.ext_getElem?
  intro i
  rw [wipe_get, wipe_get]
  by_cases e : i ∈ vs
  · rw [if_pos e, if_pos e]
    cases σ[i]? <;> rfl
  · rw [if_neg e]
theorem EvR.wipe {v : Ev} {σ : L2.St} (er : EvR K mg ρ H v σ) : ∀ vs : List Nat, EvR K mg ρ H (Mp.wipe v vs) (L2.wipe σ vs)
  | [] => er
  | w :: vs => by
    have ih := EvR.wipe er vs
    show EvR K mg ρ H ((Mp.wipe v vs).set w none) ((L2.wipe σ vs).set w none)
    refine ⟨by simp [ih.1], fun j d e => ?_⟩
    by_cases hj : w = j
    · subst hj
      by_cases hw : w < (Mp.wipe v vs).length
      · rw [List.getElem?_set_self hw] at e; cases e
      · rw [List.getElem?_eq_none (by simp; omega)] at e; cases e
    · rw [List.getElem?_set_ne hj] at e
      obtain ⟨x, e1, r⟩ := ih.2 j d e
      exact ⟨x, by rw [List.getElem?_set_ne hj]; exact e1, r⟩
/-- the bind of two ends, the wish kept at its first place -/
theorem Post.bindO {α β γ δ : Type} {RR : List Addr → Hp → α → β → Prop} {RR2 : List Addr → Hp → γ → δ → Prop} {W : WX} {σ : L2.St} {Q : δ → Hp → Prop} {Q' : β → Hp → Prop} {m : R α} {f : α → HD → R γ} (e0 : Ext ρ H ρ1 H1) (p : Post K mg RR2 W ρ H σ Q (m.noex.bind f))
    (k : ∀ ρ2 H2 d h2 x, Ext ρ1 H1 ρ2 H2 → RSh K mg ρ2 H2 h2 → RR ρ2 H2 d x → Post K mg RR2 W ρ H σ Q (f d h2) → Q' x H2) {W' : WX} {σ' : L2.St} : Post K mg RR W' ρ1 H1 σ' Q' m := by
  cases m with
  | ok d h1 => exact fun ρ' H' v e s r => k ρ' H' d h1 v e s r p
  | ex e h1 => exact p.elim
  | bad => exact p
end

section
variable {X : Cx} {W : WX} {gi : GI} {C : Cal} {σ : L2.St} {s : Shared} {H : Hp} {Q : VK} {ρ : List Addr} {h : HD} {v : Ev}
abbrev W0 : WX := fun _ _ _ _ => False
theorem noex_bind {α β : Type} (m : R α) (f : α → HD → R β) : (m.bind f).noex = (m.noex.bind fun a h => (f a h).noex) := by
  cases m <;> rfl
theorem noex_noex {α β : Type} (m : R α) (f : α → HD → R β) : (m.bind f).noex = (m.noex.bind fun a h => f a h).noex := by
  cases m <;> rfl
/-- what the interpreter says of a comprehension is the library's reading -/
theorem lc_wk {t : T} {own : List Nat} {it : It} {cs : List E} {e : E} (ho : ∀ i ∈ tIs t, i ∈ own) (p : tD X.K X.mg W (evE gi C (.lc t own it cs e)) σ H Q) :
    tLc (tX X.K X.mg (WkR X.K X.mg) W (evIt gi C it)) (gR X.K t) (tT X.K X.mg W0 (evTs gi C cs)) (tD X.K X.mg W0 (evE gi C e)) own σ H Q := by
  obtain ⟨ρ, v, h, rs, er, p⟩ := p
  simp only [evE] at p
  refine ⟨ρ, v, h, rs, er, Post.bind (m := evIt gi C it v h) p fun ρ1 H1 w h1 J e1 s1 J1 p1 => fun Dn nD => ?_⟩
  have er1 := er.ext e1
  generalize hf : (fun d h => match tgt (Mp.wipe v own) t d with
      | some v' => ((evTs gi C cs v' h).bind fun b h => if b = true then (evE gi C e v' h).bind fun y h => R.ok (some y) h else R.ok none h).noex
      | none => R.bad) = f at p1
  generalize hfin : (fun (xs : List D) (h : HD) => R.ok (D.ref h.length) (h ++ [O.lst xs])) = fin at p1
  have nr : Dn ∉ ρ1 := s1.fresh nD
  refine ⟨fun i m H' => m = w.items.length - i ∧ i ≤ w.items.length ∧ ∃ ρ' h' acc vs, Ext ρ1 H1 ρ' H' ∧ RSh X.K X.mg ρ' H' h' ∧ Dn ∉ ρ' ∧ H' Dn = some (.lst vs) ∧ Reps X.K X.mg ρ' H' acc vs ∧ PostE X.K X.mg W ρ1 H1 σ Q ((loopC w f (w.items.drop i) acc h').bind fin),
    ⟨w.items.length, rfl, Nat.zero_le _, ρ1, h1, [], [], Ext.laid nD, s1.laid nD, nr, upd_same, rfl, by rw [List.drop_zero]; exact p1⟩, ?_⟩
  rintro i m H2 ⟨em, hi2, ρ2, h2, acc, vs, e2, s2, n2, hD, ra, p2⟩
  by_cases hlt : i < w.items.length
  · rw [List.drop_eq_getElem_cons hlt] at p2
    unfold loopC at p2
    split at p2
    · rename_i st
      refine .inr ⟨J1.go i ρ2 H2 h2 hlt e2 s2 st, fun H' => ∃ ρ' h' acc vs, Ext ρ1 H1 ρ' H' ∧ RSh X.K X.mg ρ' H' h' ∧ Dn ∉ ρ' ∧ H' Dn = some (.lst vs) ∧ Reps X.K X.mg ρ' H' acc vs ∧ PostE X.K X.mg W ρ1 H1 σ Q ((loopC w f (w.items.drop (i + 1)) acc h').bind fin), fun H' q => ⟨_, by omega, rfl, hlt, q⟩, fun x H' y => ?_⟩
      obtain ⟨eH, rx⟩ := J1.yl i ρ2 H2 h2 x H' e2 s2 st y
      subst eH
      have rd := rx _ (List.getElem?_eq_getElem hlt)
      generalize w.items[i] = d at p2 rd
      have ef : f d h2 = (match tgt (Mp.wipe v own) t d with
        | some v' => ((evTs gi C cs v' h2).bind fun b h => if b = true then (evE gi C e v' h).bind fun y h => R.ok (some y) h else R.ok none h).noex
        | none => R.bad) := by rw [← hf]
      rw [ef] at p2
      cases et : tgt (Mp.wipe v own) t d with
      | none => rw [et] at p2; exact p2.elim
      | some v3 =>
        rw [et] at p2
        dsimp only at p2
        have er2 : EvR X.K X.mg ρ2 H' (Mp.wipe v own) (L2.wipe σ own) := (er1.ext e2).wipe own
        refine gR_ok (own := own) er2 rd et fun σ2 er3 hw => ⟨by rw [hw ho, wipe_idem], ρ2, v3, h2, s2, er3, ?_⟩
        rw [noex_bind, bind_assoc, bind_assoc] at p2
        refine Post.bindO e2 p2 fun ρ3 H3 b h3 b' e3 s3 r3 p3 => ?_
        have hD3 : H3 Dn = some (.lst vs) := e3.keep _ _ hD n2
        have n3 : Dn ∉ ρ3 := fun z => (e3.gone _ z).elim n2 fun q => by rw [hD] at q; cases q
        subst r3
        cases b with
        | false =>
          rw [if_neg Bool.false_ne_true] at p3 ⊢
          exact ⟨ρ3, h3, acc, vs, e2.trans e3, s3, n3, hD3, ra.ext e3, p3⟩
        | true =>
          rw [if_pos rfl] at p3 ⊢
          rw [noex_bind, bind_assoc] at p3
          refine ⟨ρ3, v3, h3, s3, er3.ext e3, Post.bindO (e2.trans e3) p3 fun ρ4 H4 y h4 z e4 s4 r4 p4 => ?_⟩
          have hD4 : H4 Dn = some (.lst vs) := e4.keep _ _ hD3 n3
          have n4 : Dn ∉ ρ4 := fun z => (e4.gone _ z).elim n3 fun q => by rw [hD3] at q; cases q
          have ra4 := (ra.ext e3).ext e4
          have p5 : PostE X.K X.mg W ρ1 H1 σ Q ((if acc.length < cap then loopC w f (w.items.drop (i + 1)) (acc ++ [y]) h4 else .bad).bind fin) := p4
          split at p5
          · rename_i hz
            refine ⟨vs, hD4, by rw [ra4.len]; exact Nat.lt_of_lt_of_le hz (by decide), ρ4, h4, acc ++ [y], vs ++ [z], Ext.off (ws := vs) ((e2.trans e3).trans e4) nD, s4.off hD4 n4, n4, upd_same, ?_, p5⟩
            exact (ra4.extV (fun _ _ e => e) (sq_off hD4) (sc_off hD4)).append (Reps.one (r4.extV (fun _ _ e => e) (sq_off hD4) (sc_off hD4)))
          · exact p5.elim
    · exact p2.elim
  · have hle : w.items.length ≤ i := by omega
    rw [List.drop_eq_nil_of_le hle] at p2
    unfold loopC at p2
    split at p2
    · rename_i st
      subst hfin
      refine .inl ⟨J1.stop i ρ2 H2 h2 hle e2 s2 st, ?_⟩
      exact p2 (ρ2 ++ [Dn]) H2 (.ref Dn) (e2.take nD) (s2.take hD n2 ra) ⟨Dn, new_at s2 _, rfl⟩
    · exact p2.elim
end
end Mp

set_option Elab.async false
set_option linter.all false
set_option maxRecDepth 100000
set_option maxHeartbeats 2000000
/-! Mp: every expression. -/
namespace Mp
open PySem PySem.Spec PyProof.Rows L2
open PySem (Expr)

section
variable {X : Cx} {W : WX} {gi : GI} {C : Cal} {lv : Nat} {Γ : Gm}
theorem Okx.var (O : Okx Γ X W) {x : Str} {i : Nat} (h : slotW Γ x = some i) : X.N[i]? = some x ∧ Loc X.env.scope x ∧ (X.fn x = true ∨ X.env.scope.names.lookup x = some .local) := by
  unfold slotW at h
  split at h
  · rename_i hs
    have key : slot Γ x = some i → Loc X.env.scope x → X.N[i]? = some x ∧ Loc X.env.scope x ∧ (X.fn x = true ∨ X.env.scope.names.lookup x = some .local) := fun e l => ⟨by rw [O.N]; exact (slot_get e).1, l, O.st x hs l⟩
    split at h
    · rename_i e
      exact key h (.inl (by rw [O.sc]; exact e))
    · rename_i e
      exact key h (.inr (by rw [O.sc]; exact e))
    · cases h
  · cases h
theorem compL_ok {f : Expr → Option E} (hf : ∀ e a, f e = some a → EX X W gi C e a) : ∀ {es : List Expr} {as : List E}, compL f es = some as → AX X W gi C es as ∧ noStar es = true ∧ es.length = as.length
  | [], as, h => by
    cases h
    exact ⟨sa_nil, rfl, rfl⟩
  | e :: r, as, h => by
    unfold compL at h
    split at h
    · cases h
    · rename_i hs
      have hs' : isStar e = false := by simpa using hs
      cases ha : f e with
      | none => rw [ha] at h; cases h
      | some a =>
        rw [ha] at h
        cases hr : compL f r with
        | none => rw [hr] at h; cases h
        | some s =>
          rw [hr] at h
          cases h
          obtain ⟨h1, h2, h3⟩ := compL_ok hf hr
          exact ⟨sa_cons (hf e a ha) h1 hs', by unfold noStar; rw [hs', h2]; rfl, by simp [h3]⟩
theorem and_ok {f : Expr → Option E} {pos : Pos} (hf : ∀ e a, f e = some a → EX X W gi C e a ∧ TX X W gi C e a) : ∀ {es : List Expr} {as : List E} {a : E}, compL f es = some as → foldE .and as = some a → EX X W gi C (.BoolOp .And es pos) a ∧ WXX X W gi C (.BoolOp .And es pos) a
  | [], as, a, h, g => by cases h; cases g
  | [e], as, a, h, g => by
    simp only [compL] at h
    split at h
    · cases h
    · cases ha : f e with
      | none => rw [ha] at h; cases h
      | some b =>
        rw [ha] at h
        cases h
        cases g
        obtain ⟨h1, h2⟩ := hf e _ ha
        exact ⟨pe_one h1, t_and1 h2⟩
  | e :: e' :: r, as, a, h, g => by
    unfold compL at h
    split at h
    · cases h
    · cases ha : f e with
      | none => rw [ha] at h; cases h
      | some b =>
        rw [ha] at h
        cases hr : compL f (e' :: r) with
        | none => rw [hr] at h; cases h
        | some s =>
          rw [hr] at h
          cases h
          cases s with
          | nil =>
            have := (compL_ok (X := X) (W := W) (gi := gi) (C := C) (fun e a h => (hf e a h).1) hr).2.2
            cases this
          | cons c s =>
            unfold foldE at g
            cases gg : foldE .and (c :: s) with
            | none => rw [gg] at g; cases g
            | some d =>
              rw [gg] at g
              cases g
              obtain ⟨h1, h2⟩ := hf e b ha
              obtain ⟨h3, h4⟩ := and_ok (pos := pos) hf hr gg
              exact ⟨s_and h1 h3, t_and h2 h4⟩
theorem or_ok {f : Expr → Option E} {pos : Pos} (hf : ∀ e a, f e = some a → EX X W gi C e a ∧ TX X W gi C e a) : ∀ {es : List Expr} {as : List E} {a : E}, compL f es = some as → foldE .or as = some a → EX X W gi C (.BoolOp .Or es pos) a ∧ WXX X W gi C (.BoolOp .Or es pos) a
  | [], as, a, h, g => by cases h; cases g
  | [e], as, a, h, g => by
    simp only [compL] at h
    split at h
    · cases h
    · cases ha : f e with
      | none => rw [ha] at h; cases h
      | some b =>
        rw [ha] at h
        cases h
        cases g
        obtain ⟨h1, h2⟩ := hf e _ ha
        exact ⟨pe_one h1, t_or1 h2⟩
  | e :: e' :: r, as, a, h, g => by
    unfold compL at h
    split at h
    · cases h
    · cases ha : f e with
      | none => rw [ha] at h; cases h
      | some b =>
        rw [ha] at h
        cases hr : compL f (e' :: r) with
        | none => rw [hr] at h; cases h
        | some s =>
          rw [hr] at h
          cases h
          cases s with
          | nil =>
            have := (compL_ok (X := X) (W := W) (gi := gi) (C := C) (fun e a h => (hf e a h).1) hr).2.2
            cases this
          | cons c s =>
            unfold foldE at g
            cases gg : foldE .or (c :: s) with
            | none => rw [gg] at g; cases g
            | some d =>
              rw [gg] at g
              cases g
              obtain ⟨h1, h2⟩ := hf e b ha
              obtain ⟨h3, h4⟩ := or_ok (pos := pos) hf hr gg
              exact ⟨s_or h1 h3, t_or h2 h4⟩
theorem js_ok {f : Expr → Option E} (hf : ∀ e a, f e = some a → EX X W gi C e a) : ∀ {es : List Expr} {as : List E}, compL f es = some as → PJ X es (tsOf X W gi C as)
  | [], as, h => by cases h; exact .nil
  | e :: r, as, h => by
    unfold compL at h
    split at h
    · cases h
    · cases ha : f e with
      | none => rw [ha] at h; cases h
      | some a =>
        rw [ha] at h
        cases hr : compL f r with
        | none => rw [hr] at h; cases h
        | some s =>
          rw [hr] at h
          cases h
          exact .cons (hf e a ha) (js_ok hf hr)
/-- targets -/
theorem names_ok (O : Okx Γ X W) : ∀ {es : List Expr} {is : List Nat}, compTs Γ es = some is → PGs X es (gNs is) ∧ (assignEach es X.env).length = is.length ∧ (assignEach es X.env).findIdx? (·.1) = none ∧ ∃ ps : List (Str × Pos), es = ps.map fun p => .Name p.1 p.2
  | [], is, h => by
    cases h
    exact ⟨pgs_nil, rfl, rfl, [], rfl⟩
  | e :: r, is, h => by
    unfold compTs at h
    cases e with
    | Name x pos =>
      have e1 : slotE Γ (.Name x pos) = slotW Γ x := rfl
      rw [e1] at h
      cases hs : slotW Γ x with
      | none => rw [hs] at h; cases h
      | some i =>
        rw [hs] at h
        cases hr : compTs Γ r with
        | none => rw [hr] at h; cases h
        | some js =>
          rw [hr] at h
          cases h
          obtain ⟨v1, v2, v3⟩ := O.var hs
          obtain ⟨h1, h2, h3, ps, h4⟩ := names_ok O hr
          have ea : assignEach (.Name x pos :: r) X.env = (false, assign (.Name x pos) X.env) :: assignEach r X.env := rfl
          refine ⟨pgs_cons (pg_name O.nd v1 v2 v3) h1 (by rw [ea]; rfl), by rw [ea, List.length_cons, List.length_cons, h2], ?_, (x, pos) :: ps, by rw [h4]; rfl⟩
          rw [ea, List.findIdx?_cons, h3]
          rfl
    | _ => cases h
theorem compT_ok (O : Okx Γ X W) {e : Expr} {t : T} (h : compT Γ e = some t) : PG X e (gR X.K t) := by
  unfold compT at h
  split at h
  · rename_i x pos
    cases hs : slotW Γ x with
    | none => rw [hs] at h; cases h
    | some i =>
      rw [hs] at h
      cases h
      obtain ⟨v1, v2, v3⟩ := O.var hs
      exact pg_name O.nd v1 v2 v3
  · rename_i es k pos
    cases hs : compTs Γ es with
    | none => rw [hs] at h; cases h
    | some is =>
      rw [hs] at h
      cases h
      obtain ⟨h1, h2, h3, _⟩ := names_ok O hs
      exact pg_tup O.calm h1 h2 h3
  · cases h
theorem isRange_ok {e : Expr} {as : List Expr} (h : isRange Γ e = some as) : ∃ p pos, e = .Call (.Name "range" p) as [] pos ∧ isGlob Γ "range" = true ∧ Γ.glob "range" = .rng := by
  unfold isRange at h
  split at h
  · split at h
    · rename_i hg
      rw [Bool.and_eq_true, decide_eq_true_eq] at hg
      obtain ⟨hg, e⟩ := hg
      subst e
      split at h
      · rename_i hr
        cases h
        exact ⟨_, _, rfl, hg, hr⟩
      · cases h
    · cases h
  · cases h
theorem gl_of (O : Okx Γ X W) {x : Str} (h : isGlob Γ x = true) : Gl X x := by
  show X.env.scope.names.lookup x = _
  rw [O.sc]
  exact isGlob_get h
theorem compIt_ok (O : Okx Γ X W) (T : Txt X gi C lv Γ.glob) {f : Expr → Option E} (hf : ∀ e a, f e = some a → EX X W gi C e a) {tg e : Expr} {it : It} (h : compIt f Γ e = some it) : IX X W gi C tg e it ∧ isSet e = false := by
  unfold compIt at h
  split at h
  · rename_i a er
    obtain ⟨p, pos, e1, hg, hr⟩ := isRange_ok er
    subst e1
    split at h
    · cases h
    · rename_i hs
      cases ha : f a with
      | none => rw [ha] at h; cases h
      | some x =>
        rw [ha] at h
        cases h
        exact ⟨i_rng1 (gl_of O hg) (T.rng _ hr) (hf a x ha) (by simpa using hs), rfl⟩
  · rename_i a b er
    obtain ⟨p, pos, e1, hg, hr⟩ := isRange_ok er
    subst e1
    split at h
    · cases h
    · rename_i hs
      rw [Bool.or_eq_true, not_or] at hs
      cases ha : f a with
      | none => rw [ha] at h; cases h
      | some x =>
        cases hb : f b with
        | none => rw [ha, hb] at h; cases h
        | some y =>
          rw [ha, hb] at h
          cases h
          exact ⟨i_rng2 (gl_of O hg) (T.rng _ hr) (hf a x ha) (hf b y hb) (by simpa using hs.1) (by simpa using hs.2), rfl⟩
  · cases h
  · split at h
    · cases h
    · rename_i hs
      cases ha : f e with
      | none => rw [ha] at h; cases h
      | some x =>
        rw [ha] at h
        cases h
        exact ⟨i_val (hf e x ha), by simpa using hs⟩
theorem folded_of {e : Expr} (h : isSet e = false) (env : Env) (x : Value) : foldedSetIterable e env x = pure x := by
  cases e <;> first | rfl | cases h
theorem compCs_ok {f : Expr → Option E} (hf : ∀ e a, f e = some a → TX X W gi C e a) {es : List Expr} {cs : List E} (h : compCs f es = some cs) : PTs X es (tT X.K X.mg W (evTs gi C cs)) := by
  unfold compCs at h
  split at h
  · cases h
    refine ⟨fun pins s σ H Q I ⟨ρ, v, h, rs, er, p⟩ => pts_nil.run pins s σ H Q I ?_⟩
    simp only [evTs] at p
    exact p _ _ _ Ext.refl rs rfl
  · rename_i c
    cases ha : f c with
    | none => rw [ha] at h; cases h
    | some a =>
      rw [ha] at h
      cases h
      refine ⟨fun pins s σ H Q I ⟨ρ, v, h, rs, er, p⟩ => (pts_one (hf c a ha)).run pins s σ H Q I ⟨ρ, v, h, rs, er, ?_⟩⟩
      have e : evTs gi C [a] v h = evB gi C a v h := by
        simp only [evTs]
        unfold evB asB
        congr 1
        funext x h
        cases truth x h with
        | none => rfl
        | some k => cases k <;> rfl
      rw [e] at p
      exact p
  · cases h
/-! ### within a comprehension -/
theorem blkOk_of (O : Okx Γ X W) {sc : Scope} {own : List (Str × Nat)} (h : blkN Γ.N Γ.names sc own = true) : BlkOk X.N X.env.scope sc own := by
  unfold blkN at h
  simp only [Bool.and_eq_true, List.all_eq_true, decide_eq_true_eq] at h
  obtain ⟨⟨⟨h1, h2⟩, h3⟩, h4⟩ := h
  refine ⟨?_, h2, fun p hp => by rw [O.N]; exact h3 p hp, fun y hy e => ?_, fun y hy e => ?_⟩
  · split at h1
    · assumption
    · cases h1
  · have q := h4 y hy
    simp only [e] at q
    rw [O.sc]
    split at q <;> first | exact .inl (by assumption) | exact .inr (by assumption) | cases q
  · have q := h4 y hy
    rw [O.N]
    rcases e with e | e <;> (simp only [e, Bool.or_eq_true, decide_eq_true_eq] at q; exact q)
theorem relN_lookup (O : Okx Γ X W) (sc : Scope) (x : Str) : (PySem.relabel sc X.env).names.lookup x = (relN Γ.names sc).lookup x := by
  have e : (PySem.relabel sc X.env).names = relN Γ.names sc := by
    unfold PySem.relabel relN
    apply List.map_congr_left
    intro p _
    show (if (p.2 == .free && X.env.scope.kind == .function && X.env.scope.names.lookup p.1 == some .cell) = true then (p.1, NameKind.cell) else (p.1, p.2)) = if (p.2 == .free && Γ.names.lookup p.1 == some .cell) = true then (p.1, .cell) else (p.1, p.2)
    rw [O.knd, O.sc]
    have : (ScopeKind.function == ScopeKind.function) = true := rfl
    rw [this, Bool.and_true]
  rw [e]
theorem okx_blk (O : Okx Γ X W) {sc : Scope} {own : List (Str × Nat)} (hb : blkN Γ.N Γ.names sc own = true) (s : Shared) (H : Hp) (cl : List (Str × Addr)) (A : Addr) (fp : List Addr) : Okx (Γ.blk sc) (X.blk s H sc (PySem.compEnvC sc cl A X.env) fp) W0 where
  N := O.N
  nd := O.nd
  calm := O.calm
  tk := takes0
  sc := fun x => relN_lookup O sc x
  knd := (blkOk_of O hb).kind
  st := fun x hs _ => by
    have hs : stoN sc x = true := hs
    unfold stoN at hs
    split at hs
    · rename_i e
      refine .inr ?_
      show (PySem.relabel sc X.env).names.lookup x = some .local
      exact PySem.lookup_relabel_local e
    · rename_i e
      refine .inl ?_
      show (sc.names.lookup x == some .cell) = true
      rw [e]
      rfl
    · cases hs

theorem plainT {e : Expr} {a : E} (h : EX X W gi C e a) (he : ∀ whole, isTrue e X.env whole = (do let v ← whole; standAt e.pos; holding [v] (truthy v)) := by intro _; rfl) : EX X W gi C e a ∧ TX X W gi C e a := ⟨h, t_plain h he⟩
theorem some_bind {α β : Type} {o : Option α} {f : α → Option β} {b : β} (h : o.bind f = some b) : ∃ a, o = some a ∧ f a = some b := by
  cases o with
  | none => cases h
  | some a => exact ⟨a, rfl, h⟩
theorem some_map {α β : Type} {o : Option α} {f : α → β} {b : β} (h : o.map f = some b) : ∃ a, o = some a ∧ f a = b := by
  cases o with
  | none => cases h
  | some a => exact ⟨a, rfl, Option.some.inj h⟩
theorem behind_of {op : CmpOp} {e : Expr} (h : isSet e = false) : behindInMarks op e = false := by
  cases e <;> first | rfl | cases h
theorem plainIx_of {e : Expr} (h : isSlice e = false) : PlainIx2 e := by
  cases e <;> first | (intro o i; exact ⟨rfl, rfl⟩) | cases h
theorem lastMarks_of {o1 o2 : CmpOp} {e1 e2 : Expr} (h : isSet e2 = false) : lastMarks [o1, o2] [e1, e2] = false := by
  show behindInMarks o2 e2 = false
  exact behind_of h
theorem Txt2.blk (T : Txt2 X gi C lv) (s : Shared) (H : Hp) (sc : Scope) (ce : Env) (fp : List Addr) : Txt2 (X.blk s H sc ce fp) gi C lv :=
  ⟨⟨T.own.cf, T.own.sub⟩, T.gfn, T.ini, T.at_, T.nf, T.nfb, T.hd, T.sf, T.dic, T.exn, T.exs⟩
theorem Txt.blk {glob : Str → Gk} (T : Txt X gi C lv glob) (s : Shared) (H : Hp) (sc : Scope) (ce : Env) (fp : List Addr) : Txt (X.blk s H sc ce fp) gi C lv glob :=
  ⟨T.fn, T.cls, T.dct, T.exc, T.exb, T.cst, T.bty, T.bfn, T.rng⟩
end
theorem snd_E {gi : GI} {C : Cal} {lv : Nat} : ∀ (k : Nat) (Γ : Gm) (e : Expr) (a : E) (X : Cx) (W : WX), compE k Γ e = some a → Okx Γ X W → Txt X gi C lv Γ.glob → Txt2 X gi C lv → Room (lv + 1) X.A → EX X W gi C e a ∧ TX X W gi C e a
  | 0, _, _, _, _, _, h, _, _, _, _ => by cases h
  | k + 1, Γ, e, a, X, W, h, O, T, T2, hr => by
    have ih : ∀ e a, compE k Γ e = some a → EX X W gi C e a ∧ TX X W gi C e a := fun e a h => snd_E k Γ e a X W h O T T2 hr
    have ih1 : ∀ e a, compE k Γ e = some a → EX X W gi C e a := fun e a h => (ih e a h).1
    unfold compE at h
    split at h
    · -- Name
      rename_i x pos
      split at h
      · rename_i hp
        obtain ⟨hd1, hd2⟩ := plain_get hp
        split at h
        · rename_i i hs
          cases h
          exact plainT (sv i O hs hp)
        · split at h
          · rename_i hg
            have hg' := gl_of O hg
            split at h
            · rename_i hk
              cases h
              obtain ⟨f, hm, _, _⟩ := T.fn x hk
              exact plainT (sc_const (pe_glob (v := .ref f) hg' hm rfl hd1) fun _ _ => ⟨f, hm, rfl⟩)
            · rename_i hk
              cases h
              obtain ⟨f, hm⟩ := T.cls x hk
              exact plainT (sc_const (pe_glob (v := .ref f) hg' hm rfl hd1) fun _ _ => ⟨f, hm, rfl⟩)
            · rename_i hk
              cases h
              obtain ⟨f, hm⟩ := T.dct x hk
              exact plainT (sc_const (pe_glob (v := .ref f) hg' hm rfl hd1) fun _ _ => ⟨f, hm, rfl⟩)
            · rename_i d hk
              cases h
              obtain ⟨u, v, hm, rv, rd⟩ := T.cst x d hk
              exact plainT (sc_const (pe_glob (v := v) hg' hm rv hd1) rd)
            · rename_i n b hk
              split at h
              · rename_i e
                cases h
                obtain ⟨hm, hb⟩ := T.bty x n b hk
                obtain ⟨hb1, hb2⟩ := hb e
                exact plainT (sc_const (pe_bltn (v := .ty n) hg' hm hb1 rfl hb2 hd1) fun _ _ => rfl)
              · cases h
            · cases h
          · cases h
      · cases h
    · -- Constant
      split at h
      · cases h; exact plainT (sc_const pe_int fun _ _ => rfl)
      · cases h; exact plainT (sc_const pe_str fun _ _ => rfl)
      · cases h; exact plainT (sc_const pe_bl fun _ _ => rfl)
      · cases h; exact plainT (sc_const pe_non fun _ _ => rfl)
      · cases h
    · -- Tuple
      obtain ⟨as, h1, h2⟩ := some_map h
      subst h2
      exact plainT (s_tup (compL_ok ih1 h1).1)
    · -- List
      obtain ⟨as, h1, h2⟩ := some_map h
      subst h2
      exact plainT (s_lst (compL_ok ih1 h1).1)
    · -- BinOp
      obtain ⟨x, h1, h⟩ := some_bind h
      obtain ⟨y, h2, h⟩ := some_map h
      subst h
      exact plainT (s_bin T2 hr O.tk (ih1 _ _ h1) (ih1 _ _ h2))
    · -- not
      obtain ⟨x, h1, h⟩ := some_map h
      subst h
      exact ⟨s_not (ih1 _ _ h1), t_not (ih _ _ h1).2⟩
    · obtain ⟨x, h1, h⟩ := some_map h
      subst h
      exact plainT (s_neg T2 hr O.tk (ih1 _ _ h1))
    · obtain ⟨x, h1, h⟩ := some_map h
      subst h
      exact plainT (s_inv T2 hr O.tk (ih1 _ _ h1))
    · -- Compare
      split at h
      · cases h
      · rename_i _ _ r _ hs
        have hs : isSet r = false := by simpa using hs
        obtain ⟨x, h1, h⟩ := some_bind h
        obtain ⟨y, h2, h⟩ := some_map h
        subst h
        exact ⟨s_cmp T2 hr O.tk (ih1 _ _ h1) (ih1 _ _ h2) (behind_of hs), t_cmp T2 hr O.tk (ih1 _ _ h1) (ih1 _ _ h2) (behind_of hs)⟩
    · split at h
      · cases h
      · rename_i _ _ _ r1 r2 _ hs
        rw [Bool.or_eq_true, not_or] at hs
        have hs2 : isSet r2 = false := by simpa using hs.2
        obtain ⟨x, h1, h⟩ := some_bind h
        obtain ⟨y, h2, h⟩ := some_bind h
        obtain ⟨z, h3, h⟩ := some_map h
        subst h
        exact ⟨s_chain T2 hr O.tk (ih1 _ _ h1) (ih1 _ _ h2) (ih1 _ _ h3) (lastMarks_of hs2), t_chain T2 hr O.tk (ih1 _ _ h1) (ih1 _ _ h2) (ih1 _ _ h3) (lastMarks_of hs2)⟩
    · -- and
      obtain ⟨as, h1, h2⟩ := some_bind h
      obtain ⟨q1, q2⟩ := and_ok ih h1 h2
      exact ⟨q1, q2.pt⟩
    · obtain ⟨as, h1, h2⟩ := some_bind h
      obtain ⟨q1, q2⟩ := or_ok ih h1 h2
      exact ⟨q1, q2.pt⟩
    · -- if else
      obtain ⟨x, h1, h⟩ := some_bind h
      obtain ⟨y, h2, h⟩ := some_bind h
      obtain ⟨z, h3, h⟩ := some_map h
      subst h
      exact ⟨s_ite (ih _ _ h1).2 (ih1 _ _ h2) (ih1 _ _ h3), t_ite (ih _ _ h1).2 (ih _ _ h2).2 (ih _ _ h3).2⟩
    · -- attribute
      split at h
      · cases h
      · rename_i hc
        obtain ⟨x, h1, h⟩ := some_map h
        subst h
        exact plainT (s_attr T2 hr (ih1 _ _ h1) (by simpa using hc))
    · -- subscript
      split at h
      · obtain ⟨x, h1, h⟩ := some_bind h
        unfold sliceE at h
        split at h
        · cases h
          exact plainT (s_sl0 (ih1 _ _ h1))
        · obtain ⟨y, h2, h⟩ := some_map h
          subst h
          exact plainT (s_sl1 (ih1 _ _ h1) (ih1 _ _ h2))
        · obtain ⟨y, h2, h⟩ := some_map h
          subst h
          exact plainT (s_sl2 (ih1 _ _ h1) (ih1 _ _ h2))
        · obtain ⟨y, h2, h⟩ := some_bind h
          obtain ⟨z, h3, h⟩ := some_map h
          subst h
          exact plainT (s_sl3 (ih1 _ _ h1) (ih1 _ _ h2) (ih1 _ _ h3))
        · cases h
      · rename_i hs
        obtain ⟨x, h1, h⟩ := some_bind h
        obtain ⟨y, h2, h⟩ := some_map h
        subst h
        exact plainT (s_ix T2 hr O.tk (ih1 _ _ h1) (ih1 _ _ h2) (plainIx_of (by simpa using hs)))
    · -- f(..)
      rename_i f p es pos
      split at h
      · rename_i b hb
        split at h
        · rename_i hq
          rw [Bool.and_eq_true, Bool.and_eq_true, decide_eq_true_eq] at hq
          obtain ⟨⟨hp, e⟩, hn⟩ := hq
          obtain ⟨as, h1, h⟩ := some_map h
          subst h
          subst e
          obtain ⟨q1, q2, q3⟩ := compL_ok ih1 h1
          split at hb
          · rename_i hg
            have hm : X.mg (b.nm : Str) = none := by
              unfold bOf at hb
              split at hb
              · rename_i hk
                exact T.bfn _ _ hk
              · rename_i hk
                exact (T.bty _ _ _ hk).1
              · cases hb
            exact plainT (s_blt O.calm T2 hr O.tk (gl_of O hg) hm q1 q2 (by rintro rfl; cases hn))
          · cases hb
        · cases h
      · obtain ⟨x, h1, h⟩ := some_bind h
        obtain ⟨as, h2, h⟩ := some_map h
        subst h
        obtain ⟨q1, q2, q3⟩ := compL_ok ih1 h2
        exact plainT (s_call T2 hr O.tk (ih1 _ _ h1) q1 q2 q3)
    · -- o.m(..)
      split at h
      · cases h
      · rename_i hq
        rw [Bool.or_eq_true, Bool.or_eq_true, not_or, not_or] at hq
        obtain ⟨⟨hc, hl⟩, hn⟩ := hq
        obtain ⟨x, h1, h⟩ := some_bind h
        obtain ⟨as, h2, h⟩ := some_map h
        subst h
        obtain ⟨q1, q2, q3⟩ := compL_ok ih1 h2
        exact plainT (s_meth T2 hr O.tk (ih1 _ _ h1) q1 (by simpa using hc) (by simpa using hl) (by simpa using hn) q2 q3)
    · -- list comprehension
      rename_i elt tg iter ifs sc pos
      split at h
      · rename_i hb
        obtain ⟨t, h1, h⟩ := some_bind h
        split at h
        · rename_i hi
          obtain ⟨it, h2, h⟩ := some_bind h
          obtain ⟨cs, h3, h⟩ := some_bind h
          obtain ⟨x, h4, h⟩ := some_map h
          subst h
          obtain ⟨q1, q2⟩ := compIt_ok (tg := tg) O T ih1 h2
          have hin : ∀ i ∈ tIs t, i ∈ (ownOf Γ.N sc).map (·.2) := fun i hi' => by
            have z := List.all_eq_true.mp hi i hi'
            simpa using z
          refine plainT (PE.wk (pe_lc O.calm O.nd q1 (blkOk_of O hb) (fun s H A cl fp => compT_ok (okx_blk O hb s H cl A fp) h1) (fun s H A cl fp => compCs_ok (W := W0) (fun e a h => (snd_E k (Γ.blk sc) e a _ W0 h (okx_blk O hb s H cl A fp) (T.blk s H sc _ fp) (T2.blk s H sc _ fp) hr).2) h3) (fun s H A cl fp => (snd_E k (Γ.blk sc) elt x _ W0 h4 (okx_blk O hb s H cl A fp) (T.blk s H sc _ fp) (T2.blk s H sc _ fp) hr).1) (folded_of q2 X.env)) fun σ H Q p => lc_wk hin p)
        · cases h
      · cases h
    · obtain ⟨x, h1, h⟩ := some_map h
      subst h
      exact plainT (s_fmt (ih1 _ _ h1))
    · exact plainT (s_join1 (ih1 _ _ h))
    · obtain ⟨as, h1, h⟩ := some_map h
      subst h
      exact plainT (s_join (js_ok ih1 h1))
    · cases h
end Mp

set_option Elab.async false
set_option linter.all false
set_option maxRecDepth 100000
set_option maxHeartbeats 1000000
/-! Mp: what an except suite says. -/
namespace Mp
open PySem PySem.Spec PyProof.Rows L2
open PySem (Expr)

def tXe (X : Cx) (gi : GI) (e : Exn) (i : Nat) (a : Addr) (cls : Value) (dd : Option Addr) (x : XE) : TE := fun σ H Q =>
  ∃ ρ v h d, RSh X.K X.mg ρ H h ∧ EvR X.K X.mg ρ H v σ ∧ σ[i]? = some (some (.ref a)) ∧ ExR X.K X.mg ρ H e cls dd ∧ xeE gi e v x = some d ∧ ∀ ρ' H' y, Ext ρ H ρ' H' → RSh X.K X.mg ρ' H' h → Rep X.K X.mg ρ' H' d y → Q y H'
def tXt (X : Cx) (gi : GI) (e : Exn) (i : Nat) (a : Addr) (cls : Value) (dd : Option Addr) (x : XE) : TT := fun σ H Q =>
  ∃ ρ v h b, RSh X.K X.mg ρ H h ∧ EvR X.K X.mg ρ H v σ ∧ σ[i]? = some (some (.ref a)) ∧ ExR X.K X.mg ρ H e cls dd ∧ xeE gi e v x = some (.bl b) ∧ ∀ ρ' H', Ext ρ H ρ' H' → RSh X.K X.mg ρ' H' h → Q b H'
def tXa (X : Cx) (gi : GI) (e : Exn) (i : Nat) (a : Addr) (cls : Value) (dd : Option Addr) (xs : List XE) : TA := fun σ H Q =>
  ∃ ρ v h ds, RSh X.K X.mg ρ H h ∧ EvR X.K X.mg ρ H v σ ∧ σ[i]? = some (some (.ref a)) ∧ ExR X.K X.mg ρ H e cls dd ∧ xesE gi e v xs = some ds ∧ ∀ ρ' H' ys, Ext ρ H ρ' H' → RSh X.K X.mg ρ' H' h → Reps X.K X.mg ρ' H' ds ys → Q ys H'
theorem ExR.ext {K : PySem.W.Frag} {mg : Mg} {ρ ρ' : List Addr} {H H' : Hp} {e : Exn} {cls : Value} {d : Option Addr} (x : Ext ρ H ρ' H') : ExR K mg ρ H e cls d → ExR K mg ρ' H' e cls d
  | ⟨C, m, ec, .inl z⟩ => ⟨C, m, ec, .inl z⟩
  | ⟨C, m, ec, .inr ⟨ne, dx, gs, ed, nin, hd, fr⟩⟩ => ⟨C, m, ec, .inr ⟨ne, dx, gs, ed, fun hm => (x.gone dx hm).elim nin (fun z => by rw [hd] at z; cases z), x.keep dx _ hd nin, fr.ext x⟩⟩
theorem blX_some {f : Bool → Option D} {o : Option D} {d : D} (h : blX f o = some d) : ∃ k, o = some (.bl k) ∧ f k = some d := by
  unfold blX at h
  split at h
  · exact ⟨_, rfl, h⟩
  · cases h
section
variable {Γ : Gm} {X : Cx} {W : WX} {gi : GI} {e : Exn} {i : Nat} {a : Addr} {oe : Obj} {pn : List (Addr × Obj)} {cls : Value} {dd : Option Addr} {ea eb : Expr} {x y : XE} {xs : List XE} {es rest : List Expr} {pos : Pos}
abbrev PEX (X : Cx) (gi : GI) (e : Exn) (i : Nat) (a : Addr) (oe : Obj) (pn : List (Addr × Obj)) (cls : Value) (dd : Option Addr) (ea : Expr) (x : XE) : Prop := PE (X.suite a ((a, oe) :: pn)) ea (tXe X gi e i a cls dd x)
abbrev PTX (X : Cx) (gi : GI) (e : Exn) (i : Nat) (a : Addr) (oe : Obj) (pn : List (Addr × Obj)) (cls : Value) (dd : Option Addr) (ea : Expr) (x : XE) : Prop := PT (X.suite a ((a, oe) :: pn)) ea (tXt X gi e i a cls dd x)
abbrev PWX (X : Cx) (gi : GI) (e : Exn) (i : Nat) (a : Addr) (oe : Obj) (pn : List (Addr × Obj)) (cls : Value) (dd : Option Addr) (ea : Expr) (x : XE) : Prop := PW (X.suite a ((a, oe) :: pn)) ea (tXt X gi e i a cls dd x)
abbrev PAX (X : Cx) (gi : GI) (e : Exn) (i : Nat) (a : Addr) (oe : Obj) (pn : List (Addr × Obj)) (cls : Value) (dd : Option Addr) (es : List Expr) (xs : List XE) : Prop := PA (X.suite a ((a, oe) :: pn)) es (tXa X gi e i a cls dd xs)
theorem x_lit {d : D} {v : V} (h : PE (X.suite a ((a, oe) :: pn)) ea (tC v)) (r : ∀ ρ H, Rep X.K X.mg ρ H d v) : PEX X gi e i a oe pn cls dd ea (.lit d) :=
  PE.wk h fun σ H Q ⟨ρ, w, hh, d', rs, er, si, ex, q1, q⟩ => by
    simp only [xeE] at q1
    cases q1
    exact q _ _ _ Ext.refl rs (r ρ H)
theorem x_var {j : Nat} {n : Str} (hN : X.N[j]? = some n) (hv : Vis X.env.scope n) (d1 : (n == ("__debug__" : Str)) = false) (d2 : (n == ("__classdict__" : Str)) = false) : PEX X gi e i a oe pn cls dd (.Name n pos) (.var j) := by
  refine PE.wk (pe_var (X := X.suite a ((a, oe) :: pn)) (i := j) hN hv d1 d2) fun σ H Q ⟨ρ, w, hh, d', rs, er, si, ex, q1, q⟩ => ?_
  simp only [xeE] at q1
  split at q1
  · rename_i d ew
    cases q1
    obtain ⟨z, ez, r⟩ := er.2 j _ ew
    exact ⟨z, ez, q _ _ _ Ext.refl rs r⟩
  · cases q1
theorem x_t (h : PEX X gi e i a oe pn cls dd ea x) (he : ∀ whole, isTrue ea X.env whole = (do let v ← whole; standAt ea.pos; holding [v] (truthy v))) : PTX X gi e i a oe pn cls dd ea x := by
  refine ⟨fun pins s σ H Q I ⟨ρ, v, hh, b, rs, er, si, ex, q1, q⟩ => ?_⟩
  refine isTrue_plain ?_ (he _)
  refine thn (h.run pins s σ H (fun y H1 => ∃ ρ1, Ext ρ H ρ1 H1 ∧ RSh X.K X.mg ρ1 H1 hh ∧ y = .bl b) I ⟨ρ, v, hh, _, rs, er, si, ex, q1, fun ρ1 H1 y e1 s1 r1 => ⟨ρ1, e1, s1, r1⟩⟩) fun u s1 ⟨z, H1, I1, rz, ρ1, e1, s1', ez⟩ => ?_
  exact bl_truthy (X := X.suite a ((a, oe) :: pn)) ez rz ⟨H1, I1, q _ _ e1 s1'⟩
theorem x_or (ha : PEX X gi e i a oe pn cls dd ea x) (hb : PEX X gi e i a oe pn cls dd (.BoolOp .Or (eb :: rest) pos) y) : PEX X gi e i a oe pn cls dd (.BoolOp .Or (ea :: eb :: rest) pos) (.or x y) := by
  refine ⟨fun pins s σ H Q I ⟨ρ, v, hh, d, rs, er, si, ex, q1, q⟩ => ?_⟩
  simp only [xeE] at q1
  obtain ⟨k, k1, k2⟩ := blX_some q1
  refine BoolOp_or (thn (ha.run pins s σ H (fun y H1 => ∃ ρ1, Ext ρ H ρ1 H1 ∧ RSh X.K X.mg ρ1 H1 hh ∧ y = .bl k) I ⟨ρ, v, hh, _, rs, er, si, ex, k1, fun ρ1 H1 y e1 s1 r1 => ⟨ρ1, e1, s1, r1⟩⟩) fun u s1 ⟨z, H1, I1, rz, ρ1, e1, s1', ez⟩ => ?_)
  refine bl_truthy (X := X.suite a ((a, oe) :: pn)) ez rz ?_
  subst ez
  cases k with
  | true =>
    rw [if_pos rfl] at k2
    cases k2
    exact ⟨.bl true, H1, I1, rz, q _ _ _ e1 s1' rfl⟩
  | false =>
    rw [if_neg Bool.false_ne_true] at k2
    exact hb.run pins s1 σ H1 Q I1 ⟨ρ1, v, hh, d, s1', er.ext e1, si, ex.ext e1, k2, fun ρ' H' y e2 s2 r2 => q ρ' H' y (e1.trans e2) s2 r2⟩
theorem x_and (ha : PEX X gi e i a oe pn cls dd ea x) (hb : PEX X gi e i a oe pn cls dd (.BoolOp .And (eb :: rest) pos) y) : PEX X gi e i a oe pn cls dd (.BoolOp .And (ea :: eb :: rest) pos) (.and x y) := by
  refine ⟨fun pins s σ H Q I ⟨ρ, v, hh, d, rs, er, si, ex, q1, q⟩ => ?_⟩
  simp only [xeE] at q1
  obtain ⟨k, k1, k2⟩ := blX_some q1
  refine BoolOp_and (thn (ha.run pins s σ H (fun y H1 => ∃ ρ1, Ext ρ H ρ1 H1 ∧ RSh X.K X.mg ρ1 H1 hh ∧ y = .bl k) I ⟨ρ, v, hh, _, rs, er, si, ex, k1, fun ρ1 H1 y e1 s1 r1 => ⟨ρ1, e1, s1, r1⟩⟩) fun u s1 ⟨z, H1, I1, rz, ρ1, e1, s1', ez⟩ => ?_)
  refine bl_truthy (X := X.suite a ((a, oe) :: pn)) ez rz ?_
  subst ez
  cases k with
  | true =>
    rw [if_pos rfl] at k2
    exact hb.run pins s1 σ H1 Q I1 ⟨ρ1, v, hh, d, s1', er.ext e1, si, ex.ext e1, k2, fun ρ' H' y e2 s2 r2 => q ρ' H' y (e1.trans e2) s2 r2⟩
  | false =>
    rw [if_neg Bool.false_ne_true] at k2
    cases k2
    exact ⟨.bl false, H1, I1, rz, q _ _ _ e1 s1' rfl⟩
theorem xt_or (ha : PTX X gi e i a oe pn cls dd ea x) (hb : PWX X gi e i a oe pn cls dd (.BoolOp .Or (eb :: rest) pos) y) : PWX X gi e i a oe pn cls dd (.BoolOp .Or (ea :: eb :: rest) pos) (.or x y) := by
  refine PW.wk (pw_or ha hb) fun σ H Q ⟨ρ, v, hh, b, rs, er, si, ex, q1, q⟩ => ?_
  simp only [xeE] at q1
  obtain ⟨k, k1, k2⟩ := blX_some q1
  refine ⟨ρ, v, hh, k, rs, er, si, ex, k1, fun ρ1 H1 e1 s1 => ?_⟩
  cases k with
  | true =>
    rw [if_pos rfl] at k2
    cases k2
    exact iteT (q _ _ e1 s1)
  | false =>
    rw [if_neg Bool.false_ne_true] at k2
    exact iteF ⟨ρ1, v, hh, b, s1, er.ext e1, si, ex.ext e1, k2, fun ρ' H' e2 s2 => q ρ' H' (e1.trans e2) s2⟩
theorem xt_and (ha : PTX X gi e i a oe pn cls dd ea x) (hb : PWX X gi e i a oe pn cls dd (.BoolOp .And (eb :: rest) pos) y) : PWX X gi e i a oe pn cls dd (.BoolOp .And (ea :: eb :: rest) pos) (.and x y) := by
  refine PW.wk (pw_and ha hb) fun σ H Q ⟨ρ, v, hh, b, rs, er, si, ex, q1, q⟩ => ?_
  simp only [xeE] at q1
  obtain ⟨k, k1, k2⟩ := blX_some q1
  refine ⟨ρ, v, hh, k, rs, er, si, ex, k1, fun ρ1 H1 e1 s1 => ?_⟩
  cases k with
  | true =>
    rw [if_pos rfl] at k2
    exact iteT ⟨ρ1, v, hh, b, s1, er.ext e1, si, ex.ext e1, k2, fun ρ' H' e2 s2 => q ρ' H' (e1.trans e2) s2⟩
  | false =>
    rw [if_neg Bool.false_ne_true] at k2
    cases k2
    exact iteF (q _ _ e1 s1)
theorem xt_not (ha : PTX X gi e i a oe pn cls dd ea x) : PTX X gi e i a oe pn cls dd (.UnaryOp .Not ea pos) (.not x) := by
  refine ⟨fun pins s σ H Q I ⟨ρ, v, hh, b, rs, er, si, ex, q1, q⟩ => ?_⟩
  simp only [xeE] at q1
  obtain ⟨k, k1, k2⟩ := blX_some q1
  cases k2
  exact isTrue_not (ha.run pins s σ H (fun c H1 => Q (!c) H1) I ⟨ρ, v, hh, k, rs, er, si, ex, k1, fun ρ1 H1 e1 s1 => q _ _ e1 s1⟩)
theorem x_not (ha : PEX X gi e i a oe pn cls dd ea x) : PEX X gi e i a oe pn cls dd (.UnaryOp .Not ea pos) (.not x) := by
  refine ⟨fun pins s σ H Q I ⟨ρ, v, hh, d, rs, er, si, ex, q1, q⟩ => ?_⟩
  simp only [xeE] at q1
  obtain ⟨k, k1, k2⟩ := blX_some q1
  cases k2
  refine UnaryOp_ (thn (ha.run pins s σ H (fun y H1 => ∃ ρ1, Ext ρ H ρ1 H1 ∧ RSh X.K X.mg ρ1 H1 hh ∧ y = .bl k) I ⟨ρ, v, hh, _, rs, er, si, ex, k1, fun ρ1 H1 y e1 s1 r1 => ⟨ρ1, e1, s1, r1⟩⟩) fun u s1 ⟨z, H1, I1, rz, ρ1, e1, s1', ez⟩ => ?_)
  exact not_of (bl_truthy (X := X.suite a ((a, oe) :: pn)) ez rz ⟨.bl (!k), H1, I1, rfl, q _ _ _ e1 s1' rfl⟩)
theorem xa_nil : PAX X gi e i a oe pn cls dd [] [] := PA.wk pa_nil fun σ H Q ⟨ρ, v, hh, ds, rs, er, si, ex, q1, q⟩ => by
  simp only [xesE] at q1
  cases q1
  exact q _ _ _ Ext.refl rs rfl
theorem xa_cons (ha : PEX X gi e i a oe pn cls dd ea x) (hr : PAX X gi e i a oe pn cls dd es xs) (hs : isStar ea = false) : PAX X gi e i a oe pn cls dd (ea :: es) (x :: xs) := by
  refine PA.wk (pa_cons ha hr (star_of hs es X.env)) fun σ H Q ⟨ρ, v, hh, ds, rs, er, si, ex, q1, q⟩ => ?_
  simp only [xesE] at q1
  obtain ⟨d, k1, q1⟩ := some_bind q1
  obtain ⟨ds', k2, q1⟩ := some_map q1
  subst q1
  refine ⟨ρ, v, hh, d, rs, er, si, ex, k1, fun ρ1 H1 y e1 s1 r1 => ?_⟩
  exact ⟨ρ1, v, hh, ds', s1, er.ext e1, si, ex.ext e1, k2, fun ρ2 H2 ys e2 s2 r2 => q _ _ _ (e1.trans e2) s2 ⟨y, ys, rfl, r1.ext e2, r2⟩⟩
theorem x_tup {k : Nat} (ha : PAX X gi e i a oe pn cls dd es xs) : PEX X gi e i a oe pn cls dd (.Tuple es k pos) (.tup xs) := by
  refine PE.wk (pe_tup ha) fun σ H Q ⟨ρ, v, hh, d, rs, er, si, ex, q1, q⟩ => ?_
  simp only [xeE] at q1
  split at q1
  · rename_i hz
    obtain ⟨ds, k1, q1⟩ := some_map q1
    subst q1
    refine ⟨ρ, v, hh, ds, rs, er, si, ex, k1, fun ρ1 H1 ys e1 s1 r1 => ?_⟩
    have hl : ∀ (xs : List XE) (ds : List D), xesE gi e v xs = some ds → ds.length = xs.length := fun xs => by
      induction xs with
      | nil => intro ds z; simp only [xesE] at z; cases z; rfl
      | cons x r ih =>
        intro ds z
        simp only [xesE] at z
        obtain ⟨d, _, z⟩ := some_bind z
        obtain ⟨ds', z1, z⟩ := some_map z
        subst z
        simp [ih ds' z1]
    exact ⟨by rw [r1.len, hl _ _ k1]; exact cap_le hz, fun p np => q _ _ _ (e1.trans (Ext.laid np)) (s1.laid np) ⟨p, ys, rfl, SqT.of upd_same, r1.ext (Ext.laid np)⟩⟩
  · cases q1
/-! ### names of classes -/
/-- what a name stands for -/
def NmV (X : Cx) (x : Str) (u : Value) : Prop := X.mg x = some u ∨ (X.mg x = none ∧ bootBuiltins x = some u ∧ x ≠ "__name__")
theorem NmV.one {x : Str} {u w : Value} (h1 : NmV X x u) (h2 : NmV X x w) : u = w := by
  rcases h1 with h1 | ⟨h1, b1, _⟩ <;> rcases h2 with h2 | ⟨h2, b2, _⟩
  · rw [h1] at h2; exact Option.some.inj h2
  · rw [h1] at h2; cases h2
  · rw [h1] at h2; cases h2
  · rw [b1] at b2; exact Option.some.inj b2
def NmVs (X : Cx) : List Str → List Value → Prop
  | [], us => us = []
  | c :: cs, us => ∃ u r, us = u :: r ∧ NmV X c u ∧ NmVs X cs r
theorem NmVs.len {X : Cx} : ∀ {cs : List Str} {us : List Value}, NmVs X cs us → us.length = cs.length
  | [], _, h => by cases h; rfl
  | _ :: _, _, ⟨_, _, e, _, r⟩ => by subst e; simp [NmVs.len r]
def tCs : List V → TA
  | [] => tNil
  | v :: r => tCons (tC v) (tCs r)
theorem tCs_q {σ : L2.St} {H : Hp} {Q : List V → Hp → Prop} : ∀ {vs : List V} {P : List V}, Q (P ++ vs) H → tCs vs σ H (fun xs H1 => Q (P ++ xs) H1)
  | [], P, q => q
  | v :: r, P, q => by
    have z := tCs_q (σ := σ) (vs := r) (P := P ++ [v]) (by rw [List.append_assoc]; exact q)
    have z2 : tCs r σ H (fun xs H1 => Q (P ++ (v :: xs)) H1) := by
      have e : (fun xs H1 => Q (P ++ (v :: xs)) H1) = fun xs H1 => Q (P ++ [v] ++ xs) H1 := by
        funext xs H1
        rw [List.append_assoc]
        rfl
      rw [e]
      exact z
    exact z2
theorem excN_ok {lv : Nat} {C : Cal} (O : Okx Γ X W) (T : Txt X gi C lv Γ.glob) {t : Expr} {c : Str} (h : excN Γ t = some c) :
    ∃ p cv u, t = .Name c p ∧ Gl X c ∧ (c == ("__debug__" : Str)) = false ∧ NmV X c u ∧ RelV cv u ∧ (∀ w, RelV cv w → w = u) := by
  unfold excN at h
  split at h
  · rename_i x p
    split at h
    · rename_i hg
      rw [Bool.and_eq_true] at hg
      have hd := (plain_get hg.2).1
      split at h
      · rename_i e
        cases h
        obtain ⟨f, m⟩ := T.exc _ e
        exact ⟨p, .ref f, .ref f, rfl, gl_of O hg.1, hd, .inl m, rfl, fun w r => r⟩
      · rename_i n e
        cases h
        obtain ⟨m, b, nn⟩ := T.exb _ _ e
        exact ⟨p, .ty n, .type n, rfl, gl_of O hg.1, hd, .inr ⟨m, b, nn⟩, rfl, fun w r => r⟩
      · cases h
    · cases h
  · cases h
theorem nm_pe {x : Str} {u : Value} {cv : V} {p : Pos} {Y : Cx} (hm : Y.mg = X.mg) (hg : Gl Y x) (hd : (x == ("__debug__" : Str)) = false) (n : NmV X x u) (r : RelV cv u) : PE Y (.Name x p) (tC cv) := by
  rcases n with m | ⟨m, b, nn⟩
  · exact pe_glob hg (by rw [hm]; exact m) r hd
  · exact pe_bltn hg (by rw [hm]; exact m) b r nn hd
theorem excNs_ok {lv : Nat} {C : Cal} (O : Okx Γ X W) (T : Txt X gi C lv Γ.glob) : ∀ {ts : List Expr} {cs : List Str}, excNs Γ ts = some cs → ∃ cvs us, PA (X.suite a ((a, oe) :: pn)) ts (tCs cvs) ∧ Vals cvs us ∧ (∀ ws, Vals cvs ws → ws = us) ∧ NmVs X cs us
  | [], cs, h => by
    cases h
    exact ⟨[], [], pa_nil, .nil, (fun ws r => by cases r; rfl), rfl⟩
  | t :: ts, cs, h => by
    unfold excNs at h
    split at h
    · cases h
    · rename_i hs
      obtain ⟨c, h1, h⟩ := some_bind h
      obtain ⟨cs', h2, h⟩ := some_map h
      subst h
      obtain ⟨p, cv, u, rfl, hg, hd, n, r, ru⟩ := excN_ok O T h1
      obtain ⟨cvs, us, pa, rs, rus, ns⟩ := excNs_ok O T h2
      refine ⟨cv :: cvs, u :: us, pa_cons (nm_pe (X := X) rfl hg hd n r) pa (star_of (by simpa using hs) ts X.env), .cons r rs, fun ws z => ?_, ⟨u, us, rfl, n, ns⟩⟩
      cases z with
      | cons z1 z2 => rw [ru _ z1, rus _ z2]
theorem any_ok {lv : Nat} {C : Cal} (T2 : Txt2 X gi C lv) {d : Str} {D : Addr} (hm : X.mg d = some (.ref D)) : ∀ {cs : List Str} {us : List Value} {b : Bool}, NmVs X cs us → isAny (gi.exs d) cs = some b → PySem.W.kitAny X.K (.ref D) us = some b
  | [], us, b, z, h => by cases z; exact h
  | c :: cs, _, b, ⟨u, us, e0, n, ns⟩, h => by
    subst e0
    unfold isAny at h
    unfold PySem.W.kitAny
    cases e : gi.exs d c with
    | none => rw [e] at h; cases h
    | some k =>
      obtain ⟨D', u', F⟩ := T2.exs d c k e
      have eD : D' = D := by
        have := F.m
        rw [hm] at this
        exact (Value.ref.inj (Option.some.inj this)).symm
      have eu : u' = u := NmV.one F.n n
      subst eD eu
      rw [e] at h
      rw [F.k]
      cases k with
      | true => exact h
      | false => exact any_ok T2 hm ns h
/-- isinstance(e, (c, d, ..)) -/
theorem call_isT {D tp : Addr} {cvs : List V} {us : List Value} {b : Bool} {pins : List (Addr × Obj)} {σ : L2.St} {s : Shared} {H : Hp} {Q : VK} (CE : ExcC X.K D) (hz : Zc (.ref D) none oe) (hf : ∃ vs, oe.data = .fields vs) (I : Inv (X.suite a ((a, oe) :: pn)) pins σ H s)
    (ht : H tp = some (.tup cvs)) (hu : ∀ ws, Vals cvs ws → ws = us) (k : PySem.W.kitAny X.K (.ref D) us = some b) (q : Q (.bl b) H) : wpAny (model X.prog X.w) (X.suite a ((a, oe) :: pn)).A (call (.builtin "isinstance") [.ref a, .ref tp]) (EP (X.suite a ((a, oe) :: pn)) pins σ Q) (X.suite a ((a, oe) :: pn)).xe s := by
  obtain ⟨hget, _⟩ := I.pin (a, oe) (List.mem_append.mpr (.inl List.mem_cons_self))
  obtain ⟨vs, hv⟩ := hf
  have J : PySem.W.InstAt s.heap a oe D none := by
    obtain ⟨oc, od, oda, osl⟩ := oe
    obtain ⟨h1, h2⟩ := hz
    dsimp only at h1 h2 hv
    subst h1 h2 hv
    exact ⟨hget, rfl, rfl, trivial⟩
  obtain ⟨its, rv, ⟨o, ho, hc, n, hd⟩, _⟩ := I.tuple (SqT.of ht)
  have ei := hu _ rv
  subst ei
  obtain ⟨oc, od, oda, osl⟩ := o
  dsimp only at hc hd
  subst hc hd
  exact PySem.W.kia_tup (PySem.W.handS_kitx_exc CE.hg CE.hk CE.hs CE.hd CE.ha CE.hn CE.ht CE.hm) I.kIn J ho k (fun z => nomatch z) fun tk => ⟨.bl b, H, I.kept (t' := tk) fun _ _ z => z, rfl, q⟩
theorem x_is1 {lv : Nat} {C : Cal} (O : Okx Γ X W) (T : Txt X gi C lv Γ.glob) (T2 : Txt2 X gi C lv) (hz : Zc cls dd oe) (hf : ∃ vs, oe.data = .fields vs) (hg : Gl X "isinstance") (hm : X.mg "isinstance" = none) {n c : Str} {p p1 : Pos} {t : Expr} (hN : X.N[i]? = some n) (hv : Vis X.env.scope n) (d1 : (n == ("__debug__" : Str)) = false) (d2 : (n == ("__classdict__" : Str)) = false)
    (ht : excN Γ t = some c) : PEX X gi e i a oe pn cls dd (.Call (.Name "isinstance" p) [.Name n p1, t] [] pos) (.is1 c) := by
  refine ⟨fun pins s σ H Q I ⟨ρ, v, hh, d, rs, er, si, ex, q1, q⟩ => ?_⟩
  simp only [xeE] at q1
  split at q1
  · rename_i hem
    obtain ⟨b, eb, q1⟩ := some_map q1
    subst q1
    obtain ⟨p2, cv, u, rfl, hgc, hdc, nn, rr, ru⟩ := excN_ok O T ht
    obtain ⟨D, u', F⟩ := T2.exs _ _ _ eb
    have eu : u' = u := NmV.one F.n nn
    subst eu
    obtain ⟨C', m, ec, zz⟩ := ex
    have eD : C' = D := by
      have := F.m
      rw [m] at this
      exact Value.ref.inj (Option.some.inj this)
    subst eD ec
    have edd : dd = none := by
      rcases zz with ⟨_, z⟩ | ⟨z, _⟩
      · exact z
      · exact absurd (List.isEmpty_iff.mp hem) z
    subst edd
    refine wpAny_Call_Name_kw (ld_blt (X := X.suite a ((a, oe) :: pn)) I hg hm (B.boot .isi) ?_ (by decide) (by decide))
    have pa : PA (X.suite a ((a, oe) :: pn)) [.Name n p1, .Name c p2] (tCons (tVar i) (tCons (tC cv) tNil)) := pa_cons (pe_var (X := X.suite a ((a, oe) :: pn)) hN hv d1 d2) (pa_cons (nm_pe (X := X) rfl hgc hdc nn rr) pa_nil)
    have run2 : wpAny (model X.prog X.w) (X.suite a ((a, oe) :: pn)).A (spliced (backTo pos (starEach [.Name n p1, .Name c p2] X.env))) (fun us s1 => wpAny (model X.prog X.w) (X.suite a ((a, oe) :: pn)).A (call (.builtin "isinstance") us) (EP (X.suite a ((a, oe) :: pn)) pins σ Q) (X.suite a ((a, oe) :: pn)).xe s1) (X.suite a ((a, oe) :: pn)).xe s := by
      refine thn (pa.run pos pins s σ H (fun xs H1 => xs = [.ref a, cv] ∧ H1 = H) I ⟨_, si, rfl, rfl⟩) fun us s1 ⟨xs, H1, I1, rx, exs, eH⟩ => ?_
      subst exs eH
      exact call_isE F.e hz hf pins s1 σ H1 _ us Q I1 rx ⟨cv, _, b, rfl, ru, F.k, q _ _ _ Ext.refl rs rfl⟩
    exact PyProof.Rows.callWith_builtin1 run2 rfl rfl
  · cases q1
theorem x_isT {lv : Nat} {C : Cal} (O : Okx Γ X W) (T : Txt X gi C lv Γ.glob) (T2 : Txt2 X gi C lv) (hz : Zc cls dd oe) (hf : ∃ vs, oe.data = .fields vs) (hg : Gl X "isinstance") (hm : X.mg "isinstance" = none) {n : Str} {cs : List Str} {p p1 p2 : Pos} {ts : List Expr} {k : Nat} (hN : X.N[i]? = some n) (hv : Vis X.env.scope n) (d1 : (n == ("__debug__" : Str)) = false) (d2 : (n == ("__classdict__" : Str)) = false)
    (ht : excNs Γ ts = some cs) : PEX X gi e i a oe pn cls dd (.Call (.Name "isinstance" p) [.Name n p1, .Tuple ts k p2] [] pos) (.isT cs) := by
  refine ⟨fun pins s σ H Q I ⟨ρ, v, hh, d, rs, er, si, ex, q1, q⟩ => ?_⟩
  simp only [xeE] at q1
  split at q1
  · rename_i hem
    rw [Bool.and_eq_true] at hem
    obtain ⟨b, eb, q1⟩ := some_map q1
    subst q1
    obtain ⟨cvs, us, pts, rvs, ruv, nms⟩ := excNs_ok (a := a) (oe := oe) (pn := pn) O T ht
    obtain ⟨D, m, ec, zz⟩ := ex
    subst ec
    have edd : dd = none := by
      rcases zz with ⟨_, z⟩ | ⟨z, _⟩
      · exact z
      · exact absurd (List.isEmpty_iff.mp hem.1) z
    subst edd
    have hk := any_ok T2 m nms eb
    have hl : cvs.length = cs.length := by rw [rvs.length, nms.len]
    have hE : cs ≠ [] → ExcC X.K D := fun ne => by
      cases cs with
      | nil => exact absurd rfl ne
      | cons c r =>
        unfold isAny at eb
        cases e1 : gi.exs e.cls c with
        | none => rw [e1] at eb; cases eb
        | some k1 =>
          obtain ⟨D', u', F⟩ := T2.exs _ _ _ e1
          have eD : D' = D := by
            have := F.m
            rw [m] at this
            exact (Value.ref.inj (Option.some.inj this)).symm
          rw [← eD]
          exact F.e
    have ne : cs ≠ [] := fun z => by rw [z] at hem; simp at hem
    · refine wpAny_Call_Name_kw (ld_blt (X := X.suite a ((a, oe) :: pn)) I hg hm (B.boot .isi) ?_ (by decide) (by decide))
      have pa : PA (X.suite a ((a, oe) :: pn)) [.Name n p1, .Tuple ts k p2] (tCons (tVar i) (tCons (tTup (tCs cvs)) tNil)) := pa_cons (pe_var (X := X.suite a ((a, oe) :: pn)) hN hv d1 d2) (pa_cons (pe_tup pts) pa_nil)
      have run2 : wpAny (model X.prog X.w) (X.suite a ((a, oe) :: pn)).A (spliced (backTo pos (starEach [.Name n p1, .Tuple ts k p2] X.env))) (fun us s1 => wpAny (model X.prog X.w) (X.suite a ((a, oe) :: pn)).A (call (.builtin "isinstance") us) (EP (X.suite a ((a, oe) :: pn)) pins σ Q) (X.suite a ((a, oe) :: pn)).xe s1) (X.suite a ((a, oe) :: pn)).xe s := by
        refine thn (pa.run pos pins s σ H (fun xs H1 => ∃ tp, xs = [.ref a, .ref tp] ∧ H tp = none ∧ H1 = upd H tp (.tup cvs)) I ⟨_, si, tCs_q (P := []) (Q := fun xs H1 => xs.length ≤ sizeLine ∧ ∀ tp, H1 tp = none → ∃ tp', [V.ref a, V.ref tp] = [.ref a, .ref tp'] ∧ H tp' = none ∧ upd H1 tp (.tup xs) = upd H tp' (.tup cvs)) ⟨by rw [List.nil_append, hl]; exact cap_le (of_decide_eq_true (Bool.and_eq_true_iff.mp hem.2).2), fun tp nt => ⟨tp, rfl, nt, rfl⟩⟩⟩) fun us1 s1 ⟨xs, H1, I1, rx, tp, exs, nt, eH⟩ => ?_
        subst exs eH
        cases rx with
        | cons r1 rx =>
          cases rx with
          | cons r2 rx =>
            cases rx
            cases r1
            cases r2
            exact call_isT (hE ne) hz hf I1 upd_same ruv hk (q _ _ _ (Ext.laid nt) (rs.laid nt) rfl)
      exact PyProof.Rows.callWith_builtin1 run2 rfl rfl
  · cases q1
end
end Mp

set_option Elab.async false
set_option linter.all false
set_option maxRecDepth 100000
set_option maxHeartbeats 1000000
/-! Mp: except suites, try, raise. -/
namespace Mp
open PySem PySem.Spec PyProof.Rows L2
open PySem (Expr)

theorem swap_none' {e : Expr} {t : Option Expr} {l : Nat} {env : Env} (h : isComp e = false) : swapsWith e t l env = pure false := by
  cases e <;> first | rfl | cases h
section
variable {Γ : Gm} {X : Cx} {W : WX} {gi : GI} {C : Cal} {lv : Nat} {e : Exn} {i : Nat} {a : Addr} {oe : Obj} {pn : List (Addr × Obj)} {cls : Value} {dd : Option Addr} {n : Str}
theorem compXL_ok {f : Expr → Option XE} (hf : ∀ t x, f t = some x → PEX X gi e i a oe pn cls dd t x) : ∀ {ts : List Expr} {xs : List XE}, compXL f ts = some xs → PAX X gi e i a oe pn cls dd ts xs
  | [], xs, h => by cases h; exact xa_nil
  | t :: ts, xs, h => by
    unfold compXL at h
    split at h
    · cases h
    · rename_i hs
      obtain ⟨x, h1, h⟩ := some_bind h
      obtain ⟨xs', h2, h⟩ := some_map h
      subst h
      exact xa_cons (hf _ _ h1) (compXL_ok hf h2) (by simpa using hs)
theorem orX_ok {f : Expr → Option XE} {pos : Pos} (hf : ∀ t x, f t = some x → PEX X gi e i a oe pn cls dd t x ∧ PTX X gi e i a oe pn cls dd t x) : ∀ {ts : List Expr} {xs : List XE} {x : XE}, compXL f ts = some xs → foldX .or xs = some x →
    PEX X gi e i a oe pn cls dd (.BoolOp .Or ts pos) x ∧ PWX X gi e i a oe pn cls dd (.BoolOp .Or ts pos) x
  | [], xs, x, h, g => by cases h; cases g
  | [t], xs, x, h, g => by
    unfold compXL at h
    split at h
    · cases h
    · obtain ⟨y, h1, h⟩ := some_bind h
      obtain ⟨ys, h2, h⟩ := some_map h
      cases h2
      subst h
      cases g
      obtain ⟨k1, k2⟩ := hf _ _ h1
      exact ⟨pe_one k1, pw_or1 k2⟩
  | t :: t' :: r, xs, x, h, g => by
    unfold compXL at h
    split at h
    · cases h
    · obtain ⟨y, h1, h⟩ := some_bind h
      obtain ⟨ys, h2, h⟩ := some_map h
      subst h
      cases ys with
      | nil =>
        unfold compXL at h2
        split at h2
        · cases h2
        · obtain ⟨_, _, h2⟩ := some_bind h2
          obtain ⟨_, _, h2⟩ := some_map h2
          cases h2
      | cons z zs =>
        unfold foldX at g
        obtain ⟨w, g1, g⟩ := some_map g
        subst g
        obtain ⟨k1, k2⟩ := hf _ _ h1
        obtain ⟨k3, k4⟩ := orX_ok (pos := pos) hf h2 g1
        exact ⟨x_or k1 k3, xt_or k2 k4⟩
theorem andX_ok {f : Expr → Option XE} {pos : Pos} (hf : ∀ t x, f t = some x → PEX X gi e i a oe pn cls dd t x ∧ PTX X gi e i a oe pn cls dd t x) : ∀ {ts : List Expr} {xs : List XE} {x : XE}, compXL f ts = some xs → foldX .and xs = some x →
    PEX X gi e i a oe pn cls dd (.BoolOp .And ts pos) x ∧ PWX X gi e i a oe pn cls dd (.BoolOp .And ts pos) x
  | [], xs, x, h, g => by cases h; cases g
  | [t], xs, x, h, g => by
    unfold compXL at h
    split at h
    · cases h
    · obtain ⟨y, h1, h⟩ := some_bind h
      obtain ⟨ys, h2, h⟩ := some_map h
      cases h2
      subst h
      cases g
      obtain ⟨k1, k2⟩ := hf _ _ h1
      exact ⟨pe_one k1, pw_and1 k2⟩
  | t :: t' :: r, xs, x, h, g => by
    unfold compXL at h
    split at h
    · cases h
    · obtain ⟨y, h1, h⟩ := some_bind h
      obtain ⟨ys, h2, h⟩ := some_map h
      subst h
      cases ys with
      | nil =>
        unfold compXL at h2
        split at h2
        · cases h2
        · obtain ⟨_, _, h2⟩ := some_bind h2
          obtain ⟨_, _, h2⟩ := some_map h2
          cases h2
      | cons z zs =>
        unfold foldX at g
        obtain ⟨w, g1, g⟩ := some_map g
        subst g
        obtain ⟨k1, k2⟩ := hf _ _ h1
        obtain ⟨k3, k4⟩ := andX_ok (pos := pos) hf h2 g1
        exact ⟨x_and k1 k3, xt_and k2 k4⟩
theorem plainX {t : Expr} {x : XE} (h : PEX X gi e i a oe pn cls dd t x) (he : ∀ whole, isTrue t X.env whole = (do let v ← whole; standAt t.pos; holding [v] (truthy v)) := by intro _; rfl) : PEX X gi e i a oe pn cls dd t x ∧ PTX X gi e i a oe pn cls dd t x := ⟨h, x_t h he⟩
theorem sndX_E (O : Okx Γ X W) (T : Txt X gi C lv Γ.glob) (T2 : Txt2 X gi C lv) (hz : Zc cls dd oe) (hf : ∃ vs, oe.data = .fields vs) (hN : X.N[i]? = some n) (hv : Vis X.env.scope n) :
    ∀ (k : Nat) (t : Expr) (x : XE), compXE k Γ n t = some x → PEX X gi e i a oe pn cls dd t x ∧ PTX X gi e i a oe pn cls dd t x
  | 0, _, _, h => by cases h
  | k + 1, t, x, h => by
    have ih := sndX_E O T T2 hz hf hN hv k
    unfold compXE at h
    split at h
    · split at h
      · cases h; exact plainX (x_lit pe_int fun _ _ => rfl)
      · cases h; exact plainX (x_lit pe_str fun _ _ => rfl)
      · cases h; exact plainX (x_lit pe_bl fun _ _ => rfl)
      · cases h; exact plainX (x_lit pe_non fun _ _ => rfl)
      · cases h
    · split at h
      · rename_i hp
        rw [Bool.and_eq_true] at hp
        obtain ⟨j, hs, h⟩ := some_map h
        subst h
        obtain ⟨hN', hk⟩ := slot_get hs
        obtain ⟨d1, d2⟩ := plain_get hp.1
        exact plainX (x_var (by rw [O.N]; exact hN') (by simp only [Vis, O.sc]; exact hk) d1 d2)
      · cases h
    · obtain ⟨xs, h1, h⟩ := some_map h
      subst h
      exact plainX (x_tup (compXL_ok (fun t x h => (ih t x h).1) h1))
    · obtain ⟨xs, h1, h⟩ := some_bind h
      obtain ⟨k1, k2⟩ := orX_ok ih h1 h
      exact ⟨k1, k2.pt⟩
    · obtain ⟨xs, h1, h⟩ := some_bind h
      obtain ⟨k1, k2⟩ := andX_ok ih h1 h
      exact ⟨k1, k2.pt⟩
    · obtain ⟨y, h1, h⟩ := some_map h
      subst h
      obtain ⟨k1, k2⟩ := ih _ _ h1
      exact ⟨x_not k1, xt_not k2⟩
    · rename_i f p y p1 c pos
      split at h
      · rename_i hc
        rw [Bool.and_eq_true, Bool.and_eq_true] at hc
        obtain ⟨⟨hi, hp⟩, hy⟩ := hc
        have hy := of_decide_eq_true hy
        subst hy
        obtain ⟨d1, d2⟩ := plain_get hp
        unfold isIsi at hi
        rw [Bool.and_eq_true, Bool.and_eq_true] at hi
        obtain ⟨⟨h1, h2⟩, h3⟩ := hi
        have h1 := of_decide_eq_true h1
        subst h1
        have hg := gl_of O h2
        have hm : X.mg "isinstance" = none := by
          split at h3
          · rename_i e3
            exact T.bfn _ _ e3
          · cases h3
        split at h
        · obtain ⟨cs, h4, h⟩ := some_map h
          subst h
          exact plainX (x_isT O T T2 hz hf hg hm hN hv d1 d2 h4)
        · obtain ⟨c', h4, h⟩ := some_map h
          subst h
          exact plainX (x_is1 O T T2 hz hf hg hm hN hv d1 d2 h4)
      · cases h
    · cases h
/-! ### statements of a suite -/
def XRP (X : Cx) (ρ : List Addr) (H : Hp) (h : HD) (i : Nat) (a : Addr) (D : Ends) : XR → Prop
  | some (.inl v') => ∀ ρ' H' σ', Ext ρ H ρ' H' → RSh X.K X.mg ρ' H' h → EvR X.K X.mg ρ' H' v' σ' → σ'[i]? = some (some (.ref a)) → D.nx σ' H'
  | some (.inr d) => ∀ ρ' H' y, Ext ρ H ρ' H' → RSh X.K X.mg ρ' H' h → Rep X.K X.mg ρ' H' d y → D.rt y H'
  | none => False
def tXs (X : Cx) (gi : GI) (e : Exn) (i : Nat) (a : Addr) (cls : Value) (dd : Option Addr) (f : Ev → XR) : TS := fun D σ H =>
  ∃ ρ v h, RSh X.K X.mg ρ H h ∧ EvR X.K X.mg ρ H v σ ∧ σ[i]? = some (some (.ref a)) ∧ ExR X.K X.mg ρ H e cls dd ∧ XRP X ρ H h i a D (f v)
theorem XRP.from {ρ ρ1 : List Addr} {H H1 : Hp} {h : HD} {D : Ends} (x : Ext ρ H ρ1 H1) : ∀ {r : XR}, XRP X ρ H h i a D r → XRP X ρ1 H1 h i a D r
  | some (.inl _), p => fun ρ' H' σ' e => p ρ' H' σ' (x.trans e)
  | some (.inr _), p => fun ρ' H' y e => p ρ' H' y (x.trans e)
  | none, p => p
theorem xs_nil : PSs (X.suite a ((a, oe) :: pn)) [] (tXs X gi e i a cls dd fun v => exXs gi e [] v) := PSs.wk pss_nil fun D σ H ⟨ρ, v, h, rs, er, si, ex, p⟩ => by
  simp only [exXs] at p
  exact p _ _ _ Ext.refl rs er si
theorem xs_cons {st : Stmt} {rest : List Stmt} {x : XS} {r : List XS} (h1 : PS (X.suite a ((a, oe) :: pn)) st (tXs X gi e i a cls dd fun v => exX gi e x v)) (h2 : PSs (X.suite a ((a, oe) :: pn)) rest (tXs X gi e i a cls dd fun v => exXs gi e r v)) :
    PSs (X.suite a ((a, oe) :: pn)) (st :: rest) (tXs X gi e i a cls dd fun v => exXs gi e (x :: r) v) := by
  refine PSs.wk (pss_cons h1 h2) fun D σ H ⟨ρ, v, h, rs, er, si, ex, p⟩ => ?_
  simp only [exXs] at p
  refine ⟨ρ, v, h, rs, er, si, ex, ?_⟩
  show XRP X ρ H h i a _ (exX gi e x v)
  revert p
  cases exX gi e x v with
  | none => exact fun p => p
  | some z =>
    cases z with
    | inr d => exact fun p => p
    | inl v' => exact fun p ρ' H' σ' e1 s1 er1 si1 => ⟨ρ', v', h, s1, er1, si1, ex.ext e1, XRP.from e1 p⟩
theorem xs_set {j : Nat} {y : Str} {t : Expr} {x : XE} {pos pos' : Pos} (hN : X.N.Nodup) (hj : X.N[j]? = some y) (hl : Loc X.env.scope y) (ht : PEX X gi e i a oe pn cls dd t x) (hs : swapsWith t (some (.Name y pos')) pos.line X.env = pure false) (hloc : X.env.scope.names.lookup y = some .local) (hne : j ≠ i) :
    PS (X.suite a ((a, oe) :: pn)) (.Assign [.Name y pos'] t pos) (tXs X gi e i a cls dd fun v => exX gi e (.set j x) v) := by
  refine PS.wk (ps_set (X := X.suite a ((a, oe) :: pn)) hN hj hl ht hs (.inr hloc)) fun D σ H ⟨ρ, v, h, rs, er, si, ex, p⟩ => ?_
  simp only [exX] at p
  cases ed : xeE gi e v x with
  | none => rw [ed] at p; exact p.elim
  | some d =>
    rw [ed] at p
    exact ⟨ρ, v, h, d, rs, er, si, ex, ed, fun ρ1 H1 z e1 s1 r1 => p ρ1 H1 _ e1 s1 ((er.ext e1).set r1) (by rw [List.getElem?_set_ne hne]; exact si)⟩
theorem xs_ret {t : Expr} {x : XE} {pos : Pos} (ht : PEX X gi e i a oe pn cls dd t x) : PS (X.suite a ((a, oe) :: pn)) (.Return (some t) pos) (tXs X gi e i a cls dd fun v => exX gi e (.ret x) v) := by
  refine PS.wk (ps_ret ht) fun D σ H ⟨ρ, v, h, rs, er, si, ex, p⟩ => ?_
  simp only [exX] at p
  cases ed : xeE gi e v x with
  | none => rw [ed] at p; exact p.elim
  | some d =>
    rw [ed] at p
    exact ⟨ρ, v, h, d, rs, er, si, ex, ed, fun ρ1 H1 z e1 s1 r1 => p ρ1 H1 _ e1 s1 r1⟩
theorem xs_if {c : Expr} {sa sb : List Stmt} {x : XE} {xa xb : List XS} {pos : Pos} (hc : PTX X gi e i a oe pn cls dd c x) (ha : PSs (X.suite a ((a, oe) :: pn)) sa (tXs X gi e i a cls dd fun v => exXs gi e xa v)) (hb : PSs (X.suite a ((a, oe) :: pn)) sb (tXs X gi e i a cls dd fun v => exXs gi e xb v)) :
    PS (X.suite a ((a, oe) :: pn)) (.If c sa sb pos) (tXs X gi e i a cls dd fun v => exX gi e (.ite x xa xb) v) := by
  refine PS.wk (ps_if hc ha hb) fun D σ H ⟨ρ, v, h, rs, er, si, ex, p⟩ => ?_
  simp only [exX] at p
  split at p
  · rename_i ed
    exact ⟨ρ, v, h, true, rs, er, si, ex, ed, fun ρ1 H1 e1 s1 => ⟨ρ1, v, h, s1, er.ext e1, si, ex.ext e1, XRP.from e1 p⟩⟩
  · rename_i ed
    exact ⟨ρ, v, h, false, rs, er, si, ex, ed, fun ρ1 H1 e1 s1 => ⟨ρ1, v, h, s1, er.ext e1, si, ex.ext e1, XRP.from e1 p⟩⟩
  · exact p.elim
theorem slot_inj (O : Okx Γ X W) {x y : Str} {j : Nat} (h1 : X.N[j]? = some x) (h2 : X.N[i]? = some y) (ne : x ≠ y) : j ≠ i := fun z => by
  subst z
  rw [h1] at h2
  exact ne (Option.some.inj h2)
mutual
theorem sndX_S (O : Okx Γ X W) (T : Txt X gi C lv Γ.glob) (T2 : Txt2 X gi C lv) (hz : Zc cls dd oe) (hf : ∃ vs, oe.data = .fields vs) (hN : X.N[i]? = some n) (hv : Vis X.env.scope n) :
    ∀ (k : Nat) (st : Stmt) (x : XS), compX k Γ n st = some x → PS (X.suite a ((a, oe) :: pn)) st (tXs X gi e i a cls dd fun v => exX gi e x v)
  | 0, _, _, h => by
    unfold compX at h
    cases h
  | k + 1, st, x, h => by
    have ihE := fun t x h => sndX_E (e := e) (i := i) (a := a) (oe := oe) (pn := pn) (cls := cls) (dd := dd) O T T2 hz hf hN hv k t x h
    unfold compX at h
    split at h
    · split at h
      · cases h
      · rename_i hc
        obtain ⟨j, h1, h⟩ := some_bind h
        split at h
        · rename_i hl
          obtain ⟨y, h2, h⟩ := some_map h
          subst h
          rw [Bool.and_eq_true] at hl
          have hl1 := of_decide_eq_true hl.1
          have hl2 : _ ≠ n := of_decide_eq_true (by simpa using hl.2)
          obtain ⟨v1, v2, v3⟩ := O.var h1
          exact xs_set O.nd v1 v2 (ihE _ _ h2).1 (swap_none' (by simpa using hc)) (by rw [O.sc]; exact hl1) (slot_inj O v1 hN hl2)
        · cases h
    · obtain ⟨y, h2, h⟩ := some_map h
      subst h
      exact xs_ret (ihE _ _ h2).1
    · obtain ⟨y, h1, h⟩ := some_bind h
      obtain ⟨ya, h2, h⟩ := some_bind h
      obtain ⟨yb, h3, h⟩ := some_map h
      subst h
      exact xs_if (ihE _ _ h1).2 (sndX_B O T T2 hz hf hN hv k _ _ h2) (sndX_B O T T2 hz hf hN hv k _ _ h3)
    · cases h
theorem sndX_B (O : Okx Γ X W) (T : Txt X gi C lv Γ.glob) (T2 : Txt2 X gi C lv) (hz : Zc cls dd oe) (hf : ∃ vs, oe.data = .fields vs) (hN : X.N[i]? = some n) (hv : Vis X.env.scope n) :
    ∀ (k : Nat) (sts : List Stmt) (xs : List XS), compX.compXB k Γ n sts = some xs → PSs (X.suite a ((a, oe) :: pn)) sts (tXs X gi e i a cls dd fun v => exXs gi e xs v)
  | _, [], xs, h => by
    unfold compX.compXB at h
    cases h
    exact xs_nil
  | k, st :: r, xs, h => by
    unfold compX.compXB at h
    obtain ⟨x, h1, h⟩ := some_bind h
    obtain ⟨ys, h2, h⟩ := some_map h
    subst h
    exact xs_cons (sndX_S O T T2 hz hf hN hv k st x h1) (sndX_B O T T2 hz hf hN hv k r ys h2)
end
/-! ### raise, try -/
theorem s_raise {x m : Str} {j : Nat} {p p2 pos pos' : Pos} (hc : X.calm = true) (tk : Takes X W) (T2 : Txt2 X gi C lv) (hg : Gl X x) (hd : (x == ("__debug__" : Str)) = false) : SX X W gi C (.Raise (some (.Call (.Name x p) [.Constant (.str m) j p2] [] pos)) none pos') (.raise x []) := by
  refine ⟨fun pins s σ H D I ⟨ρ, v, h, rs, er, q⟩ => ?_⟩
  simp only [exS] at q
  split at q
  · rename_i en _
    obtain ⟨K1, F⟩ := T2.exn x en
    refine (ps_raise (W := W) hc tk (pmk_own PySem.F.excBase_ValueError F.q F.m F.kp (raises_own F.b F.t) hg hd)).run pins s σ H D I ?_
    exact q _ _ _ _ _ Ext.refl rs er ⟨K1, F.m, rfl, .inl ⟨rfl, rfl⟩⟩
  · exact q.elim
theorem evr_catch {K : PySem.W.Frag} {mg : Mg} {ρ : List Addr} {H : Hp} {v : Ev} {σ : L2.St} {x : V} (er : EvR K mg ρ H v σ) : EvR K mg ρ H (v.set i none) (σ.set i (some x)) := by
  refine ⟨by rw [List.length_set, List.length_set]; exact er.1, fun j d ej => ?_⟩
  by_cases z : i = j
  · subst z
    by_cases hl : i < v.length
    · rw [List.getElem?_set_self hl] at ej; cases ej
    · rw [List.getElem?_eq_none (by rw [List.length_set]; omega)] at ej; cases ej
  · rw [List.getElem?_set_ne z] at ej
    rw [List.getElem?_set_ne z]
    exact er.2 j d ej
theorem s_try {c : Str} {np pos pos' : Pos} {body suite : List Stmt} {b₀ : Stmt} {y : List S} {zs : List XS} (O : Okx Γ X W) (T : Txt X gi C lv Γ.glob) (T2 : Txt2 X gi C lv) (hs : X.stack = X.env :: X.outer) (hf : X.env.frame = some X.env.locals) (hN : X.N[i]? = some n) (hln : X.env.scope.names.lookup n = some .local) (hc : excN Γ (.Name c np) = some c)
    (hb : ∀ (W' : WX) (pn : List (Addr × Obj)) (xe : Value → Shared → Prop), Takes (X.tr pn xe) W' → PassesOwn (model X.prog X.w) X.A X.env xe → BX (X.tr pn xe) W' gi C body y) (k : Nat) (hsu : compX.compXB k Γ n (b₀ :: suite) = some zs) :
    SX X W gi C (.Try body [.ExceptHandler (some (.Name c np)) (some n) (b₀ :: suite) pos'] [] [] pos) (.tryX y c i zs) := by
  obtain ⟨p0, cv, u, ec, hgc, hdc, nm, _, _⟩ := excN_ok O T hc
  refine PS.wk (ps_try_as (tb := fun W' => tS X.K X.mg W' (exB gi C y)) (ts := fun a cls d D σ H => ∃ e, tXs X gi e i a cls d (fun v => exXs gi e zs v) D σ H) (Wout := W) (c := u) hs hf O.nd hN hln ⟨hgc, hdc, nm⟩ O.tk (fun W' pn xe tk po => hb W' pn xe tk po)
    (fun a oe cls d pn hz hfl => ⟨fun pins s σ H D I ⟨e, q⟩ => (sndX_B O T T2 hz hfl hN (.inl hln) k (b₀ :: suite) zs hsu).run pins s σ H D I q⟩)) fun D σ H ⟨ρ, v, h, rs, er, q⟩ => ?_
  simp only [exS] at q
  refine ⟨ρ, v, h, rs, er, ?_⟩
  revert q
  cases exB gi C y v h with
  | nx v' h' => exact fun q => q
  | rt d h' => exact fun q => q
  | bk v' h' => exact fun q => q
  | ct v' h' => exact fun q => q
  | bad => exact fun q => q
  | ex e v' h' =>
    intro q ρ1 H1 σ1 cls dd x1 s1 er1 ex
    simp only [caught] at q
    split at q
    · rename_i eb
      split at q
      · rename_i hi
        split at q
        · rename_i d ed
          obtain ⟨D', u', F⟩ := T2.exs _ _ _ eb
          have eu : u' = u := NmV.one F.n nm
          subst eu
          obtain ⟨C', m, ecl, zz⟩ := ex
          have eD : C' = D' := by
            have := F.m
            rw [m] at this
            exact Value.ref.inj (Option.some.inj this)
          subst eD ecl
          refine ⟨true, F.x, fun _ a na => ⟨e, ρ1, v'.set i none, h', s1, evr_catch er1, List.getElem?_set_self (by rw [← er1.1]; exact hi), ⟨C', m, rfl, zz⟩, ?_⟩, fun z => Bool.noConfusion z⟩
          show XRP X ρ1 H1 h' i a _ (exXs gi e zs (v'.set i none))
          rw [ed]
          exact fun ρ2 H2 w x2 s2 r2 => q ρ2 H2 w (x1.trans x2) s2 r2
        · exact q.elim
      · exact q.elim
    · rename_i eb
      obtain ⟨D', u', F⟩ := T2.exs _ _ _ eb
      have eu : u' = u := NmV.one F.n nm
      subst eu
      obtain ⟨C', m, ecl, zz⟩ := ex
      have eD : C' = D' := by
        have := F.m
        rw [m] at this
        exact Value.ref.inj (Option.some.inj this)
      subst eD ecl
      exact ⟨false, F.x, fun z => Bool.noConfusion z, fun _ => q ρ1 H1 σ1 _ _ x1 s1 er1 ⟨C', m, rfl, zz⟩⟩
    · exact q.elim
end
end Mp

set_option Elab.async false
set_option linter.all false
set_option maxRecDepth 100000
set_option maxHeartbeats 2000000
/-! Mp: every statement. -/
namespace Mp
open PySem PySem.Spec PyProof.Rows L2
open PySem (Expr)

section
variable {X : Cx} {W : WX} {gi : GI} {C : Cal} {lv : Nat} {Γ : Gm}
theorem swap_none {e : Expr} {t : Option Expr} {l : Nat} {env : Env} (h : isComp e = false) : swapsWith e t l env = pure false := by
  cases e <;> first | rfl | cases h
theorem swap_attr {e o : Expr} {f : Str} {p : Pos} {l : Nat} {env : Env} : swapsWith e (some (.Attribute o f p)) l env = pure false := by
  cases e <;> rfl
theorem swap_tup {e : Expr} {es : List Expr} {k : Nat} {p : Pos} {l : Nat} {env : Env} : swapsWith e (some (.Tuple es k p)) l env = pure false := by
  cases e <;> rfl
theorem comp_lc {k : Nat} {e : Expr} {a : E} (h : compE k Γ e = some a) (hc : isComp e = true) : ∃ elt tg iter ifs sc pos, e = .ListComp elt [⟨tg, iter, ifs, 0⟩] sc pos := by
  cases k with
  | zero => cases h
  | succ k =>
    unfold compE at h
    split at h <;> first
      | exact ⟨_, _, _, _, _, _, rfl⟩
      | (cases hc; done)
      | (cases h; done)
/-- x = e -/
theorem snd_set {k : Nat} {x : Str} {p pos : Pos} {e : Expr} {a : E} {i : Nat} (h : compE k Γ e = some a) (hs : slotW Γ x = some i) (O : Okx Γ X W) (T : Txt X gi C lv Γ.glob) (T2 : Txt2 X gi C lv) (hr : Room (lv + 1) X.A) : SX X W gi C (.Assign [.Name x p] e pos) (.set i a) := by
  obtain ⟨v1, v2, v3⟩ := O.var hs
  have he := (snd_E k Γ e a X W h O T T2 hr).1
  cases hc : isComp e with
  | false => exact s_set O.nd v1 v2 he (swap_none hc) v3
  | true =>
    obtain ⟨elt, tg, iter, ifs, sc, lpos, rfl⟩ := comp_lc h hc
    have hsw : swapsWith (.ListComp elt [⟨tg, iter, ifs, 0⟩] sc lpos) (some (.Name x p)) pos.line X.env = pure (X.env.blockKind == .function && X.env.kindOf x == some .local && p.line == lpos.line && !(sc.names.any fun (n, k) => n == x && (k == .local || k == .cell))) := rfl
    cases hb : (X.env.blockKind == .function && X.env.kindOf x == some .local && p.line == lpos.line && !(sc.names.any fun (n, k) => n == x && (k == .local || k == .cell))) with
    | false => exact s_set O.nd v1 v2 he (by rw [hsw, hb]) v3
    | true =>
      rw [hb] at hsw
      simp only [Bool.and_eq_true] at hb
      have hl : X.env.scope.names.lookup x = some .local := by
        have z := hb.1.1.2
        show X.env.kindOf x = some .local
        simpa using z
      cases k with
      | zero => cases h
      | succ k =>
        have ih1 : ∀ e a, compE k Γ e = some a → EX X W gi C e a := fun e a h => (snd_E k Γ e a X W h O T T2 hr).1
        simp only [compE] at h
        split at h
        · rename_i hb
          obtain ⟨t, h1, h⟩ := some_bind h
          split at h
          · rename_i hi
            obtain ⟨it, h2, h⟩ := some_bind h
            obtain ⟨cs, h3, h⟩ := some_bind h
            obtain ⟨y, h4, h⟩ := some_map h
            subst h
            obtain ⟨q1, q2⟩ := compIt_ok (tg := tg) O T ih1 h2
            have hin : ∀ i ∈ tIs t, i ∈ (ownOf Γ.N sc).map (·.2) := fun i hi' => by
              have z := List.all_eq_true.mp hi i hi'
              simpa using z
            refine PS.wk (ps_setLc (g := gR X.K t) (te := tD X.K X.mg W0 (evE gi C y)) (tt := tT X.K X.mg W0 (evTs gi C cs)) O.calm O.nd v1 hl hsw q1 (blkOk_of O hb) (fun s H A cl fp => compT_ok (okx_blk O hb s H cl A fp) h1) (fun s H A cl fp => compCs_ok (W := W0) (fun e a h => (snd_E k (Γ.blk sc) e a _ W0 h (okx_blk O hb s H cl A fp) (T.blk s H sc _ fp) (T2.blk s H sc _ fp) hr).2) h3) (fun s H A cl fp => (snd_E k (Γ.blk sc) elt y _ W0 h4 (okx_blk O hb s H cl A fp) (T.blk s H sc _ fp) (T2.blk s H sc _ fp) hr).1) (folded_of q2 X.env)) fun D σ H ⟨ρ, v, h, rs, er, p⟩ => ?_
            refine lc_wk (W := W) hin ⟨ρ, v, h, rs, er, ?_⟩
            simp only [exS] at p
            exact PostS.bind er p fun ρ1 H1 d h1 x e1 s1 er1 r1 p1 => p1 _ _ _ Ext.refl s1 (er1.set r1)
          · cases h
        · cases h
theorem swapped_none {es : List Expr} {k : Nat} {p : Pos} {e : Expr} (h : (match e with | .Tuple _ _ _ => true | _ => false) = false) (env : Env) : swappedStores [.Tuple es k p] e env = pure none := by
  cases e <;> first | rfl | cases h
theorem excR_ok (O : Okx Γ X W) {t : Expr} {x : Str} (h : excR Γ t = some x) : ∃ p m j p2 pos, t = .Call (.Name x p) [.Constant (.str m) j p2] [] pos ∧ Gl X x ∧ (x == ("__debug__" : Str)) = false := by
  unfold excR at h
  split at h
  · split at h
    · rename_i hg
      rw [Bool.and_eq_true] at hg
      split at h
      · cases h
        exact ⟨_, _, _, _, _, rfl, gl_of O hg.1, (plain_get hg.2).1⟩
      · cases h
    · cases h
  · cases h
theorem Txt2.tr (T : Txt2 X gi C lv) (pn : List (Addr × Obj)) (xe : Value → Shared → Prop) : Txt2 (X.tr pn xe) gi C lv :=
  ⟨⟨T.own.cf, T.own.sub⟩, T.gfn, T.ini, T.at_, T.nf, T.nfb, T.hd, T.sf, T.dic, T.exn, T.exs⟩
theorem Txt.tr {glob : Str → Gk} (T : Txt X gi C lv glob) (pn : List (Addr × Obj)) (xe : Value → Shared → Prop) : Txt (X.tr pn xe) gi C lv glob :=
  ⟨T.fn, T.cls, T.dct, T.exc, T.exb, T.cst, T.bty, T.bfn, T.rng⟩
end
mutual
theorem snd_S {gi : GI} {C : Cal} {lv : Nat} {Γ : Gm} : ∀ (k : Nat) (st : Stmt) (a : S) (X : Cx) (W : WX), compS k Γ st = some a → Okx Γ X W → Txt X gi C lv Γ.glob → Txt2 X gi C lv → Room (lv + 1) X.A → PassesOwn (model X.prog X.w) X.A X.env X.xe → X.stack = X.env :: X.outer → X.env.frame = some X.env.locals → SX X W gi C st a
  | 0, _, _, X, W, h, _, _, _, _, _, _, _ => by
    unfold compS at h
    cases h
  | k + 1, st, a, X, W, h, O, T, T2, hr, hp, hst, hfr => by
    have ihE : ∀ e a, compE k Γ e = some a → EX X W gi C e a ∧ TX X W gi C e a := fun e a h => snd_E k Γ e a X W h O T T2 hr
    have ihB : ∀ sts as, compS.compB k Γ sts = some as → BX X W gi C sts as := fun sts as h => snd_B k sts as X W h O T T2 hr hp hst hfr
    unfold compS at h
    split at h
    · obtain ⟨i, h1, h⟩ := some_bind h
      obtain ⟨y, h2, h⟩ := some_map h
      subst h
      exact snd_set h2 h1 O T T2 hr
    · split at h
      · cases h
      · rename_i hc
        obtain ⟨x, h1, h⟩ := some_bind h
        obtain ⟨y, h2, h⟩ := some_map h
        subst h
        exact s_fld T2 (ihE _ _ h1).1 (ihE _ _ h2).1 swap_attr
    · rename_i es j p e pos
      split at h
      · cases h
      · rename_i hne
        split at h
        · rename_i is ht
          obtain ⟨y, h2, h⟩ := some_map h
          subst h
          exact s_unp (ihE _ _ h2).1 (gT_of (compT_ok O ht)) (swap_tup (es := es) (k := j) (p := p) (l := pos.line) (env := X.env)) (swapped_none (by cases e <;> first | rfl | exact absurd rfl (hne _ _ _)) X.env) rfl
        · cases h
    · obtain ⟨i, h1, h⟩ := some_bind h
      obtain ⟨y, h2, h⟩ := some_bind h
      obtain ⟨v1, v2, v3⟩ := O.var h1
      split at h
      · cases h
        exact s_aug (.inl rfl) O.nd v1 v2 (ihE _ _ h2).1 v3
      · cases h
        exact s_aug (.inr rfl) O.nd v1 v2 (ihE _ _ h2).1 v3
      · cases h
    · split at h
      · cases h
      · rename_i hc
        obtain ⟨y, h2, h⟩ := some_map h
        subst h
        exact s_expr (ihE _ _ h2).1 (swap_none (by simpa using hc))
    · split at h
      · cases h
        exact s_never
      · obtain ⟨y, h2, h⟩ := some_map h
        subst h
        exact s_ret (ihE _ _ h2).1
    · cases h
      exact s_retN
    · obtain ⟨x, h1, h⟩ := some_bind h
      obtain ⟨y, h2, h⟩ := some_bind h
      obtain ⟨z, h3, h⟩ := some_map h
      subst h
      exact s_if (ihE _ _ h1).2 (ihB _ _ h2) (ihB _ _ h3)
    · obtain ⟨x, h1, h⟩ := some_bind h
      obtain ⟨y, h2, h⟩ := some_map h
      subst h
      exact s_while hp (ihE _ _ h1).2 (ihB _ _ h2)
    · rename_i tg it b pos
      obtain ⟨t, h1, h⟩ := some_bind h
      obtain ⟨i, h2, h⟩ := some_bind h
      obtain ⟨y, h3, h⟩ := some_map h
      subst h
      obtain ⟨q1, q2⟩ := compIt_ok (tg := tg) O T (fun e a h => (ihE e a h).1) h2
      exact s_for hp O.calm q1 (gT_of (compT_ok O h1)) (ihB _ _ h3) (folded_of q2 X.env)
    · cases h; exact s_pass
    · cases h; exact s_brk
    · cases h; exact s_cnt
    · split at h
      · rename_i x ex
        cases h
        obtain ⟨p, m, j, p2, pos, rfl, hg, hd⟩ := excR_ok O ex
        exact s_raise O.calm O.tk T2 hg hd
      · cases h; exact s_never
    · cases h; exact s_never
    · rename_i b t n s0 s pos' pos
      obtain ⟨c, h1, h⟩ := some_bind h
      obtain ⟨i, h2, h⟩ := some_bind h
      split at h
      · rename_i hl
        obtain ⟨y, h3, h⟩ := some_bind h
        obtain ⟨zs, h4, h⟩ := some_map h
        subst h
        obtain ⟨p0, cv, u, rfl, _⟩ := excN_ok O T h1
        refine s_try O T T2 hst hfr (O.var h2).1 (by rw [O.sc]; exact hl) h1 (fun W' pn xe tk po => ?_) k h4
        exact snd_B k b y (X.tr pn xe) W' h3 ⟨O.N, O.nd, O.calm, tk, O.sc, O.knd, O.st⟩ (T.tr pn xe) (T2.tr pn xe) hr po hst hfr
      · cases h
    · cases h
theorem snd_B {gi : GI} {C : Cal} {lv : Nat} {Γ : Gm} : ∀ (k : Nat) (sts : List Stmt) (as : List S) (X : Cx) (W : WX), compS.compB k Γ sts = some as → Okx Γ X W → Txt X gi C lv Γ.glob → Txt2 X gi C lv → Room (lv + 1) X.A → PassesOwn (model X.prog X.w) X.A X.env X.xe → X.stack = X.env :: X.outer → X.env.frame = some X.env.locals → BX X W gi C sts as
  | _, [], as, X, W, h, _, _, _, _, _, _, _ => by
    unfold compS.compB at h
    cases h
    exact b_nil
  | k, st :: r, as, X, W, h, O, T, T2, hr, hp, hst, hfr => by
    unfold compS.compB at h
    obtain ⟨a, h1, h⟩ := some_bind h
    obtain ⟨b, h2, h⟩ := some_map h
    subst h
    exact b_cons (snd_S k st a X W h1 O T T2 hr hp hst hfr) (snd_B k r b X W h2 O T T2 hr hp hst hfr)
end
end Mp

set_option Elab.async false
set_option linter.all false
set_option maxRecDepth 100000
set_option maxHeartbeats 2000000
/-! Mp: every def does what the interpreter says. -/
namespace Mp
open PySem PySem.Spec PyProof.Rows L2
open PySem (Expr)

/-! ### what a call leaves behind is dropped -/
section
variable {K : PySem.W.Frag} {mg : Mg} {ρ ρ' : List Addr} {H H' : Hp} {h h' : HD}
theorem take_pre (e : Ext ρ H ρ' H') : ρ'.take ρ.length = ρ := by
  apply List.ext_getElem?
  intro i
  by_cases hi : i < ρ.length
  · rw [List.getElem?_take_of_lt hi, List.getElem?_eq_getElem hi]
    exact e.pre i _ (List.getElem?_eq_getElem hi)
  · rw [List.getElem?_take, if_neg hi, List.getElem?_eq_none (by omega)]
theorem pre_back (e : Ext ρ H ρ' H') {i : Nat} (hi : i < ρ.length) : ρ[i]? = ρ'[i]? := by
  rw [List.getElem?_eq_getElem hi]
  exact (e.pre i _ (List.getElem?_eq_getElem hi)).symm
mutual
theorem Rep.back (e : Ext ρ H ρ' H') : ∀ {d : D} {v : V}, d.cl ρ.length = true → Rep K mg ρ' H' d v → Rep K mg ρ H' d v
  | .non, _, _, r => r
  | .bl _, _, _, r => r
  | .int _, _, _, r => r
  | .str _, _, _, r => r
  | .ty _, _, _, r => r
  | .gl _, _, _, r => r
  | .ref i, _, c, ⟨p, e1, q⟩ => ⟨p, by rw [pre_back e (of_decide_eq_true c)]; exact e1, q⟩
  | .tup xs, _, c, ⟨p, vs, e1, s, r⟩ => ⟨p, vs, e1, s, Reps.back e c r⟩
  | .kls xs, _, c, ⟨p, vs, e1, s, r⟩ => ⟨p, vs, e1, s, Reps.back e c r⟩
theorem Reps.back (e : Ext ρ H ρ' H') : ∀ {ds : List D} {vs : List V}, cls ρ.length ds = true → Reps K mg ρ' H' ds vs → Reps K mg ρ H' ds vs
  | [], _, _, r => r
  | d :: ds, _, c, ⟨v, r, e1, h1, h2⟩ => by
    have c' : (d.cl ρ.length && cls ρ.length ds) = true := c
    rw [Bool.and_eq_true] at c'
    exact ⟨v, r, e1, Rep.back e c'.1 h1, Reps.back e c'.2 h2⟩
end
theorem FsR.back (e : Ext ρ H ρ' H') : ∀ {fs : List (Str × D)} {gs : List (Str × V)}, (fs.all fun p => p.2.cl ρ.length) = true → FsR K mg ρ' H' fs gs → FsR K mg ρ H' fs gs
  | [], _, _, r => r
  | (_, _) :: _, _, c, ⟨v, r, e1, h1, h2⟩ => by
    rw [List.all_cons, Bool.and_eq_true] at c
    exact ⟨v, r, e1, Rep.back e c.1 h1, FsR.back e c.2 h2⟩
theorem ObjR.back {p : Addr} {o : O} (e : Ext ρ H ρ' H') (c : o.cl ρ.length = true) (r : ObjR K mg ρ' H' p o) : ObjR K mg ρ H' p o := by
  cases o with
  | lst xs => obtain ⟨vs, e1, r⟩ := r; exact ⟨vs, e1, r.back e c⟩
  | ins cc fs => obtain ⟨C, dx, gs, m, e1, r⟩ := r; exact ⟨C, dx, gs, m, e1, r.back e c⟩
  | dct kvs => obtain ⟨gs, e1, r⟩ := r; exact ⟨gs, e1, r.back e c⟩
  | raw => trivial
mutual
theorem Rep.closed : ∀ {d : D} {v : V}, Rep K mg ρ H d v → d.cl ρ.length = true
  | .non, _, r => rfl
  | .bl _, _, r => rfl
  | .int _, _, r => rfl
  | .str _, _, r => rfl
  | .ty _, _, r => rfl
  | .gl _, _, r => rfl
  | .ref i, _, ⟨p, e1, q⟩ => decide_eq_true (List.getElem?_eq_some_iff.mp e1).1
  | .tup xs, _, ⟨p, vs, e1, s, r⟩ => Reps.closed r
  | .kls xs, _, ⟨p, vs, e1, s, r⟩ => Reps.closed r
theorem Reps.closed : ∀ {ds : List D} {vs : List V}, Reps K mg ρ H ds vs → cls ρ.length ds = true
  | [], _, r => rfl
  | d :: ds, _, ⟨v, r, e1, h1, h2⟩ => by
    show (d.cl ρ.length && cls ρ.length ds) = true
    rw [Rep.closed h1, Reps.closed h2]
    rfl
end
theorem FsR.closed : ∀ {fs : List (Str × D)} {gs : List (Str × V)}, FsR K mg ρ H fs gs → (fs.all fun p => p.2.cl ρ.length) = true
  | [], _, r => rfl
  | (_, _) :: _, _, ⟨v, r, e1, h1, h2⟩ => by
    rw [List.all_cons, Rep.closed h1, FsR.closed h2]
    rfl
theorem ObjR.closed {p : Addr} {o : O} (r : ObjR K mg ρ H p o) : o.cl ρ.length = true := by
  cases o with
  | lst xs => obtain ⟨vs, e1, r⟩ := r; exact r.closed
  | ins cc fs => obtain ⟨C, dx, gs, m, e1, r⟩ := r; exact r.closed
  | dct kvs => obtain ⟨gs, e1, r⟩ := r; exact r.closed
  | raw => rfl
theorem Ext.back (e : Ext ρ H ρ' H') : Ext ρ H ρ H' := ⟨fun _ _ q => q, e.tup, e.frz, e.keep, fun _ q => .inl q⟩
theorem RSh.back (s : RSh K mg ρ H h) (e : Ext ρ H ρ' H') (s' : RSh K mg ρ' H' h') {d : D} (g : GcOk d h h') : RSh K mg ρ H' (h'.take h.length) where
  len := by rw [List.length_take, s.len, Nat.min_eq_left g.2.1]
  nd := s.nd
  trk := fun p hp => by
    obtain ⟨i, hi⟩ := List.mem_iff_getElem?.mp hp
    exact s'.trk p (List.mem_of_getElem? (e.pre i p hi))
  obj := fun i o ei => by
    have hi : i < h.length := by
      by_cases z : i < h.length
      · exact z
      · rw [List.getElem?_eq_none (by rw [List.length_take]; omega)] at ei
        cases ei
    rw [List.getElem?_take_of_lt hi] at ei
    obtain ⟨p, e1, r⟩ := s'.obj i o ei
    have hl : i < ρ.length := by rw [s.len]; exact hi
    refine ⟨p, by rw [pre_back e hl]; exact e1, r.back e ?_⟩
    rcases g.2.2 i hi with q | ⟨o', q, c⟩
    · rw [q] at ei
      obtain ⟨p', _, r'⟩ := s.obj i o ei
      exact r'.closed
    · rw [q] at ei
      cases ei
      rw [s.len]
      exact c
theorem gc_post {W : WX} {σ : L2.St} {Q : VK} {d : D} {ρ1 : List Addr} {H1 : Hp} (s : RSh K mg ρ H h) (p : PostE K mg W ρ H σ Q (.ok d (gc d h h'))) (e : Ext ρ H ρ1 H1) (s1 : RSh K mg ρ1 H1 h') {x : V} (r : Rep K mg ρ1 H1 d x) : Q x H1 := by
  unfold gc at p
  split at p
  · rename_i g
    exact p ρ H1 x e.back (s.back e s1 g) (r.back e (by rw [s.len]; exact g.1))
  · exact p ρ1 H1 x e s1 r
end

/-! ### what is known of the text, before anything is known of what it does -/
def MkF (K : PySem.W.Frag) (Ad : Str → Addr → Prop) (Cl : Addr) (m : Str) : Mk → Prop
  | .fld => NoAttr K Cl m
  | .fn q => ∃ f, Meth K Cl m f ∧ PySem.W.isFn K (.ref f) = true ∧ PySem.W.fnIn K f = true ∧ Ad q f
  | .cm q => ∃ p g, ClX.CRead K Cl (.type "type") ∧ ClX.CMet K Cl (.type "type") m p g ∧ Ad q g
  | .prop q => ∃ p g, PropOf K Cl m p g ∧ Ad q g
  | .con d => ∃ v u, Con K Cl m v u ∧ ∀ ρ H, Rep K (fun _ => none) ρ H d v
structure TxF (K : PySem.W.Frag) (w : World) (mg : Mg) (gi : GI) (Ad : Str → Addr → Prop) (glob : Str → Gk) : Prop where
  cf : ∀ c, gi.own c = true → ∃ Cl, mg c = some (.ref Cl) ∧ ClsF K gi c Cl
  sub : ∀ d c D' C', gi.own d = true → gi.own c = true → mg d = some (.ref D') → mg c = some (.ref C') → PySem.W.kitOne K (.ref D') (.ref C') = some (gi.sub d c)
  gfn : ∀ c, gi.fn c = true → ∃ f, mg c = some (.ref f) ∧ PySem.W.keepIn K (.ref f) = true ∧ Ad c f
  ini : ∀ c q Cl, gi.own c = true → gi.init c = some q → mg c = some (.ref Cl) → ∃ f, L2.Mk K Cl f ∧ Ad q f
  at_ : ∀ c m k Cl, gi.own c = true → gi.at_ c m = some k → mg c = some (.ref Cl) → MkF K Ad Cl m k
  nf : ∀ c d C' D', gi.own c = true → gi.own d = true → mg c = some (.ref C') → mg d = some (.ref D') → (d = c ∨ gi.sub d c = false) → PySem.W.notFirst K C' (.ref D') = true
  nfb : ∀ c C', gi.own c = true → mg c = some (.ref C') → ∀ n ∈ ["NoneType", "bool", "int", "str", "tuple", "list"], PySem.W.notFirst K C' (.type n) = true
  sf : ∀ c C', gi.own c = true → mg c = some (.ref C') → PySem.W.selfFirst K C' = true
  dic : ∀ x kvs, gi.dic x = some kvs → DicF K w mg x kvs
  exn : ∀ c, gi.exn c = some [] → ∃ C, ExnF K mg c C
  exs : ∀ d c b, gi.exs d c = some b → ∃ D u, ExsF K mg d c b D u
  fn : ∀ x, glob x = .fn → gi.fn x = true
  cls : ∀ x, glob x = .cls → gi.own x = true
  dct : ∀ x, glob x = .dct → (gi.dic x).isSome = true
  exc : ∀ x, glob x = .exc → ∃ f, mg x = some (.ref f)
  exb : ∀ x n, glob x = .exb n → mg x = none ∧ bootBuiltins x = some (.type n) ∧ x ≠ "__name__"
  cst : ∀ x d, glob x = .cst d → ∃ u v, mg x = some u ∧ RelV v u ∧ ∀ ρ H, Rep K (fun _ => none) ρ H d v
  bty : ∀ x n b, glob x = .bty n b → mg x = none ∧ (x = (n : Str) → bootBuiltins x = some (.type n) ∧ x ≠ "__name__")
  bfn : ∀ x b, glob x = .bfn b → mg x = none
  rng : ∀ x, glob x = .rng → mg x = none
mutual
theorem Rep.mg {K : PySem.W.Frag} {mg : Mg} {ρ : List Addr} {H : Hp} : ∀ {d : D} {v : V}, Rep K (fun _ => none) ρ H d v → Rep K mg ρ H d v
  | .non, _, r => r
  | .bl _, _, r => r
  | .int _, _, r => r
  | .str _, _, r => r
  | .ty _, _, r => r
  | .gl _, _, ⟨_, e, _⟩ => by cases e
  | .ref i, _, r => r
  | .tup xs, _, ⟨p, vs, e1, s, r⟩ => ⟨p, vs, e1, s, Reps.mg r⟩
  | .kls xs, _, ⟨p, vs, e1, s, r⟩ => ⟨p, vs, e1, s, Reps.mg r⟩
theorem Reps.mg {K : PySem.W.Frag} {mg : Mg} {ρ : List Addr} {H : Hp} : ∀ {ds : List D} {vs : List V}, Reps K (fun _ => none) ρ H ds vs → Reps K mg ρ H ds vs
  | [], _, r => r
  | _ :: _, _, ⟨v, r, e1, h1, h2⟩ => ⟨v, r, e1, Rep.mg h1, Reps.mg h2⟩
end
section
variable {X : Cx} {gi : GI} {C : Cal} {lv : Nat} {Ad : Str → Addr → Prop} {glob : Str → Gk}
theorem TxF.txt (T : TxF X.K X.w X.mg gi Ad glob) (ck : ∀ q f, Ad q f → CalOk X.prog X.w X.K X.mg X.base C lv q f) : Txt X gi C lv glob where
  fn := fun x e => by
    obtain ⟨f, m, k, a⟩ := T.gfn x (T.fn x e)
    exact ⟨f, m, k, ck x f a⟩
  cls := fun x e => by
    obtain ⟨Cl, m, _⟩ := T.cf x (T.cls x e)
    exact ⟨Cl, m⟩
  dct := fun x e => by
    obtain ⟨kvs, ed⟩ := Option.isSome_iff_exists.mp (T.dct x e)
    obtain ⟨a, _, _, m, _⟩ := T.dic x kvs ed
    exact ⟨a, m⟩
  exc := T.exc
  exb := T.exb
  cst := fun x d e => by
    obtain ⟨u, v, m, r, q⟩ := T.cst x d e
    exact ⟨u, v, m, r, fun ρ H => (q ρ H).mg⟩
  bty := T.bty
  bfn := T.bfn
  rng := T.rng
theorem TxF.txt2 (T : TxF X.K X.w X.mg gi Ad glob) (ck : ∀ q f, Ad q f → CalOk X.prog X.w X.K X.mg X.base C lv q f) : Txt2 X gi C lv where
  own := ⟨T.cf, T.sub⟩
  gfn := fun c e => by
    obtain ⟨f, m, k, a⟩ := T.gfn c e
    exact ⟨f, m, k, ck c f a⟩
  ini := fun c q Cl ho e m => by
    obtain ⟨f, k, a⟩ := T.ini c q Cl ho e m
    exact ⟨f, k, ck q f a⟩
  at_ := fun c m k Cl ho e mm => by
    have z := T.at_ c m k Cl ho e mm
    cases k with
    | fn q => obtain ⟨f, h1, h2, h3, a⟩ := z; exact ⟨f, h1, h2, h3, ck q f a⟩
    | cm q => obtain ⟨p, g, h1, h2, a⟩ := z; exact ⟨p, g, h1, h2, ck q g a⟩
    | prop q => obtain ⟨p, g, h1, a⟩ := z; exact ⟨p, g, h1, ck q g a⟩
    | con d => obtain ⟨v, u, h1, a⟩ := z; exact ⟨v, u, h1, fun ρ H => (a ρ H).mg⟩
    | fld => exact z
  nf := T.nf
  nfb := T.nfb
  hd := fun c C' ho m => by
    obtain ⟨Cl, m', F⟩ := T.cf c ho
    rw [m] at m'
    cases m'
    exact F.cl.pg
  sf := T.sf
  dic := T.dic
  exn := T.exn
  exs := T.exs
end
/-- a def as it stands, and what the interpreter has of it -/
structure DefOk (K : PySem.W.Frag) (glob : Str → Gk) (F : Fn) (f : Addr) : Prop where
  ex : ∃ (oc : Value) (od : Option Addr) (osl : Array (Option Value)) (name qual : Str) (params : Arguments) (body : List Stmt) (scope : Scope) (dV kV doc pm : Value) (an : Option Addr) (cdv ct : Value) (N ps : List Str) (k : Nat),
    K.lookup f = some ⟨oc, od, .func (PySem.W.fnOf name qual params body scope dV kV doc pm an cdv ct), osl⟩ ∧ PySem.W.codeIn K cdv qual = true ∧ FnScope N ps scope ∧
      compS.compB k ⟨N, scope.names, glob, fun _ => true⟩ body = some F.body ∧ F.n = N.length ∧ F.ar = ps.length ∧
      ∀ us : List Value, us.length ≤ ps.length → ps.length ≤ us.length + F.dfl.length → ∃ its vs, Vals vs its ∧ (∀ ρ H, Reps K (fun _ => none) ρ H (F.dfl.drop (F.dfl.length - (ps.length - us.length))) vs) ∧
        ∀ s, K.In s.heap → BindsTo s (PySem.W.fnOf name qual params body scope dV kV doc pm an cdv ct) ⟨us, []⟩ (ps.zip (us ++ its))
/-- the program's table and its text -/
structure ProgOk (P : Prog) (K : PySem.W.Frag) (w : World) (mg : Mg) (Ad : Str → Addr → Prop) (glob : Str → Gk) : Prop where
  tx : TxF K w mg P.gi Ad glob
  df : ∀ q F f, P.fn q = some F → Ad q f → DefOk K glob F f
theorem start_map {N : List Str} {vs : List V} : start N vs = vs.map some ++ List.replicate (N.length - vs.length) none := rfl
theorem EvR.start {K : PySem.W.Frag} {mg : Mg} {ρ : List Addr} {H : Hp} {ds : List D} {vs : List V} {n : Nat} (r : Reps K mg ρ H ds vs) : EvR K mg ρ H (ds.map some ++ List.replicate n none) (vs.map some ++ List.replicate n none) := by
  refine ⟨by simp [r.len], fun i d e => ?_⟩
  by_cases hi : i < ds.length
  · rw [List.getElem?_append_left (by simpa using hi), List.getElem?_map] at e
    cases e1 : ds[i]? with
    | none => rw [e1] at e; cases e
    | some d' =>
      rw [e1] at e
      cases e
      obtain ⟨x, e2, rr⟩ := r.get e1
      refine ⟨x, ?_, rr⟩
      have hl : i < vs.length := by rw [r.len]; exact hi
      rw [List.getElem?_append_left (by simpa using hl), List.getElem?_map, e2]
      rfl
  · rw [List.getElem?_append_right (by simpa using hi), List.getElem?_replicate] at e
    split at e <;> cases e
/-- a def's call, its arguments bound -/
theorem fnok_def {gi : GI} {prog : Program} {w : World} {K : PySem.W.Frag} {mg : Mg} {base : Heap} {Ad : Str → Addr → Prop} {glob : Str → Gk} {C : Cal} {lv : Nat} {F : Fn} {f : Addr} (T : TxF K w mg gi Ad glob) (ck : ∀ q f, Ad q f → CalOk prog w K mg base C lv q f)
    {oc : Value} {od : Option Addr} {osl : Array (Option Value)} {name qual : Str} {params : Arguments} {body : List Stmt} {scope : Scope} {dV kV doc pm : Value} {an : Option Addr} {cdv ct : Value} {N ps : List Str} {k : Nat}
    (lk : K.lookup f = some ⟨oc, od, .func (PySem.W.fnOf name qual params body scope dV kV doc pm an cdv ct), osl⟩) (hcd : PySem.W.codeIn K cdv qual = true) (S : FnScope N ps scope)
    (hc : compS.compB k ⟨N, scope.names, glob, fun _ => true⟩ body = some F.body) (hn : F.n = N.length) (ha : F.ar = ps.length) :
    FnOk prog w K mg base (L2.CX prog w) (lv + 1 + 1) f (PySem.W.fnOf name qual params body scope dV kV doc pm an cdv ct) ps (fun vs' H' Q' E' => vs'.length = ps.length ∧ ∃ ρ ds' h, RSh K mg ρ H' h ∧ Reps K mg ρ H' ds' vs' ∧ PostE K mg (fun c d _ H'' => E' c d H'') ρ H' [] Q' (match exB gi C F.body (ds'.map some ++ List.replicate (F.n - F.ar) none) h with
      | .nx _ h' => .ok .non (gc .non h h')
      | .rt d h' => .ok d (gc d h h')
      | .ex e _ h' => .ex e h'
      | _ => .bad)) := by
  refine fn_of lk hcd S (fun vs H Q E h => h.1) fun A outer s H vs Q E hr hsp => ?_
  obtain ⟨hl, ρ, ds, h, rs, rd, p⟩ := hsp
  let X := cxOf (L2.CX prog w) prog w K mg base N qual scope f cdv A outer s H E
  have O : Okx ⟨N, scope.names, glob, fun _ => true⟩ X (fun c d _ H => E c d H) := ⟨rfl, S.nd, rfl, takes_of rfl rfl rfl rfl, fun _ => rfl, S.kind, fun _ _ _ => .inl rfl⟩
  have TT : Txt X gi C lv glob := TxF.txt (X := X) T ck
  have TT2 : Txt2 X gi C lv := TxF.txt2 (X := X) T ck
  have hB := snd_B k body F.body X _ hc O TT TT2 hr (passes_of (X := X) rfl) rfl rfl
  refine ⟨_, hB, ρ, ds.map some ++ List.replicate (F.n - F.ar) none, h, rs, ?_, ?_⟩
  · have := EvR.start (n := F.n - F.ar) rd
    rw [start_map, hl, ← hn, ← ha]
    exact this
  · revert p
    cases exB gi C F.body (ds.map some ++ List.replicate (F.n - F.ar) none) h with
    | nx v h' => exact fun p ρ' H' σ' e s2 er2 => gc_post rs p e s2 (x := V.non) rfl
    | rt d h' => exact fun p ρ' H' x e s2 r => gc_post rs p e s2 r
    | ex e v h' => exact fun p ρ' H' σ' c dd a b _ d => p ρ' H' c dd a b d
    | bk _ _ => exact fun p => p.elim
    | ct _ _ => exact fun p => p.elim
    | bad => exact fun p => p.elim
theorem call_def {P : Prog} {prog : Program} {w : World} {K : PySem.W.Frag} {mg : Mg} {base : Heap} {Ad : Str → Addr → Prop} {glob : Str → Gk} {C : Cal} {lv : Nat} {F : Fn} {f : Addr} {q : Str} {C' : Cal} (T : TxF K w mg P.gi Ad glob) (D : DefOk K glob F f)
    (ck : ∀ q f, Ad q f → CalOk prog w K mg base C lv q f) (e : ∀ ds h, C' q ds h = exF P.gi C F ds h) : CalOk prog w K mg base C' (lv + 2) q f := by
  intro A outer s H us vs Q E ρ ds h hr e0 r rs rd p
  rw [e] at p
  obtain ⟨oc, od, osl, name, qual, params, body, scope, dV, kV, doc, pm, an, cdv, ct, N, ps, k, lk, hcd, S, hc, hn, ha, hb⟩ := D.ex
  unfold exF at p
  split at p
  · rename_i hlen
    have hu : us.length = ds.length := by rw [← r.length]; exact rd.len
    obtain ⟨its, ws, rw', rd2, hbind⟩ := hb us (by rw [hu, ← ha]; exact hlen.1) (by rw [hu, ← ha]; exact hlen.2)
    rw [← ha, hu] at rd2
    have hws : (vs ++ ws).length = ps.length := by
      have h1 := (rd2 ρ H).len
      rw [List.length_append, h1, List.length_drop, rd.len]
      omega
    have rall : Reps K mg ρ H (ds ++ F.dfl.drop (F.dfl.length - (F.ar - ds.length))) (vs ++ ws) := rd.append ((rd2 ρ H).mg)
    have KX : K.In s.heap := e0.mod.kin.keeps fun b o e => (e0.bs b o e).1
    exact (fnok_def (base := base) T ck lk hcd S hc hn ha).run A outer s H ⟨us, []⟩ (us ++ its) (vs ++ ws) Q E hr e0 (hbind s KX) (r.append rw') ⟨hws, ρ, _, h, rs, rall, p⟩
  · exact p.elim
/-- every def, at every depth -/
theorem run_ok {P : Prog} {prog : Program} {w : World} {K : PySem.W.Frag} {mg : Mg} {base : Heap} {Ad : Str → Addr → Prop} {glob : Str → Gk} (T : ProgOk P K w mg Ad glob) : ∀ (k : Nat) (q : Str) (f : Addr), Ad q f → CalOk prog w K mg base (run P k) (2 * k) q f
  | 0, q, f, _ => fun A outer s H us vs Q E ρ ds h hr e0 r rs rd p => p.elim
  | k + 1, q, f, a => by
    cases e : P.fn q with
    | none =>
      intro A outer s H us vs Q E ρ ds h hr e0 r rs rd p
      have : run P (k + 1) q ds h = .bad := by simp only [run, e]
      rw [this] at p
      exact p.elim
    | some F =>
      exact call_def (C := run P k) T.tx (T.df q F f e a) (run_ok T k) fun ds h => by simp only [run, e]
end Mp

set_option Elab.async false
set_option linter.all false
set_option maxRecDepth 100000
set_option maxHeartbeats 2000000
/-! Mp: the program's table; what is looked up in the heap behind the top. -/
namespace Mp
open PySem PySem.Spec PyProof.Rows L2
open PySem (Expr)

/-- where a function object is found -/
inductive At where
  | glo (x : Str) | met (c m : Str) | prop (c m : Str) | cm (c m : Str)
def recAd (K : PySem.W.Frag) (T : String) (p : Addr) : Addr := match PySem.W.recIn K p T with
  | some (.ref g :: _) => g
  | _ => 0
def At.ad (K : PySem.W.Frag) : At → Addr
  | .glo x => He.ga K x
  | .met c m => He.ma K (He.ga K c) m
  | .prop c m => recAd K "property" (He.ma K (He.ga K c) m)
  | .cm c m => recAd K "classmethod" (He.ma K (He.ga K c) m)
structure Df where
  key : Str
  at_ : At
  qual : Str
  st : Stmt
  ps : List Str
  N : List Str
  F : Fn
def defName (s : Stmt) : Str := match s with
  | .FunctionDef n _ _ _ _ _ _ _ _ _ => n
  | _ => ⟨#[]⟩
def dV : D → V
  | .bl b => .bl b
  | .int i => .int i
  | .str x => .str x
  | _ => .non
theorem dV_rep {K : PySem.W.Frag} {mg : Mg} {ρ : List Addr} {H : Hp} {d : D} (h : d.flat = true) : Rep K mg ρ H d (dV d) := by
  cases d <;> first | rfl | cases h
theorem dV_reps {K : PySem.W.Frag} {mg : Mg} {ρ : List Addr} {H : Hp} : ∀ {ds : List D}, (ds.all D.flat) = true → Reps K mg ρ H ds (ds.map dV)
  | [], _ => rfl
  | d :: r, h => by
    rw [List.all_cons, Bool.and_eq_true] at h
    exact ⟨_, _, rfl, dV_rep h.1, dV_reps h.2⟩
/-- how arguments are bound -/
def BindS (d : Df) : Prop := match d.F.dfl with
  | [] => ∀ (kV doc pm : Value) (an : Option Addr) (cdv ct : Value) (us : List Value), us.length = d.ps.length → bindArgs (PySem.W.fnOf (defName d.st) d.qual (defArgs d.st) (defBody d.st) (defScope d.st) .none kV doc pm an cdv ct) ⟨us, []⟩ = pure (d.ps.zip us)
  | ds => ∀ (T : Addr) (kV doc pm : Value) (an : Option Addr) (cdv ct : Value) (us its : List Value), us.length ≤ d.ps.length → d.ps.length ≤ us.length + ds.length → its.length = ds.length →
      ∃ k, bindArgs (PySem.W.fnOf (defName d.st) d.qual (defArgs d.st) (defBody d.st) (defScope d.st) (.ref T) kV doc pm an cdv ct) ⟨us, []⟩ = seqItems? (.ref T) >>= k ∧ k (some its.toArray) = pure (d.ps.zip (us ++ its.drop (ds.length - (d.ps.length - us.length))))
/-- what is told of a def by its text alone -/
structure DfS (glob : Str → Gk) (d : Df) : Prop where
  sc : FnScope d.N d.ps (defScope d.st)
  comp : compS.compB 200 ⟨d.N, (defScope d.st).names, glob, fun _ => true⟩ (defBody d.st) = some d.F.body
  n : d.F.n = d.N.length
  ar : d.F.ar = d.ps.length
  fl : (d.F.dfl.all D.flat) = true
  bi : BindS d
/-- what is looked up -/
def Df.ok (K : PySem.W.Frag) (d : Df) : Bool := match K.lookup (d.at_.ad K) with
  | some ⟨_, _, .func fd, _⟩ => PySem.W.codeIn K fd.code d.qual && He.dflB K fd.defaults (d.F.dfl.map dV)
  | _ => false
def Df.obs (K : PySem.W.Frag) (d : Df) : He.FnW := match K.lookup (d.at_.ad K) with
  | some ⟨_, _, .func fd, _⟩ => some (fd.name, fd.qualname, fd.params, fd.body, fd.scope, fd.globals, fd.closure, fd.builtins)
  | _ => none
def Df.val (d : Df) : He.FnW := some (defName d.st, d.qual, defArgs d.st, .stmts (defBody d.st), defScope d.st, mainGlobals, [], builtinsNs)
theorem Df.look {K : PySem.W.Frag} {d : Df} (e : d.obs K = d.val) (c : d.ok K = true) : ∃ (oc : Value) (od : Option Addr) (osl : Array (Option Value)) (dv kV doc pm : Value) (an : Option Addr) (cdv ct : Value),
    K.lookup (d.at_.ad K) = some ⟨oc, od, .func (PySem.W.fnOf (defName d.st) d.qual (defArgs d.st) (defBody d.st) (defScope d.st) dv kV doc pm an cdv ct), osl⟩ ∧ PySem.W.codeIn K cdv d.qual = true ∧ He.dflB K dv (d.F.dfl.map dV) = true := by
  unfold Df.ok at c
  unfold Df.obs at e
  cases q : K.lookup (d.at_.ad K) with
  | none => rw [q] at c; cases c
  | some o =>
    obtain ⟨oc, od, dt, osl⟩ := o
    rw [q] at c e
    cases dt with
    | func fd =>
      obtain ⟨n1, n2, n3, n4, n5, n6, n7, n8, n9, n10, n11, n12, n13, n14, n15⟩ := fd
      have e2 : (some (n1, n2, n3, n4, n5, n6, n7, n15) : He.FnW) = some (defName d.st, d.qual, defArgs d.st, .stmts (defBody d.st), defScope d.st, mainGlobals, [], builtinsNs) := e
      simp only [Option.some.injEq, Prod.mk.injEq] at e2
      obtain ⟨h1, h2, h3, h4, h5, h6, h7, h8⟩ := e2
      subst h1 h2 h3 h4 h5 h6 h7 h8
      have c3 : (PySem.W.codeIn K n13 d.qual && He.dflB K n8 (d.F.dfl.map dV)) = true := c
      obtain ⟨k1, k2⟩ := He.ba c3
      exact ⟨oc, od, osl, n8, n9, n10, n11, n12, n13, n14, rfl, k1, k2⟩
    | _ => cases c
theorem Df.defOk {K : PySem.W.Frag} {glob : Str → Gk} {d : Df} (S : DfS glob d) (e : d.obs K = d.val) (c : d.ok K = true) : DefOk K glob d.F (d.at_.ad K) := by
  obtain ⟨oc, od, osl, n8, n9, n10, n11, n12, n13, n14, q, k1, k2⟩ := Df.look e c
  refine ⟨oc, od, osl, _, _, _, _, _, n8, n9, n10, n11, n12, n13, n14, d.N, d.ps, 200, q, k1, S.sc, S.comp, S.n, S.ar, fun us h1 h2 => ?_⟩
  have bi := S.bi
  unfold BindS at bi
  have hfl := S.fl
  cases hd : d.F.dfl with
  | nil =>
    rw [hd] at bi h2 k2
    have hl : us.length = d.ps.length := by
      have : us.length + ([] : List D).length = us.length := rfl
      omega
    have e8 : n8 = .none := by
      cases n8 with
      | none => rfl
      | _ => cases k2
    subst e8
    refine ⟨[], [], .nil, fun ρ H => ?_, fun s _ => ?_⟩
    · rw [List.drop_nil]
      rfl
    · rw [List.append_nil]
      exact .of_eq (bi n9 n10 n11 n12 n13 n14 us hl)
  | cons d0 dr =>
    rw [hd] at bi h2 k2 hfl
    rcases He.dflB_ok k2 with ⟨z, _⟩ | ⟨_, T, o, its, m, rfl, lT, oT, rT⟩
    · cases z
    · have hil : its.length = (d0 :: dr).length := by rw [← rT.length, List.length_map]
      have bi' := bi T n9 n10 n11 n12 n13 n14 us its h1 h2 hil
      obtain ⟨k, b1, b2⟩ := bi'
      refine ⟨_, _, rT.drop ((d0 :: dr).length - (d.ps.length - us.length)), fun ρ H => ?_, fun s KX => BindsTo.of_looks fun M => ?_⟩
      · rw [← List.map_drop]
        refine dV_reps ?_
        rw [List.all_eq_true] at hfl ⊢
        exact fun x hx => hfl x (List.mem_of_mem_drop hx)
      · rw [b1]
        exact looks_items KX lT oT (.of_pure b2)
/-! ### values of the module -/
mutual
def repB (K : PySem.W.Frag) : D → Value → Bool
  | .tup ds, .ref a => match K.lookup a with
    | some ⟨.type c, _, .seq its _, _⟩ => decide (c = "tuple") && (decide (its.size ≤ sizeLine) && repsB K ds its.toList)
    | _ => false
  | d, u => d.flat && He.relB (dV d) u
def repsB (K : PySem.W.Frag) : List D → List Value → Bool
  | [], [] => true
  | d :: ds, u :: us => repB K d u && repsB K ds us
  | _, _ => false
end
mutual
theorem repB_ok {K : PySem.W.Frag} {mg : Mg} : ∀ {d : D} {u : Value}, repB K d u = true → ∃ v, RelV v u ∧ ∀ ρ H, Rep K mg ρ H d v
  | .tup ds, .ref a, e => by
    unfold repB at e
    split at e
    · rename_i c od its n sl q
      obtain ⟨e1, e⟩ := He.ba e
      obtain ⟨e2, e3⟩ := He.ba e
      have e1 := of_decide_eq_true e1
      subst e1
      obtain ⟨vs, r, f⟩ := repsB_ok (mg := mg) e3
      exact ⟨.ref a, rfl, fun ρ H => ⟨a, vs, rfl, .inr ⟨_, its, n, q, rfl, rfl, of_decide_eq_true e2, r⟩, f ρ H⟩⟩
    · cases e
  | .non, u, e => by
    have e : (D.non.flat && He.relB (dV .non) u) = true := by unfold repB at e; exact e
    exact ⟨_, He.relB_ok (He.ba e).2, fun ρ H => dV_rep (He.ba e).1⟩
  | .bl b, u, e => by
    have e : ((D.bl b).flat && He.relB (dV (.bl b)) u) = true := by unfold repB at e; exact e
    exact ⟨_, He.relB_ok (He.ba e).2, fun ρ H => dV_rep (He.ba e).1⟩
  | .int i, u, e => by
    have e : ((D.int i).flat && He.relB (dV (.int i)) u) = true := by unfold repB at e; exact e
    exact ⟨_, He.relB_ok (He.ba e).2, fun ρ H => dV_rep (He.ba e).1⟩
  | .str x, u, e => by
    have e : ((D.str x).flat && He.relB (dV (.str x)) u) = true := by unfold repB at e; exact e
    exact ⟨_, He.relB_ok (He.ba e).2, fun ρ H => dV_rep (He.ba e).1⟩
  | .kls _, u, e => by unfold repB at e; cases e
  | .ref _, u, e => by unfold repB at e; cases e
  | .gl _, u, e => by unfold repB at e; cases e
  | .ty _, u, e => by unfold repB at e; cases e
  | .tup _, .none, e => by unfold repB at e; cases e
  | .tup _, .bool _, e => by unfold repB at e; cases e
  | .tup _, .int _ _, e => by unfold repB at e; cases e
  | .tup _, .str _ _, e => by unfold repB at e; cases e
  | .tup _, .float _ _, e => by unfold repB at e; cases e
  | .tup _, .bytes _ _, e => by unfold repB at e; cases e
  | .tup _, .type _, e => by unfold repB at e; cases e
  | .tup _, .builtin _, e => by unfold repB at e; cases e
  | .tup _, .notImplemented, e => by unfold repB at e; cases e
  | .tup _, .ellipsis, e => by unfold repB at e; cases e
theorem repsB_ok {K : PySem.W.Frag} {mg : Mg} : ∀ {ds : List D} {us : List Value}, repsB K ds us = true → ∃ vs, Vals vs us ∧ ∀ ρ H, Reps K mg ρ H ds vs
  | [], [], _ => ⟨[], .nil, fun _ _ => rfl⟩
  | d :: ds, u :: us, e => by
    unfold repsB at e
    obtain ⟨e1, e2⟩ := He.ba e
    obtain ⟨v, r, f⟩ := repB_ok (mg := mg) e1
    obtain ⟨vs, rs, g⟩ := repsB_ok (mg := mg) e2
    exact ⟨v :: vs, .cons r rs, fun ρ H => ⟨v, vs, rfl, f ρ H, g ρ H⟩⟩
  | [], _ :: _, e => by unfold repsB at e; cases e
  | _ :: _, [], e => by unfold repsB at e; cases e
end
theorem keys_find {P : Params} {x : Str} : ∀ {l : List DictEntry} {ks : List Str}, l.map He.keyOf = He.keysIn P ks → x ∉ ks → l.find? (·.key.isStr x) = none ∧ l.any (·.refKey) = false
  | [], _, _, _ => ⟨rfl, rfl⟩
  | e :: r, [], h, _ => by cases h
  | e :: r, k :: ks, h, hx => by
    have h1 : He.keyOf e :: r.map He.keyOf = some (k, PyData.keyHash P k) :: He.keysIn P ks := h
    injection h1 with h2 h3
    obtain ⟨i1, i2⟩ := keys_find h3 (fun z => hx (List.mem_cons_of_mem _ z))
    unfold He.keyOf at h2
    split at h2
    · rename_i y t q
      have h4 := Option.some.inj h2
      obtain ⟨h5, h6⟩ := Prod.mk.inj h4
      have ne : (e.key.isStr x) = false := by
        rw [q]
        show (y == x) = false
        rw [h5]
        exact beq_eq_false_iff_ne.mpr fun z => hx (by rw [z]; exact List.mem_cons_self ..)
      refine ⟨?_, ?_⟩
      · rw [List.find?_cons, ne]
        exact i1
      · rw [List.any_cons, i2, Bool.or_false]
        show DictEntry.refKey e = false
        unfold DictEntry.refKey
        rw [q]
    · cases h2
theorem dic_miss {K : PySem.W.Frag} {P : Params} {a : Addr} {ks : List Str} {x : Str} (h : He.dicW K a = some (He.keysIn P ks)) (hx : x ∉ ks) : PySem.W.nsIn K a x = some none := by
  unfold He.dicW at h
  split at h
  · rename_i c es n sl q
    split at h
    · cases h' : (es.toList.map He.keyOf)
      all_goals
        obtain ⟨f1, f2⟩ := keys_find (Option.some.inj h) hx
        unfold PySem.W.nsIn
        rw [q]
        dsimp only
        rw [f1, f2]
        rfl
    · cases h
  · cases h
/-! ### the table -/
structure Tb where
  cs : List (Str × List (Str × Mk) × Option Str)
  fs : List Str
  subs : List (Str × Str)
  gs : List (Str × Gk)
  dcs : List (Str × List (Str × D)) := []
  exns : List (Str × List Str) := []
  exs : List ((Str × Str) × Bool) := []
  ds : List Df
def Tb.gi (t : Tb) : GI where
  own c := (t.cs.lookup c).isSome
  fn x := t.fs.contains x
  at_ c m := (t.cs.lookup c).bind fun p => p.1.lookup m
  init c := (t.cs.lookup c).bind fun p => p.2
  sub d c := t.subs.contains (d, c)
  dic x := t.dcs.lookup x
  exn c := t.exns.lookup c
  exs d c := t.exs.lookup (d, c)
def Tb.glob (t : Tb) (x : Str) : Gk := (t.gs.lookup x).getD .none
def Tb.df (t : Tb) (q : Str) : Option Df := t.ds.find? fun d => decide (d.key = q)
def Tb.prog (t : Tb) : Prog := ⟨t.gi, fun q => (t.df q).map (·.F)⟩
def Tb.ad (t : Tb) (K : PySem.W.Frag) (q : Str) : Addr := match t.df q with
  | some d => d.at_.ad K
  | none => 0
def gloB (K : PySem.W.Frag) (x : Str) : Bool := decide (PySem.W.nsIn K mainGlobals x = some (some (.ref (He.ga K x))))
def freeB (K : PySem.W.Frag) (x : Str) : Bool := decide (PySem.W.nsIn K mainGlobals x = some none)
/-- is q's function at f -/
def Tb.isAd (t : Tb) (K : PySem.W.Frag) (q : Str) (f : Addr) : Bool := (t.df q).isSome && decide (f = t.ad K q)
def conOf (K : PySem.W.Frag) (Cl : Addr) (m : Str) : Option Value := match PySem.W.findIn K (.ref Cl) m with
  | some (some u) => some u
  | _ => none
def Tb.mkB (t : Tb) (K : PySem.W.Frag) (Cl : Addr) (m : Str) : Mk → Bool
  | .fld => decide (PySem.W.findIn K (.ref Cl) m = some none)
  | .fn q => t.isAd K q (He.ma K Cl m) && (decide (PySem.W.findIn K (.ref Cl) m = some (some (.ref (He.ma K Cl m)))) && (PySem.W.isFn K (.ref (He.ma K Cl m)) && (PySem.W.keepIn K (.ref (He.ma K Cl m)) && PySem.W.fnIn K (He.ma K Cl m))))
  | .prop q => t.isAd K q (recAd K "property" (He.ma K Cl m)) && (decide (PySem.W.findIn K (.ref Cl) m = some (some (.ref (He.ma K Cl m)))) && (decide (PySem.W.specialIn K (.ref (He.ma K Cl m)) "__get__" = some (some (.builtin "property.__get__"))) &&
      (decide (PySem.W.takesIn K (.ref (He.ma K Cl m)) = some true) && (match PySem.W.recIn K (He.ma K Cl m) "property" with | some (.ref _ :: _) => true | _ => false))))
  | .cm q => t.isAd K q (recAd K "classmethod" (He.ma K Cl m)) && (PySem.W.readsIn K Cl (.type "type") && (decide (PySem.W.specialIn K (.ref Cl) "__getattribute__" = some (some (.builtin "type.__getattribute__"))) &&
      ((match PySem.W.findCls K (.ref Cl) (.type "type") m with | some (.get (.builtin b) (.ref p) .none (.ref c)) => decide (b = "classmethod.__get__") && (decide (p = He.ma K Cl m) && decide (c = Cl)) | _ => false) &&
      ((match PySem.W.recIn K (He.ma K Cl m) "classmethod" with | some (.ref _ :: _) => true | _ => false) && PySem.W.fnIn K (recAd K "classmethod" (He.ma K Cl m))))))
  | .con d => d.flat && (match conOf K Cl m with | some u => He.relB (dV d) u && (decide (PySem.W.specialIn K u "__get__" = some none) && !PySem.W.copiedNames.contains m) | none => false)
def names6 : List String := ["NoneType", "bool", "int", "str", "tuple", "list"]
def clsB (K : PySem.W.Frag) (Cl : Addr) : Bool :=
  (PySem.W.plainGet K Cl Str.empty && (PySem.W.hasDictIn K Cl && (PySem.W.plainOver K Cl && decide (PySem.W.findIn K (.ref Cl) "__setattr__" = some (some (.builtin "object.__setattr__")))))) &&
  (decide (PySem.W.findIn K (.ref Cl) "__class__" = some (some (.builtin "object.__class__"))) && (decide (PySem.W.specialIn K (.builtin "object.__class__") "__get__" = some (some (.builtin "getset_descriptor.__get__"))) &&
  (decide (PySem.W.takesIn K (.builtin "object.__class__") = some true) && (decide (PySem.W.mroIn K Cl (.type "object") = some true) &&
  names6.all fun n => decide (PySem.W.kitOne K (.ref Cl) (.type n) = some false) && (decide (PySem.W.kitOne K (.type n) (.ref Cl) = some false) && PySem.W.notFirst K Cl (.type n))))))
def Tb.csB (t : Tb) (K : PySem.W.Frag) (p : Str × List (Str × Mk) × Option Str) : Bool :=
  gloB K p.1 && ((clsB K (He.ga K p.1) && PySem.W.selfFirst K (He.ga K p.1)) && ((p.2.1.all fun q => t.mkB K (He.ga K p.1) q.1 q.2) && ((match p.2.2 with
    | none => true
    | some q => t.isAd K q (He.ma K (He.ga K p.1) "__init__") && (PySem.W.makesIn K (He.ga K p.1) && (decide (PySem.W.findIn K (.ref (He.ga K p.1)) "__init__" = some (some (.ref (He.ma K (He.ga K p.1) "__init__")))) &&
        (PySem.W.isFn K (.ref (He.ma K (He.ga K p.1) "__init__")) && PySem.W.keepIn K (.ref (He.ga K p.1)))))) &&
    t.cs.all fun r => decide (PySem.W.kitOne K (.ref (He.ga K r.1)) (.ref (He.ga K p.1)) = some (t.gi.sub r.1 p.1)) && ((!decide (r.1 = p.1) && t.gi.sub r.1 p.1) || PySem.W.notFirst K (He.ga K p.1) (.ref (He.ga K r.1))))))
def Tb.fsB (t : Tb) (K : PySem.W.Frag) (x : Str) : Bool := gloB K x && (PySem.W.keepIn K (.ref (He.ga K x)) && t.isAd K x (He.ga K x))
def Tb.gsB (t : Tb) (K : PySem.W.Frag) (p : Str × Gk) : Bool := match p.2 with
  | .fn => t.gi.fn p.1
  | .cls => t.gi.own p.1
  | .dct => (t.gi.dic p.1).isSome
  | .exc => gloB K p.1
  | .exb n => freeB K p.1 && (decide (bootBuiltins p.1 = some (.type n)) && !decide (p.1 = ("__name__" : Str)))
  | .cst d => (match PySem.W.nsIn K mainGlobals p.1 with | some (some u) => repB K d u | _ => false)
  | .bty n _ => freeB K p.1 && (!decide (p.1 = (n : Str)) || (decide (bootBuiltins p.1 = some (.type n)) && !decide (p.1 = ("__name__" : Str))))
  | .bfn _ => freeB K p.1
  | .rng => freeB K p.1
  | .none => true
def dcB (K : PySem.W.Frag) (p : Str × List (Str × D)) : Bool := gloB K p.1 && p.2.all fun q => match PySem.W.nsIn K (He.ga K p.1) q.1 with
  | some (some u) => repB K q.2 u
  | _ => false
def exnB (K : PySem.W.Frag) (p : Str × List Str) : Bool := !p.2.isEmpty || (gloB K p.1 && (PySem.W.excIn K (He.ga K p.1) PySem.HandSPX.veTail "ValueError.__new__" && (PySem.W.keepIn K (.ref (He.ga K p.1)) &&
  (decide (PySem.W.subIn K (.ref (He.ga K p.1)) (.type "BaseException") = some true) && decide (PySem.W.typeIn K (.ref (He.ga K p.1)) = some (.type "type"))))))
def valN (K : PySem.W.Frag) (c : Str) : Option Value := match PySem.W.nsIn K mainGlobals c with
  | some (some u) => some u
  | some none => if c = ("__name__" : Str) then none else bootBuiltins c
  | none => none
def excCB (K : PySem.W.Frag) (D : Addr) : Bool := decide (PySem.W.findIn K (.ref D) "__getattribute__" = some (some (.builtin "BaseException.__getattribute__"))) && (decide (PySem.W.findIn K (.ref D) "__getattr__" = some none) &&
  (decide (PySem.W.subIn K (.ref D) (.type "BaseException") = some true) && (PySem.W.hasDictIn K D && (decide (PySem.W.findIn K (.ref D) "__class__" = some (some (.builtin "object.__class__"))) &&
  (decide (PySem.W.specialIn K (.builtin "object.__class__") "__get__" = some (some (.builtin "getset_descriptor.__get__"))) && (decide (PySem.W.takesIn K (.builtin "object.__class__") = some true) && decide (PySem.W.mroIn K D (.type "object") = some true)))))))
theorem excCB_ok {K : PySem.W.Frag} {D : Addr} (h : excCB K D = true) : ExcC K D := by
  obtain ⟨h1, h⟩ := He.ba h
  obtain ⟨h2, h⟩ := He.ba h
  obtain ⟨h3, h⟩ := He.ba h
  obtain ⟨h4, h⟩ := He.ba h
  obtain ⟨h5, h⟩ := He.ba h
  obtain ⟨h6, h⟩ := He.ba h
  obtain ⟨h7, h8⟩ := He.ba h
  exact ⟨of_decide_eq_true h1, of_decide_eq_true h2, of_decide_eq_true h3, h4, of_decide_eq_true h5, of_decide_eq_true h6, of_decide_eq_true h7, of_decide_eq_true h8⟩
def exsB (K : PySem.W.Frag) (p : (Str × Str) × Bool) : Bool := gloB K p.1.1 && (excCB K (He.ga K p.1.1) && (match valN K p.1.2 with
  | some u => decide (PySem.W.kitOne K (.ref (He.ga K p.1.1)) u = some p.2) && decide (PySem.W.exmOne K (.ref (He.ga K p.1.1)) u = some p.2)
  | none => false))
def Tb.ok (t : Tb) (K : PySem.W.Frag) : Bool := (t.cs.all (t.csB K) && (t.fs.all (t.fsB K) && (t.dcs.all (dcB K) && (t.exns.all (exnB K) && t.exs.all (exsB K))))) && (t.gs.all (t.gsB K) && t.ds.all (Df.ok K))

theorem lookup_mem {β : Type} {x : Str} {b : β} : ∀ {l : List (Str × β)}, l.lookup x = some b → (x, b) ∈ l
  | [], h => by cases h
  | (y, c) :: r, h => by
    rw [List.lookup_cons] at h
    cases e : x == y with
    | true =>
      rw [e] at h
      cases h
      rw [eq_of_beq e]
      exact List.mem_cons_self ..
    | false =>
      rw [e] at h
      exact List.mem_cons_of_mem _ (lookup_mem h)
theorem lookup_mem' {β : Type} {x : Str × Str} {b : β} : ∀ {l : List ((Str × Str) × β)}, l.lookup x = some b → (x, b) ∈ l
  | [], h => by cases h
  | (y, c) :: r, h => by
    rw [List.lookup_cons] at h
    cases e : x == y with
    | true =>
      rw [e] at h
      cases h
      rw [eq_of_beq e]
      exact List.mem_cons_self ..
    | false =>
      rw [e] at h
      exact List.mem_cons_of_mem _ (lookup_mem' h)
section
variable {t : Tb} {K : PySem.W.Frag} {h : Heap} {mg : Mg}
def Tb.Ad (t : Tb) (K : PySem.W.Frag) (q : Str) (f : Addr) : Prop := (t.df q).isSome = true ∧ f = t.ad K q
theorem Tb.isAd_ok {q : Str} {f : Addr} (e : t.isAd K q f = true) : t.Ad K q f := by
  obtain ⟨a, b⟩ := He.ba e
  exact ⟨a, of_decide_eq_true b⟩
theorem recAd_ok {T : String} {p : Addr} (e : (match PySem.W.recIn K p T with | some (.ref _ :: _) => true | _ => false) = true) : ∃ rest, PySem.W.recIn K p T = some (.ref (recAd K T p) :: rest) := by
  unfold recAd
  split at e
  · rename_i g rest q
    rw [q]
    exact ⟨rest, rfl⟩
  · cases e
theorem Tb.mk_ok {Cl : Addr} {m : Str} {k : Mk} (e : t.mkB K Cl m k = true) : MkF K (t.Ad K) Cl m k := by
  cases k with
  | fld => exact (of_decide_eq_true e : PySem.W.findIn K (.ref Cl) m = some none)
  | fn q =>
    obtain ⟨a, e⟩ := He.ba e
    obtain ⟨b, e⟩ := He.ba e
    obtain ⟨c, e⟩ := He.ba e
    obtain ⟨d, d2⟩ := He.ba e
    exact ⟨_, ⟨of_decide_eq_true b, c, d⟩, c, d2, isAd_ok a⟩
  | prop q =>
    obtain ⟨a, e⟩ := He.ba e
    obtain ⟨b, e⟩ := He.ba e
    obtain ⟨c, e⟩ := He.ba e
    obtain ⟨d, e⟩ := He.ba e
    exact ⟨_, _, ⟨of_decide_eq_true b, of_decide_eq_true c, of_decide_eq_true d, recAd_ok e⟩, isAd_ok a⟩
  | cm q =>
    obtain ⟨a, e⟩ := He.ba e
    obtain ⟨b, e⟩ := He.ba e
    obtain ⟨c, e⟩ := He.ba e
    obtain ⟨d, e⟩ := He.ba e
    obtain ⟨f, g⟩ := He.ba e
    refine ⟨He.ma K Cl m, _, ⟨b, of_decide_eq_true c⟩, ⟨?_, recAd_ok f, g⟩, isAd_ok a⟩
    split at d
    · rename_i b' p' c' q'
      obtain ⟨d1, d⟩ := He.ba d
      obtain ⟨d2, d3⟩ := He.ba d
      have d1 := of_decide_eq_true d1
      have d2 := of_decide_eq_true d2
      have d3 := of_decide_eq_true d3
      subst d1 d3
      rw [← d2]
      exact q'
    · cases d
  | con d =>
    obtain ⟨a, e⟩ := He.ba e
    split at e
    · rename_i u q
      obtain ⟨b, e⟩ := He.ba e
      obtain ⟨c, e⟩ := He.ba e
      unfold conOf at q
      split at q
      · rename_i u' q'
        cases q
        exact ⟨dV d, u, ⟨q', He.relB_ok b, of_decide_eq_true c, by simpa using e⟩, fun ρ H => dV_rep a⟩
      · cases q
    · cases e
theorem cls_at {p : Str × List (Str × Mk) × Option Str} (X : K.In h) (G : h.Ns mainGlobals mg) (c : gloB K p.1 = true) : mg p.1 = some (.ref (He.ga K p.1)) := PySem.W.mg_of X G (of_decide_eq_true c)
theorem clsB_ok {gi : GI} {c : Str} {Cl : Addr} (e : clsB K Cl = true) : ClsF K gi c Cl ∧ ∀ n ∈ names6, PySem.W.notFirst K Cl (.type n) = true := by
  obtain ⟨a, e⟩ := He.ba e
  obtain ⟨a1, a⟩ := He.ba a
  obtain ⟨a2, a⟩ := He.ba a
  obtain ⟨a3, a4⟩ := He.ba a
  obtain ⟨b1, e⟩ := He.ba e
  obtain ⟨b2, e⟩ := He.ba e
  obtain ⟨b3, e⟩ := He.ba e
  obtain ⟨b4, e⟩ := He.ba e
  have key : ∀ n ∈ names6, PySem.W.kitOne K (.ref Cl) (.type n) = some false ∧ PySem.W.kitOne K (.type n) (.ref Cl) = some false ∧ PySem.W.notFirst K Cl (.type n) = true := fun n hn => by
    obtain ⟨c1, c⟩ := He.ba (List.all_eq_true.mp e n hn)
    obtain ⟨c2, c3⟩ := He.ba c
    exact ⟨of_decide_eq_true c1, of_decide_eq_true c2, c3⟩
  refine ⟨⟨⟨a1, a2, a3, of_decide_eq_true a4⟩, of_decide_eq_true b1, of_decide_eq_true b2, of_decide_eq_true b3, of_decide_eq_true b4, fun n hn => ?_⟩, fun n hn => (key n hn).2.2⟩
  have := key n (by simpa [names6] using hn)
  exact ⟨this.1, this.2.1⟩
theorem Tb.own_some {c : Str} (e : t.gi.own c = true) : ∃ p, t.cs.lookup c = some p := Option.isSome_iff_exists.mp e
theorem lookup_none {β : Type} {x : Str} : ∀ {l : List (Str × β)}, l.lookup x = none → ∀ {p : Str × β}, p ∈ l → p.1 = x → False
  | [], _, _, hp, _ => by cases hp
  | (y, c) :: r, h, p, hp, e => by
    rw [List.lookup_cons] at h
    cases q : x == y with
    | true => rw [q] at h; cases h
    | false =>
      rw [q] at h
      rcases List.mem_cons.mp hp with z | z
      · subst z
        subst e
        simp at q
      · exact lookup_none h z e
theorem Tb.txF {w : World} (X : K.In h) (G : h.Ns mainGlobals mg) (e : t.ok K = true) (ed : (t.dcs.map fun p => He.dicW K (He.ga K p.1)) = t.dcs.map fun p => some (He.keysIn w.params (p.2.map (·.1)))) : TxF K w mg t.gi (t.Ad K) t.glob := by
  obtain ⟨e1, e2⟩ := He.ba e
  obtain ⟨hc, e1⟩ := He.ba e1
  obtain ⟨hf, e1⟩ := He.ba e1
  obtain ⟨hdc, e1⟩ := He.ba e1
  obtain ⟨hxn, hxs⟩ := He.ba e1
  obtain ⟨hg, _⟩ := He.ba e2
  have C : ∀ {c p}, t.cs.lookup c = some p → t.csB K (c, p) = true := fun q => List.all_eq_true.mp hc _ (lookup_mem q)
  have CM : ∀ {c p Cl}, t.cs.lookup c = some p → mg c = some (.ref Cl) → Cl = He.ga K c := fun q m => by
    have z := cls_at X G (He.ba (C q)).1
    rw [m] at z
    cases z
    rfl
  refine ⟨?_, ?_, ?_, ?_, ?_, ?_, ?_, ?_, ?_, ?_, ?_, ?_, ?_, ?_, ?_, ?_, ?_, ?_, ?_, ?_⟩
  · intro c ho
    obtain ⟨p, q⟩ := own_some ho
    exact ⟨_, cls_at X G (He.ba (C q)).1, (clsB_ok (He.ba (He.ba (He.ba (C q)).2).1).1).1⟩
  · intro d c D' C' hod hoc md mc
    obtain ⟨p, q⟩ := own_some hoc
    obtain ⟨p', q'⟩ := own_some hod
    have e3 := CM q mc
    have e4 := CM q' md
    subst e3 e4
    have z := List.all_eq_true.mp (He.ba (He.ba (He.ba (He.ba (C q)).2).2).2).2 _ (lookup_mem q')
    exact of_decide_eq_true (He.ba z).1
  · intro c hfn
    have z := List.all_eq_true.mp hf c (by simpa [Tb.gi] using hfn)
    obtain ⟨z1, z⟩ := He.ba z
    obtain ⟨z2, z3⟩ := He.ba z
    exact ⟨_, PySem.W.mg_of X G (of_decide_eq_true z1), z2, isAd_ok z3⟩
  · intro c q Cl ho hi m
    obtain ⟨p, ec⟩ := own_some ho
    have e3 := CM ec m
    subst e3
    have hi : (t.cs.lookup c).bind (fun p => p.2) = some q := hi
    rw [ec] at hi
    have hi : p.2 = some q := hi
    have z := (He.ba (He.ba (He.ba (He.ba (C ec)).2).2).2).1
    dsimp only at z
    rw [hi] at z
    obtain ⟨z1, z⟩ := He.ba z
    obtain ⟨z2, z⟩ := He.ba z
    obtain ⟨z3, z⟩ := He.ba z
    obtain ⟨z4, z5⟩ := He.ba z
    exact ⟨_, ⟨z2, of_decide_eq_true z3, z4, z5⟩, isAd_ok z1⟩
  · intro c m k Cl ho hk mc
    obtain ⟨p, ec⟩ := own_some ho
    have e3 := CM ec mc
    subst e3
    have hk : (t.cs.lookup c).bind (fun p => p.1.lookup m) = some k := hk
    rw [ec] at hk
    have hk : p.1.lookup m = some k := hk
    exact mk_ok (List.all_eq_true.mp (He.ba (He.ba (He.ba (C ec)).2).2).1 _ (lookup_mem hk))
  · intro c d C' D' hoc hod mc md hs
    obtain ⟨p, q⟩ := own_some hoc
    obtain ⟨p', q'⟩ := own_some hod
    have e3 := CM q mc
    have e4 := CM q' md
    subst e3 e4
    have z := (He.ba (List.all_eq_true.mp (He.ba (He.ba (He.ba (He.ba (C q)).2).2).2).2 _ (lookup_mem q'))).2
    rw [Bool.or_eq_true] at z
    rcases z with z | z
    · obtain ⟨z1, z2⟩ := He.ba z
      rcases hs with hs | hs
      · subst hs
        simp at z1
      · rw [hs] at z2
        cases z2
    · exact z
  · intro c C' hoc mc n hn
    obtain ⟨p, q⟩ := own_some hoc
    have e3 := CM q mc
    subst e3
    exact (clsB_ok (gi := t.gi) (c := c) (He.ba (He.ba (He.ba (C q)).2).1).1).2 n hn
  · intro c C' hoc mc
    obtain ⟨p, q⟩ := own_some hoc
    have e3 := CM q mc
    subst e3
    exact (He.ba (He.ba (He.ba (C q)).2).1).2
  · intro x kvs hx
    have hx : t.dcs.lookup x = some kvs := hx
    have hm := lookup_mem hx
    obtain ⟨z1, z2⟩ := He.ba (List.all_eq_true.mp hdc _ hm)
    have ek : He.dicW K (He.ga K x) = some (He.keysIn w.params (kvs.map (·.1))) := by
      obtain ⟨i, hi, ei⟩ := List.mem_iff_getElem.mp hm
      have e3 : (t.dcs.map fun p => He.dicW K (He.ga K p.1))[i]? = (t.dcs.map fun p => some (He.keysIn w.params (p.2.map (·.1))))[i]? := by rw [ed]
      rw [List.getElem?_map, List.getElem?_map, List.getElem?_eq_getElem hi, ei] at e3
      exact Option.some.inj e3
    obtain ⟨es, n, D⟩ := He.dicW_ok ek
    refine ⟨_, es, n, PySem.W.mg_of X G (of_decide_eq_true z1), D, fun k hk => dic_miss ek fun hz => ?_, fun k d hk => ?_⟩
    · obtain ⟨q, hq, rfl⟩ := List.mem_map.mp hz
      exact lookup_none hk hq rfl
    · have z3 := List.all_eq_true.mp z2 _ (lookup_mem hk)
      dsimp only at z3
      split at z3
      · rename_i u q
        obtain ⟨v, rv, rr⟩ := repB_ok (mg := mg) z3
        exact ⟨u, v, q, rv, rr⟩
      · cases z3
  · intro c hc
    have hc : t.exns.lookup c = some [] := hc
    have z := List.all_eq_true.mp hxn _ (lookup_mem hc)
    have z : (!([] : List Str).isEmpty || (gloB K c && _)) = true := z
    rw [Bool.or_eq_true] at z
    rcases z with z | z
    · cases z
    · obtain ⟨z1, z⟩ := He.ba z
      obtain ⟨z2, z⟩ := He.ba z
      obtain ⟨z3, z⟩ := He.ba z
      obtain ⟨z4, z5⟩ := He.ba z
      exact ⟨_, PySem.W.mg_of X G (of_decide_eq_true z1), z2, z3, of_decide_eq_true z4, of_decide_eq_true z5⟩
  · intro d c b hx
    have hx : t.exs.lookup (d, c) = some b := hx
    have z := List.all_eq_true.mp hxs _ (lookup_mem' hx)
    obtain ⟨z1, z⟩ := He.ba z
    obtain ⟨z2, z⟩ := He.ba z
    split at z
    · rename_i u eu
      obtain ⟨z3, z4⟩ := He.ba z
      refine ⟨_, u, PySem.W.mg_of X G (of_decide_eq_true z1), ?_, of_decide_eq_true z3, of_decide_eq_true z4, excCB_ok z2⟩
      have eu : valN K c = some u := eu
      unfold valN at eu
      split at eu
      · rename_i u' q
        cases eu
        exact .inl (PySem.W.mg_of X G q)
      · rename_i q
        split at eu
        · cases eu
        · rename_i nn
          exact .inr ⟨PySem.W.mg_none_of X G q, eu, nn⟩
      · cases eu
    · cases z
  all_goals
    intro x
    have GG : ∀ {k}, t.glob x = k → (∀ z : k ≠ .none, t.gsB K (x, k) = true) := fun {k} e z => by
      unfold Tb.glob at e
      cases q : t.gs.lookup x with
      | none =>
        rw [q] at e
        exact absurd e.symm z
      | some k' =>
        rw [q] at e
        have e : k' = k := e
        subst e
        exact List.all_eq_true.mp hg _ (lookup_mem q)
  · intro e
    exact GG e (by simp)
  · intro e
    exact GG e (by simp)
  · intro e
    exact GG e (by simp)
  · intro e
    exact ⟨_, PySem.W.mg_of X G (of_decide_eq_true (GG e (by simp)))⟩
  · intro n e
    obtain ⟨z1, z⟩ := He.ba (GG e (by simp))
    obtain ⟨z2, z3⟩ := He.ba z
    exact ⟨PySem.W.mg_none_of X G (of_decide_eq_true z1), of_decide_eq_true z2, by simpa using z3⟩
  · intro d e
    have z := GG e (by simp)
    unfold Tb.gsB at z
    dsimp only at z
    split at z
    · rename_i u q
      obtain ⟨v, rv, rr⟩ := repB_ok (mg := fun _ => none) z
      exact ⟨u, v, PySem.W.mg_of X G q, rv, rr⟩
    · cases z
  · intro n b e
    obtain ⟨z1, z⟩ := He.ba (GG e (by simp))
    refine ⟨PySem.W.mg_none_of X G (of_decide_eq_true z1), fun ex => ?_⟩
    rw [Bool.or_eq_true] at z
    rcases z with z | z
    · have ex' : (x, Gk.bty n b).1 = (n : Str) := ex
      rw [ex'] at z
      simp at z
    · obtain ⟨z2, z3⟩ := He.ba z
      exact ⟨of_decide_eq_true z2, by simpa using z3⟩
  · intro b e
    exact PySem.W.mg_none_of X G (of_decide_eq_true (GG e (by simp)))
  · intro e
    exact PySem.W.mg_none_of X G (of_decide_eq_true (GG e (by simp)))
end
/-! ### the Hook -/
abbrev AlM : Type := Bool × List He.FnW × List (Option (List (Option (Str × Int))))
def obsM (t : Tb) (K : PySem.W.Frag) : AlM := (t.ok K, t.ds.map fun d => d.obs K, t.dcs.map fun p => He.dicW K (He.ga K p.1))
def valM (t : Tb) (w : World) : AlM := (true, t.ds.map Df.val, t.dcs.map fun p => some (He.keysIn w.params (p.2.map (·.1))))
def asM (g : Addr → Option Obj) (n : Nat) : List Addr := cStatics :: He.asD g n
def obsMG (n : Nat) (t : Tb) (g : Addr → Option Obj) : AlM := obsM t (He.frG g (asM g n))
def hookM (n : Nat) (t : Tb) : PySem.W.Hook where
  α := AlM
  obs := fun s => obsMG n t s.heap.get?
  val := fun w => valM t w
  says := fun w h => ∃ K : PySem.W.Frag, K.In h ∧ obsM t K = valM t w
  of := fun _ _ e => ⟨_, He.frG_in, e⟩
  keeps := fun _ _ _ ⟨K, hK, c⟩ k => ⟨K, PySem.W.Frag.In.keeps hK k, c⟩
theorem obsMG_eq {n : Nat} {t : Tb} {g : Addr → Option Obj} {s : Shared} (h : ∀ a, g a = s.heap.get? a) : obsMG n t g = (hookM n t).obs s := by
  have e : g = s.heap.get? := funext h
  rw [e] <;> rfl
theorem progOk {t : Tb} {K : PySem.W.Frag} {w : World} {h : Heap} {mg : Mg} (X : K.In h) (G : h.Ns mainGlobals mg) (c : obsM t K = valM t w) (S : ∀ d ∈ t.ds, DfS t.glob d) : ProgOk t.prog K w mg (t.Ad K) t.glob := by
  have e1 : t.ok K = true := congrArg (fun z : AlM => z.1) c
  have e2 : (t.ds.map fun d => d.obs K) = t.ds.map Df.val := congrArg (fun z : AlM => z.2.1) c
  have e3 := congrArg (fun z : AlM => z.2.2) c
  refine ⟨Tb.txF X G e1 e3, fun q F f hq ha => ?_⟩
  have hq : (t.df q).map (·.F) = some F := hq
  cases ed : t.df q with
  | none => rw [ed] at hq; cases hq
  | some d =>
    rw [ed] at hq
    cases hq
    obtain ⟨_, rfl⟩ := ha
    have hm : d ∈ t.ds := List.mem_of_find?_eq_some ed
    have ea : t.ad K q = d.at_.ad K := by unfold Tb.ad; rw [ed]
    rw [ea]
    refine Df.defOk (S d hm) ?_ (List.all_eq_true.mp (He.ba (He.ba e1).2).2 d hm)
    obtain ⟨i, hi, e⟩ := List.mem_iff_getElem.mp hm
    have e3 : (t.ds.map fun d => d.obs K)[i]? = (t.ds.map Df.val)[i]? := by rw [e2]
    rw [List.getElem?_map, List.getElem?_map, List.getElem?_eq_getElem hi, e] at e3
    exact Option.some.inj e3
/-- the law's def: what the head asks for -/
theorem law_fn {t : Tb} {prog : Program} {w : World} {K : PySem.W.Frag} {mg : Mg} {d : Df} {x : Str} (T : ProgOk t.prog K w mg (t.Ad K) t.glob) (S : DfS t.glob d) (e : d.obs K = d.val) (c : d.ok K = true) (hd : d.F.dfl = []) (hp : d.ps = [x]) (k : Nat) :
    ∃ fd : FuncData, (∀ (s : Shared) (u : Value), BindsTo s fd ⟨[u], []⟩ [(x, u)]) ∧ ∀ base : Heap, FnOk prog w K mg base CX0 (2 * k + 2) (d.at_.ad K) fd [x] (fun vs H Q _ => vs.length = 1 ∧ ∃ ρ ds h, RSh K mg ρ H h ∧ Reps K mg ρ H ds vs ∧ PostE K mg W0 ρ H [] Q (exF t.gi (run t.prog k) d.F ds h)) := by
  obtain ⟨oc, od, osl, n8, n9, n10, n11, n12, n13, n14, q, k1, k2⟩ := Df.look e c
  have bi := S.bi
  unfold BindS at bi
  rw [hd] at bi k2
  have e8 : n8 = .none := by
    cases n8 with
    | none => rfl
    | _ => cases k2
  subst e8
  refine ⟨PySem.W.fnOf (defName d.st) d.qual (defArgs d.st) (defBody d.st) (defScope d.st) .none n9 n10 n11 n12 n13 n14, fun s u => ?_, fun base => ?_⟩
  · have z := bi n9 n10 n11 n12 n13 n14 [u] (by rw [hp]; rfl)
    rw [hp] at z
    exact .of_eq z
  · have FK := fnok_def (prog := prog) (w := w) (base := base) (C := run t.prog k) (lv := 2 * k) T.tx (run_ok T k) q k1 S.sc S.comp S.n S.ar
    rw [hp] at FK
    refine ⟨fun vs H Q E h => h.1, fun A outer s H args us vs Q E hr e0 hb r hs => ?_⟩
    obtain ⟨hl, ρ, ds, h, rs, rd, p⟩ := hs
    have p2 : PostE K mg (fun c d _ H' => (fun _ _ _ => False : XK) c d H') ρ H [] Q (exF t.gi (run t.prog k) d.F ds h) := p
    refine codeAny_mono (FK.run A outer s H args us vs Q (fun _ _ _ => False) hr e0 hb r ⟨hl, ρ, ds, h, rs, rd, ?_⟩) fun r s' hq => ?_
    · unfold exF at p2
      split at p2
      · rw [hd] at p2
        have p3 := p2
        simp at p3
        exact p3
      · exact p2.elim
    · cases r with
      | error e => obtain ⟨_, _, _, _, _, _, _, _, _, _, _, _, z⟩ := hq; exact z.elim
      | ok fl => cases fl <;> exact hq
end Mp

set_option Elab.async false
set_option linter.all false
set_option maxRecDepth 100000
set_option maxHeartbeats 2000000
/-! Mp: a law's end. -/
namespace Mp
open PySem PySem.Spec PyProof.Rows L2
open PySem (Expr)

theorem RSh.nil {K : PySem.W.Frag} {mg : Mg} {H : Hp} : RSh K mg [] H [] := ⟨rfl, .nil, fun p hp => (by cases hp), fun i o e => (by simp at e)⟩
theorem sqC_only {K : PySem.W.Frag} {H : Hp} {a : Addr} {xs : List V} (o : Only H) (s : SqL K H a xs) : SqC K H a xs := by
  rcases s with (s | ⟨z, s⟩) | s
  · rcases o a with q | ⟨_, _, q⟩ <;> (rw [q] at s; cases s)
  · exact .inl ⟨z, s⟩
  · exact .inr s
theorem law_end {l : PySem.W.OpenLaw} {n m : Nat} {q : Program} {loose : List Str} {XP : (Str → Option Value) → Heap → Prop} {d : DefRec} {t : Tb} {df : Df} {x nm : Str} (k : Nat)
    (hn : l.most = some n) (hn2 : n ≤ sizeLine) (hdf : d.params.defaults = []) (hr : Room (2 * k + 2) callerA) (hdn : d.name = nm) (hat : df.at_ = .glo nm) (hmem : df ∈ t.ds) (hdfl : df.F.dfl = []) (hps : df.ps = [x]) (hfs : nm ∈ t.fs)
    (S : ∀ d ∈ t.ds, DfS t.glob d) (pure : ∀ ns : List Int, ns.length ≤ n → ∃ h', exF t.gi (run t.prog k) df.F [.kls (ns.map .int)] [] = .ok (.bl true) h') :
    PySem.W.WalkO q loose XP (fun w h => (hookM m t).says w h) l.row.toRowW d [] (fun f vs => PySem.call f vs) := by
  refine L2.walk_ofE (n := n) (k := 2 * k + 2) (x := x) (CX := CX0) hn hn2 hdf hr (fun w mg fa h Y G hmg => ?_) (fun _ _ _ _ z => z)
  obtain ⟨K, KX, c⟩ := Y
  have T := progOk KX G c S
  have e1 : t.ok K = true := congrArg (fun z : AlM => z.1) c
  have e2 : (t.ds.map fun d => d.obs K) = t.ds.map Df.val := congrArg (fun z : AlM => z.2.1) c
  have eo : df.obs K = df.val := by
    obtain ⟨i, hi, e⟩ := List.mem_iff_getElem.mp hmem
    have e3 : (t.ds.map fun d => d.obs K)[i]? = (t.ds.map Df.val)[i]? := by rw [e2]
    rw [List.getElem?_map, List.getElem?_map, List.getElem?_eq_getElem hi, e] at e3
    exact Option.some.inj e3
  obtain ⟨fd, hb, hF⟩ := law_fn (prog := l.prog) (w := w) T (S df hmem) eo (List.all_eq_true.mp (He.ba (He.ba e1).2).2 df hmem) hdfl hps k
  have z1 := List.all_eq_true.mp (He.ba (He.ba (He.ba e1).1).2).1 nm hfs
  have z2 : mg nm = some (.ref (He.ga K nm)) := PySem.W.mg_of KX G (of_decide_eq_true (He.ba z1).1)
  rw [hdn, z2] at hmg
  have ea : df.at_.ad K = fa := by
    rw [hat]
    cases hmg
    rfl
  rw [ea] at hF
  refine ⟨K, fd, _, KX, hb, fun H a ns hl hO hS => ⟨rfl, [], [.kls (ns.map .int)], [], RSh.nil, ⟨_, _, rfl, ⟨a, _, rfl, sqC_only hO hS, Reps.ints.mpr rfl⟩, rfl⟩, ?_⟩, fun base _ _ => hF base⟩
  obtain ⟨h', e⟩ := pure ns hl
  rw [e]
  exact fun ρ' H' v _ _ r => r
end Mp

set_option Elab.async false
set_option linter.all false
set_option maxRecDepth 100000
set_option maxHeartbeats 400000
/-! Mp: rules for the plain proofs. -/
namespace Mp
open PySem (Str Operator CmpOp)

/-- it ends well, and then Q; or an exception leaves, and then X -/
def okx {α : Type} (X : Exn → HD → Prop) (r : R α) (Q : α → HD → Prop) : Prop := match r with
  | .ok a h => Q a h
  | .ex e h => X e h
  | .bad => False
/-- a statement's ends -/
def sox (Y : Exn → Ev → HD → Prop) (r : RS) (N : Ev → HD → Prop) (T : D → HD → Prop) (B C : Ev → HD → Prop) : Prop := match r with
  | .nx v h => N v h
  | .rt d h => T d h
  | .bk v h => B v h
  | .ct v h => C v h
  | .ex e v h => Y e v h
  | .bad => False
def tr (x : D) (h : HD) (K : Bool → Prop) : Prop := match truth x h with
  | some b => K b
  | none => False
section
variable {X : Exn → HD → Prop} {Y : Exn → Ev → HD → Prop} {α β : Type} {gi : GI} {C : Cal} {v : Ev} {h : HD} {Q : D → HD → Prop} {Q2 : α → HD → Prop} {e a b c : E} {es : List E}
theorem ok_ok (x : α) : okx X (.ok x h) Q2 = Q2 x h := rfl
theorem ok_bad : okx X (.bad : R α) Q2 = False := rfl
theorem ok_ex (x : Exn) : okx X (.ex x h : R α) Q2 = X x h := rfl
theorem ok_bind (m : R β) (f : β → HD → R α) : okx X (m.bind f) Q2 = okx X m fun x h => okx X (f x h) Q2 := by cases m <;> rfl
theorem ok_noex (m : R α) : okx X m.noex Q2 = okx (fun _ _ => False) m Q2 := by cases m <;> rfl
theorem ok_ite (p : Prop) [Decidable p] (x y : R α) : okx X (if p then x else y) Q2 = if p then okx X x Q2 else okx X y Q2 := by split <;> rfl
theorem ok_mono {Q3 : α → HD → Prop} {m : R α} (p : okx X m Q2) (q : ∀ x h, Q2 x h → Q3 x h) : okx X m Q3 := by
  cases m with
  | ok a h => exact q _ _ p
  | _ => exact p
theorem ok_eq {m : R α} {x : α} (e : m = .ok x h) : okx X m Q2 = Q2 x h := by rw [e]; rfl
theorem of_ok {m : R α} {x : α} {h' : HD} (p : okx (fun _ _ => False) m fun a b => a = x ∧ b = h') : m = .ok x h' := by
  cases m with
  | ok a b => obtain ⟨rfl, rfl⟩ := p; rfl
  | _ => exact p.elim
theorem ok_var (i : Nat) : okx X (evE gi C (.var i) v h) Q = (match v[i]? with | some (some d) => Q d h | _ => False) := by
  simp only [evE]
  cases v[i]? with
  | none => rfl
  | some o => cases o <;> rfl
theorem ok_lit (d : D) : okx X (evE gi C (.lit d) v h) Q = Q d h := by simp only [evE, ok_ok]
theorem ok_prim (p : P) : okx X (evE gi C (.prim p es) v h) Q = okx X (evEs gi C es v h) fun ds h => okx X (prD gi C p ds h) Q := by simp only [evE, ok_bind]
theorem ok_nil {Q : List D → HD → Prop} : okx X (evEs gi C [] v h) Q = Q [] h := by simp only [evEs, ok_ok]
theorem ok_cons {Q : List D → HD → Prop} : okx X (evEs gi C (e :: es) v h) Q = okx X (evE gi C e v h) fun d h => okx X (evEs gi C es v h) fun ds h => Q (d :: ds) h := by simp only [evEs, ok_bind, ok_ok]
/-- a call of something -/
def cal (X : Exn → HD → Prop) (gi : GI) (C : Cal) (x : D) (f : HD → (List D → HD → Prop) → Prop) (h : HD) (Q : D → HD → Prop) : Prop := canCall gi x = true ∧ f h fun ds h => okx X (callD gi C x ds h) Q
theorem ok_call (f : E) : okx X (evE gi C (.call f es) v h) Q = okx X (evE gi C f v h) fun x h => cal X gi C x (fun h K => okx X (evEs gi C es v h) K) h Q := by
  simp only [evE, ok_bind, ok_ite]
  congr 1
  funext x h
  unfold cal
  by_cases e : canCall gi x = true <;> simp [e, ok_bad, ok_bind]
theorem cal_fn {x : Str} {f : HD → (List D → HD → Prop) → Prop} (e1 : gi.own x = false) (e2 : gi.fn x = true) : cal X gi C (.gl x) f h Q = f h fun ds h => okx X (C x ds h) Q := by
  unfold cal callD canCall
  simp [e1, e2]
theorem cal_cls {x : Str} {f : HD → (List D → HD → Prop) → Prop} (q : Str) (e1 : gi.own x = true) (e2 : gi.init x = some q) : cal X gi C (.gl x) f h Q = f h fun ds h => okx X (mkD gi C x ds h) Q := by
  unfold cal callD canCall
  simp [e1, e2]
theorem ok_mk {x : Str} {ds : List D} (q : Str) (e2 : gi.init x = some q) : okx X (mkD gi C x ds h) Q = okx X (C q (.ref h.length :: ds) (h ++ [.ins x []])) fun r h' => match r with | .non => Q (.ref h.length) h' | _ => False := by
  unfold mkD
  rw [e2]
  simp only [ok_bind]
  congr 1
  funext r h'
  cases r <;> rfl
theorem ok_and : okx X (evE gi C (.and a b) v h) Q = okx X (evE gi C a v h) fun x h => tr x h fun k => if k then okx X (evE gi C b v h) Q else Q x h := by
  simp only [evE, ok_bind]
  congr 1
  funext x h
  unfold tr
  cases truth x h with
  | none => rfl
  | some k => cases k <;> rfl
theorem ok_or : okx X (evE gi C (.or a b) v h) Q = okx X (evE gi C a v h) fun x h => tr x h fun k => if k then Q x h else okx X (evE gi C b v h) Q := by
  simp only [evE, ok_bind]
  congr 1
  funext x h
  unfold tr
  cases truth x h with
  | none => rfl
  | some k => cases k <;> rfl
theorem ok_iteE : okx X (evE gi C (.ite c a b) v h) Q = okx X (evE gi C c v h) fun x h => tr x h fun k => if k then okx X (evE gi C a v h) Q else okx X (evE gi C b v h) Q := by
  simp only [evE, ok_bind]
  congr 1
  funext x h
  unfold tr
  cases truth x h with
  | none => rfl
  | some k => cases k <;> rfl
theorem ok_chain (o1 o2 : CmpOp) : okx X (evE gi C (.chain o1 o2 a b c) v h) Q = okx X (evE gi C a v h) fun x h => okx X (evE gi C b v h) fun y h => okx X (prD gi C (.cmp o1) [x, y] h) fun r h => match r with
    | .bl k => if k then okx X (evE gi C c v h) fun z h => okx X (prD gi C (.cmp o2) [y, z] h) Q else Q (.bl false) h
    | _ => False := by
  simp only [evE, ok_bind]
  congr 1
  funext x h
  congr 1
  funext y h
  congr 1
  funext r h
  cases r with
  | bl k => cases k <;> simp [ok_bind, ok_ok]
  | _ => rfl
/-- a method's call -/
def mth (X : Exn → HD → Prop) (gi : GI) (C : Cal) (x : D) (m : Str) (k : Option BM) (f : HD → (List D → HD → Prop) → Prop) (h : HD) (Q : D → HD → Prop) : Prop := match x with
  | .gl c => match (if gi.own c then gi.at_ c m else none) with
    | some (.cm q) => f h fun ds h => okx X (C q (x :: ds) h) Q
    | _ => False
  | _ => match clsOf x h with
    | some (c, fs) => if gi.own c then match fs.lookup m, gi.at_ c m with
      | none, some (.fn q) => f h fun ds h => okx X (C q (x :: ds) h) Q
      | _, _ => False
      else False
    | none => match k with
      | some b => if bmTy b x h then f h fun ds h => okx X (bmD b x ds h) Q else False
      | none => False
theorem ok_meth (m : Str) (k : Option BM) : okx X (evE gi C (.meth a m k es) v h) Q = okx X (evE gi C a v h) fun x h => mth X gi C x m k (fun h K => okx X (evEs gi C es v h) K) h Q := by
  simp only [evE, ok_bind]
  congr 1
  funext x h
  unfold mth
  cases x with
  | gl c =>
    dsimp only
    cases (if gi.own c = true then gi.at_ c m else none) with
    | none => rfl
    | some z => cases z <;> first | rfl | exact ok_bind _ _
  | ref i =>
    dsimp only
    cases clsOf (.ref i) h with
    | none =>
      cases k with
      | none => rfl
      | some b =>
        by_cases hb : bmTy b (.ref i) h = true
        · simp [hb, ok_bind]
        · simp [hb, ok_bad]
    | some p =>
      obtain ⟨c, fs⟩ := p
      dsimp only
      by_cases ho : gi.own c = true
      · rw [if_pos ho, if_pos ho]
        cases fs.lookup m with
        | some _ => rfl
        | none =>
          cases gi.at_ c m with
          | none => rfl
          | some z => cases z <;> first | rfl | exact ok_bind _ _
      · rw [if_neg ho, if_neg ho]
        rfl
  | _ =>
    dsimp only [clsOf]
    cases k with
    | none => rfl
    | some b =>
      dsimp only
      split
      · exact ok_bind _ _
      · rfl
theorem mth_str {x : Str} {m : Str} {b : BM} {f : HD → (List D → HD → Prop) → Prop} (e : bmTy b (.str x) h = true) : mth X gi C (.str x) m (some b) f h Q = f h fun ds h => okx X (bmD b (.str x) ds h) Q := by
  unfold mth
  simp [clsOf, e]
theorem mth_lst {i : Nat} {xs : List D} {m : Str} {b : BM} {f : HD → (List D → HD → Prop) → Prop} (ei : h[i]? = some (.lst xs)) (e : bmTy b (.ref i) h = true) : mth X gi C (.ref i) m (some b) f h Q = f h fun ds h => okx X (bmD b (.ref i) ds h) Q := by
  unfold mth
  simp [clsOf, ei, e]
theorem mth_ins {i : Nat} {c : Str} {fs : List (Str × D)} {m : Str} {k : Option BM} {f : HD → (List D → HD → Prop) → Prop} (q : Str) (ei : h[i]? = some (.ins c fs)) (eo : gi.own c = true) (el : fs.lookup m = none) (ea : gi.at_ c m = some (.fn q)) : mth X gi C (.ref i) m k f h Q = f h fun ds h => okx X (C q (.ref i :: ds) h) Q := by
  unfold mth
  simp [clsOf, ei, eo, el, ea]
theorem mth_cls {c : Str} {m : Str} {k : Option BM} {f : HD → (List D → HD → Prop) → Prop} (q : Str) (eo : gi.own c = true) (ea : gi.at_ c m = some (.cm q)) : mth X gi C (.gl c) m k f h Q = f h fun ds h => okx X (C q (.gl c :: ds) h) Q := by
  unfold mth
  simp [eo, ea]
/-- an attribute -/
def atr (gi : GI) (C : Cal) (x : D) (f : Str) (h : HD) (Q : D → HD → Prop) : Prop := okx (fun _ _ => False) (match clsOf x h with
    | some (c, fs) => if gi.own c then match gi.at_ c f with
      | some (.prop q) => (C q [x] h).noex
      | some (.con d) => match fs.lookup f with
        | none => .ok d h
        | some _ => .bad
      | some .fld => match fs.lookup f with
        | some d => .ok d h
        | none => .bad
      | _ => .bad
      else .bad
    | none => .bad) Q
theorem okx_okn {m : R α} (h : ∀ e h', m ≠ .ex e h') : okx X m Q2 = okx (fun _ _ => False) m Q2 := by
  cases m with
  | ok a h => rfl
  | ex e h' => exact absurd rfl (h e h')
  | bad => rfl
theorem ok_attr (f : Str) : okx X (evE gi C (.attr a f) v h) Q = okx X (evE gi C a v h) fun x h => atr gi C x f h Q := by
  simp only [evE, ok_bind]
  congr 1
  funext x h
  unfold atr
  refine okx_okn fun e h' => ?_
  split
  · split
    · split
      · rename_i q _
        cases C q [x] h <;> simp [R.noex]
      · split <;> simp
      · split <;> simp
      · simp
    · simp
  · simp
theorem atr_fld {i : Nat} {c : Str} {fs : List (Str × D)} {f : Str} {d : D} (ei : h[i]? = some (.ins c fs)) (eo : gi.own c = true) (ea : gi.at_ c f = some .fld) (el : fs.lookup f = some d) : atr gi C (.ref i) f h Q = Q d h := by
  unfold atr
  simp [clsOf, ei, eo, ea, el, ok_ok]
theorem atr_prop {i : Nat} {c : Str} {fs : List (Str × D)} {f : Str} (q : Str) (ei : h[i]? = some (.ins c fs)) (eo : gi.own c = true) (ea : gi.at_ c f = some (.prop q)) : atr gi C (.ref i) f h Q = okx (fun _ _ => False) (C q [.ref i] h) Q := by
  unfold atr
  simp [clsOf, ei, eo, ea, ok_noex]
theorem atr_con {i : Nat} {c : Str} {fs : List (Str × D)} {f : Str} (d : D) (ei : h[i]? = some (.ins c fs)) (eo : gi.own c = true) (ea : gi.at_ c f = some (.con d)) (el : fs.lookup f = none) : atr gi C (.ref i) f h Q = Q d h := by
  unfold atr
  simp [clsOf, ei, eo, ea, el, ok_ok]
/-- f-strings -/
theorem ok_join : okx X (evE gi C (.join es) v h) Q = okx X (evJ gi C es ⟨#[]⟩ v h) Q := by simp only [evE]
theorem ok_jnil {acc : Str} : okx X (evJ gi C [] acc v h) Q = Q (.str acc) h := by simp only [evJ, ok_ok]
theorem ok_jcons {acc : Str} : okx X (evJ gi C (e :: es) acc v h) Q = okx X (evE gi C e v h) fun x h => match x with
    | .str y => (acc ++ y).length ≤ cap ∧ okx X (evJ gi C es (acc ++ y) v h) Q
    | _ => False := by
  simp only [evJ, ok_bind]
  congr 1
  funext x h
  cases x with
  | str y =>
    dsimp only
    by_cases e : (acc ++ y).length ≤ cap <;> simp [e, ok_bad]
  | _ => rfl

/-! ### statements -/
variable {Nn Bb Kk : Ev → HD → Prop} {Tt : D → HD → Prop} {r : List S}
theorem so_nil : sox Y (exB gi C [] v h) Nn Tt Bb Kk = Nn v h := by simp only [exB]; rfl
theorem so_seq (s : S) : sox Y (exB gi C (s :: r) v h) Nn Tt Bb Kk = sox Y (exS gi C s v h) (fun v h => sox Y (exB gi C r v h) Nn Tt Bb Kk) Tt Bb Kk := by
  simp only [exB]
  cases exS gi C s v h <;> rfl
theorem so_st (m : R α) (f : α → HD → RS) : sox Y (m.st v f) Nn Tt Bb Kk = okx (fun x h => Y x v h) m fun x h => sox Y (f x h) Nn Tt Bb Kk := by cases m <;> rfl
theorem so_set (i : Nat) : sox Y (exS gi C (.set i e) v h) Nn Tt Bb Kk = okx (fun x h => Y x v h) (evE gi C e v h) fun d h => Nn (v.set i (some d)) h := by
  simp only [exS, so_st]; rfl
theorem so_expr : sox Y (exS gi C (.expr e) v h) Nn Tt Bb Kk = okx (fun x h => Y x v h) (evE gi C e v h) fun d h => Nn v h := by
  simp only [exS, so_st]; rfl
theorem so_ret : sox Y (exS gi C (.ret e) v h) Nn Tt Bb Kk = okx (fun x h => Y x v h) (evE gi C e v h) Tt := by
  simp only [exS, so_st]; rfl
theorem so_retN : sox Y (exS gi C .retN v h) Nn Tt Bb Kk = Tt .non h := by simp only [exS]; rfl
theorem so_pass : sox Y (exS gi C .pass v h) Nn Tt Bb Kk = Nn v h := by simp only [exS]; rfl
theorem so_brk : sox Y (exS gi C .brk v h) Nn Tt Bb Kk = Bb v h := by simp only [exS]; rfl
theorem so_cnt : sox Y (exS gi C .cnt v h) Nn Tt Bb Kk = Kk v h := by simp only [exS]; rfl
theorem so_never : sox Y (exS gi C .never v h) Nn Tt Bb Kk = False := by simp only [exS]; rfl
theorem so_ite {x y : List S} : sox Y (exS gi C (.ite c x y) v h) Nn Tt Bb Kk = okx (fun x h => Y x v h) (evE gi C c v h) fun d h => tr d h fun k => if k then sox Y (exB gi C x v h) Nn Tt Bb Kk else sox Y (exB gi C y v h) Nn Tt Bb Kk := by
  simp only [exS, so_st]
  congr 1
  funext d h
  unfold tr
  cases truth d h with
  | none => rfl
  | some k => cases k <;> rfl
theorem so_unp (is : List Nat) : sox Y (exS gi C (.unp is e) v h) Nn Tt Bb Kk = okx (fun x h => Y x v h) (evE gi C e v h) fun d h => match d with
    | .tup ds => (match setMany v is ds with | some v' => Nn v' h | none => False)
    | _ => False := by
  simp only [exS, so_st]
  congr 1
  funext d h
  cases d with
  | tup ds =>
    dsimp only
    cases setMany v is ds <;> rfl
  | _ => rfl
theorem so_aug (i : Nat) (o : Operator) : sox Y (exS gi C (.aug i o e) v h) Nn Tt Bb Kk = (match v[i]? with
    | some (some x) => okx (fun x h => Y x v h) (evE gi C e v h) fun d h => match x, d with
      | .int a, .int b => sox Y (augR o i a b v h) Nn Tt Bb Kk
      | _, _ => False
    | _ => False) := by
  simp only [exS]
  cases v[i]? with
  | none => rfl
  | some o =>
    cases o with
    | none => rfl
    | some x =>
      dsimp only
      rw [so_st]
      congr 1
      funext d h
      cases x <;> first | rfl | (cases d <;> rfl)
theorem so_setAt (f : Str) : sox Y (exS gi C (.setAt a f e) v h) Nn Tt Bb Kk = okx (fun x h => Y x v h) (evE gi C e v h) fun d h => okx (fun x h => Y x v h) (evE gi C a v h) fun x h => match x with
    | .ref i => (match h[i]? with
      | some (.ins c fs) => (if gi.own c then gi.at_ c f else none) matches some .fld ∧ fs.length < 1000 ∧ Nn v (h.set i (.ins c (putF f d fs)))
      | _ => False)
    | _ => False := by
  simp only [exS, so_st]
  congr 1
  funext d h
  congr 1
  funext x h
  cases x with
  | ref i =>
    dsimp only
    cases h[i]? with
    | none => rfl
    | some o =>
      cases o with
      | ins c fs =>
        dsimp only
        cases (if gi.own c = true then gi.at_ c f else none) with
        | none => simp [sox]
        | some k =>
          cases k with
          | fld =>
            dsimp only
            by_cases hz : fs.length < 1000 <;> simp [hz, sox]
          | _ => simp [sox]
      | _ => rfl
  | _ => rfl
/-- what a try does with an exception -/
def tryY (gi : GI) (c : Str) (i : Nat) (s : List XS) (Y : Exn → Ev → HD → Prop) (Tt : D → HD → Prop) (e : Exn) (v : Ev) (h : HD) : Prop := match gi.exs e.cls c with
  | some true => i < v.length ∧ (match exXs gi e s (v.set i none) with
    | some (.inr d) => Tt d h
    | _ => False)
  | some false => Y e v h
  | none => False
theorem so_try {b : List S} {c : Str} {i : Nat} {s : List XS} : sox Y (exS gi C (.tryX b c i s) v h) Nn Tt Bb Kk = sox (tryY gi c i s Y Tt) (exB gi C b v h) Nn Tt Bb Kk := by
  simp only [exS]
  cases exB gi C b v h with
  | ex e w h' =>
    show sox Y (caught gi c i s (.ex e w h')) Nn Tt Bb Kk = tryY gi c i s Y Tt e w h'
    unfold tryY caught
    dsimp only
    cases hh : gi.exs e.cls c with
    | none => rfl
    | some k =>
      cases k with
      | false => rfl
      | true =>
        dsimp only
        by_cases hl : i < w.length
        · rw [if_pos hl]
          cases exXs gi e s (w.set i none) with
          | none => simp [sox]
          | some r => cases r <;> simp [sox, hl]
        · rw [if_neg hl]
          simp [sox, hl]
  | _ => rfl
theorem try_rt {c : Str} {i : Nat} {s : List XS} {e : Exn} {d : D} (h1 : gi.exs e.cls c = some true) (h2 : i < v.length) (h3 : exXs gi e s (v.set i none) = some (.inr d)) : tryY gi c i s Y Tt e v h = Tt d h := by
  unfold tryY
  rw [h1]
  dsimp only
  rw [h3]
  simp [h2]
theorem try_no {c : Str} {i : Nat} {s : List XS} {e : Exn} (h1 : gi.exs e.cls c = some false) : tryY gi c i s Y Tt e v h = Y e v h := by
  unfold tryY
  rw [h1]
theorem so_raise {c : Str} : sox Y (exS gi C (.raise c []) v h) Nn Tt Bb Kk = (gi.exn c = some [] ∧ Y ⟨c, []⟩ v h) := by
  simp only [exS]
  cases gi.exn c with
  | none => simp [sox]
  | some l => cases l <;> simp [sox]
/-- what a loop walks -/
theorem so_for {t : T} {it : It} {b : List S} : sox Y (exS gi C (.for_ t it b) v h) Nn Tt Bb Kk = okx (fun x h => Y x v h) (evIt gi C it v h) fun w h => sox Y (loopF w (fun d v h => match tgt v t d with
    | some v' => exB gi C b v' h
    | none => .bad) w.items v h) Nn Tt Bb Kk := by
  simp only [exS, so_st] <;> rfl
theorem ok_itval {Q2' : Wk → HD → Prop} : okx X (evIt gi C (.val e) v h) Q2' = okx X (evE gi C e v h) fun x h => match wkVal x h with | some w => Q2' w h | none => False := by
  simp only [evIt, ok_bind]
  congr 1
  funext x h
  cases wkVal x h <;> rfl
theorem ok_itrng1 {Q2' : Wk → HD → Prop} : okx X (evIt gi C (.rng1 a) v h) Q2' = okx X (evE gi C a v h) fun x h => match x with | .int j => -big ≤ j ∧ j < big ∧ Q2' ⟨rngD 0 j.toNat, []⟩ h | _ => False := by
  simp only [evIt, ok_bind]
  congr 1
  funext x h
  cases x with
  | int j =>
    dsimp only
    by_cases e : -big ≤ j ∧ j < big
    · simp [e, ok_ok]
    · rw [if_neg e, ok_bad]
      simp only [eq_iff_iff, false_iff]
      exact fun z => e ⟨z.1, z.2.1⟩
  | _ => rfl
theorem ok_itrng2 {Q2' : Wk → HD → Prop} : okx X (evIt gi C (.rng2 a b) v h) Q2' = okx X (evE gi C a v h) fun x h => okx X (evE gi C b v h) fun y h => match x, y with | .int i, .int j => -big ≤ i ∧ i < big ∧ -big ≤ j ∧ j < big ∧ Q2' ⟨rngD i (j - i).toNat, []⟩ h | _, _ => False := by
  simp only [evIt, ok_bind]
  congr 1
  funext x h
  congr 1
  funext y h
  cases x with
  | int i =>
    cases y with
    | int j =>
      dsimp only
      by_cases e : -big ≤ i ∧ i < big ∧ -big ≤ j ∧ j < big
      · rw [if_pos e]
        simp [e, ok_ok]
      · rw [if_neg e, ok_bad]
        simp only [eq_iff_iff, false_iff]
        exact fun z => e ⟨z.1, z.2.1, z.2.2.1, z.2.2.2.1⟩
    | _ => rfl
  | _ => rfl
/-- a for loop by what holds of the items that are left -/
theorem for_ind {w : Wk} {f : D → Ev → HD → RS} (I : List D → Ev → HD → Prop) (hs : ∀ ds v h, I ds v h → w.still h)
    (step : ∀ d ds v h, I (d :: ds) v h → sox Y (f d v h) (fun v h => I ds v h) Tt Nn (fun v h => I ds v h)) (hend : ∀ v h, I [] v h → Nn v h) : ∀ (ds : List D) (v : Ev) (h : HD), I ds v h → sox Y (loopF w f ds v h) Nn Tt Bb Kk
  | [], v, h, i => by
    unfold loopF
    rw [if_pos (hs _ _ _ i)]
    exact hend v h i
  | d :: ds, v, h, i => by
    unfold loopF
    rw [if_pos (hs _ _ _ i)]
    have z := step d ds v h i
    revert z
    cases f d v h with
    | nx v' h' => exact fun z => for_ind I hs step hend ds v' h' z
    | ct v' h' => exact fun z => for_ind I hs step hend ds v' h' z
    | bk v' h' => exact fun z => z
    | rt d' h' => exact fun z => z
    | ex _ _ _ => exact fun z => z
    | bad => exact fun z => z
theorem still_nil {xs : List D} : (⟨xs, []⟩ : Wk).still h := fun p hp => by cases hp
theorem so_whl {c : E} {b : List S} : sox Y (exS gi C (.whl c b) v h) Nn Tt Bb Kk = sox Y (loopW (fun v h => asB (evE gi C c v h)) (fun v h => exB gi C b v h) bigW v h) Nn Tt Bb Kk := by simp only [exS]
theorem ok_asB {m : R D} {Q3 : Bool → HD → Prop} : okx X (asB m) Q3 = okx X m fun x h => tr x h fun k => Q3 k h := by
  unfold asB
  rw [ok_bind]
  congr 1
  funext x h
  unfold tr
  cases truth x h <;> rfl
/-- a while loop by a measure -/
theorem whl_ind {cc : Ev → HD → R Bool} {f : Ev → HD → RS} (I : Nat → Ev → HD → Prop)
    (step : ∀ m v h, I m v h → okx (fun x h => Y x v h) (cc v h) fun k h => if k then sox Y (f v h) (fun v h => ∃ m', m' < m ∧ I m' v h) Tt Nn (fun v h => ∃ m', m' < m ∧ I m' v h) else Nn v h) : ∀ (n m : Nat) (v : Ev) (h : HD), m < n → I m v h → sox Y (loopW cc f n v h) Nn Tt Bb Kk
  | 0, m, v, h, hm, _ => absurd hm (Nat.not_lt_zero _)
  | n + 1, m, v, h, hm, i => by
    unfold loopW
    rw [so_st]
    refine ok_mono (step m v h i) fun k h1 q => ?_
    cases k with
    | false => exact q
    | true =>
      rw [if_pos rfl] at q ⊢
      revert q
      cases f v h1 with
      | nx v' h' => exact fun ⟨m', hm', q⟩ => whl_ind I step n m' v' h' (by omega) q
      | ct v' h' => exact fun ⟨m', hm', q⟩ => whl_ind I step n m' v' h' (by omega) q
      | bk v' h' => exact fun z => z
      | rt d' h' => exact fun z => z
      | ex _ _ _ => exact fun z => z
      | bad => exact fun z => z
/-! ### list comprehensions -/
theorem ok_lc {t : T} {own : List Nat} {it : It} {cs : List E} : okx X (evE gi C (.lc t own it cs e) v h) Q = okx X (evIt gi C it v h) fun w h => okx X (loopC w (fun d h => match tgt (wipe v own) t d with
      | some v' => ((evTs gi C cs v' h).bind fun b h => if b then (evE gi C e v' h).bind fun y h => .ok (some y) h else .ok none h).noex
      | none => .bad) w.items [] h) fun xs h => Q (.ref h.length) (h ++ [.lst xs]) := by
  simp only [evE, ok_bind, ok_ok] <;> rfl
theorem lc_ind {w : Wk} {f : D → HD → R (Option D)} {Q3 : List D → HD → Prop} (I : List D → List D → HD → Prop) (hs : ∀ ds acc h, I ds acc h → w.still h)
    (step : ∀ d ds acc h, I (d :: ds) acc h → okx X (f d h) fun o h => match o with | some y => acc.length < cap ∧ I ds (acc ++ [y]) h | none => I ds acc h) (hend : ∀ acc h, I [] acc h → Q3 acc h) : ∀ (ds acc : List D) (h : HD), I ds acc h → okx X (loopC w f ds acc h) Q3
  | [], acc, h, i => by
    unfold loopC
    rw [if_pos (hs _ _ _ i)]
    exact hend acc h i
  | d :: ds, acc, h, i => by
    unfold loopC
    rw [if_pos (hs _ _ _ i), ok_bind]
    refine ok_mono (step d ds acc h i) fun o h1 q => ?_
    cases o with
    | none => exact lc_ind I hs step hend ds acc h1 q
    | some y =>
      dsimp only
      rw [if_pos q.1]
      exact lc_ind I hs step hend ds (acc ++ [y]) h1 q.2
theorem ok_ts0 {Q3 : Bool → HD → Prop} : okx X (evTs gi C [] v h) Q3 = Q3 true h := by simp only [evTs, ok_ok]
theorem ok_ts1 {Q3 : Bool → HD → Prop} : okx X (evTs gi C [e] v h) Q3 = okx X (evE gi C e v h) fun x h => tr x h fun k => Q3 k h := by
  simp only [evTs, ok_bind]
  congr 1
  funext x h
  unfold tr
  cases truth x h with
  | none => rfl
  | some k => cases k <;> rfl
/-! ### a def's call -/
def RetQ (h0 : HD) (Q : D → HD → Prop) (d : D) (h : HD) : Prop := Q d (gc d h0 h)
theorem ok_exF {F : Fn} {ds : List D} (hl : ds.length ≤ F.ar ∧ F.ar ≤ ds.length + F.dfl.length) : okx X (exF gi C F ds h) Q = sox (fun x _ h => X x h) (exB gi C F.body ((ds ++ F.dfl.drop (F.dfl.length - (F.ar - ds.length))).map some ++ List.replicate (F.n - F.ar) none) h) (fun _ h' => RetQ h Q .non h') (fun d h' => RetQ h Q d h') (fun _ _ => False) (fun _ _ => False) := by
  unfold exF
  rw [if_pos hl]
  cases exB gi C F.body ((ds ++ F.dfl.drop (F.dfl.length - (F.ar - ds.length))).map some ++ List.replicate (F.n - F.ar) none) h <;> rfl
theorem ok_run {P : Prog} {k : Nat} {f : Str} {F : Fn} {ds : List D} (e : P.fn f = some F) (hl : ds.length ≤ F.ar ∧ F.ar ≤ ds.length + F.dfl.length) :
    okx X (run P (k + 1) f ds h) Q = sox (fun x _ h => X x h) (exB P.gi (run P k) F.body ((ds ++ F.dfl.drop (F.dfl.length - (F.ar - ds.length))).map some ++ List.replicate (F.n - F.ar) none) h) (fun _ h' => RetQ h Q .non h') (fun d h' => RetQ h Q d h') (fun _ _ => False) (fun _ _ => False) := by
  rw [← ok_exF hl]
  simp only [run, e]
/-- nothing has changed but what stands behind -/
theorem gc_same {h h' : HD} {d : D} (c : d.cl h.length = true) (l : h.length ≤ h'.length) (s : ∀ j, j < h.length → h'[j]? = h[j]?) : gc d h h' = h := by
  have g : GcOk d h h' := ⟨c, l, fun j hj => .inl (s j hj)⟩
  unfold gc
  rw [if_pos g]
  apply List.ext_getElem?
  intro i
  by_cases hi : i < h.length
  · rw [List.getElem?_take_of_lt hi, s i hi]
  · rw [List.getElem?_take, if_neg hi, List.getElem?_eq_none (by omega)]
theorem gc_id {h : HD} {d : D} (c : d.cl h.length = true) : gc d h h = h := gc_same c (Nat.le_refl _) fun _ _ => rfl
theorem gc_app {h x : HD} {d : D} (c : d.cl h.length = true) : gc d h (h ++ x) = h := gc_same c (by simp) fun j hj => List.getElem?_append_left hj
/-- one object has changed -/
theorem gc_set {h h' : HD} {d : D} {i : Nat} {o : O} (c : d.cl h.length = true) (hi : i < h.length) (co : o.cl h.length = true) (l : h.length ≤ h'.length) (s : ∀ j, j < h.length → h'[j]? = (h.set i o)[j]?) : gc d h h' = h.set i o := by
  have g : GcOk d h h' := ⟨c, l, fun j hj => by
    rw [s j hj]
    by_cases e : i = j
    · subst e
      exact .inr ⟨o, List.getElem?_set_self hj, co⟩
    · exact .inl (List.getElem?_set_ne e)⟩
  unfold gc
  rw [if_pos g]
  apply List.ext_getElem?
  intro j
  by_cases hj : j < h.length
  · rw [List.getElem?_take_of_lt hj, s j hj]
  · rw [List.getElem?_take, if_neg hj, List.getElem?_eq_none (by rw [List.length_set]; omega)]
theorem gc_new {h h' : HD} {d : D} (c : d.cl h.length = false) : gc d h h' = h' := by
  unfold gc
  rw [if_neg]
  intro g
  rw [g.1] at c
  cases c
theorem ret_id {d : D} (c : d.cl h.length = true) : RetQ h Q d h = Q d h := by unfold RetQ; rw [gc_id c]
theorem ret_app {x : HD} {d : D} (c : d.cl h.length = true) : RetQ h Q d (h ++ x) = Q d h := by unfold RetQ; rw [gc_app c]
theorem ret_new {h' : HD} {d : D} (c : d.cl h.length = false) : RetQ h Q d h' = Q d h' := by unfold RetQ; rw [gc_new c]
theorem ret_bl (k : Bool) : RetQ h Q (.bl k) h = Q (.bl k) h := ret_id rfl
theorem ret_int (i : Int) : RetQ h Q (.int i) h = Q (.int i) h := ret_id rfl
theorem ret_str (x : Str) : RetQ h Q (.str x) h = Q (.str x) h := ret_id rfl
theorem ret_non : RetQ h Q .non h = Q .non h := ret_id rfl
end
/-! ### truth -/
section
variable {h : HD} {K : Bool → Prop}
theorem tr_bl (b : Bool) : tr (.bl b) h K = K b := rfl
theorem tr_non : tr .non h K = K false := rfl
theorem tr_int (i : Int) : tr (.int i) h K = K (decide (i ≠ 0)) := rfl
theorem tr_tup (xs : List D) : tr (.tup xs) h K = K (!xs.isEmpty) := rfl
theorem tr_kls (xs : List D) : tr (.kls xs) h K = K (!xs.isEmpty) := rfl
theorem tr_str (x : Str) : tr (.str x) h K = (x.length ≤ cap ∧ K (decide (x.length ≠ 0))) := by
  unfold tr truth
  by_cases e : x.length ≤ cap <;> simp [e]
theorem tr_lst {i : Nat} {xs : List D} (e : h[i]? = some (.lst xs)) : tr (.ref i) h K = K (!xs.isEmpty) := by
  unfold tr truth
  dsimp only
  rw [e]
end
/-! ### operations -/
section
variable {X : Exn → HD → Prop} {gi : GI} {C : Cal} {h : HD} {Q : D → HD → Prop}
theorem p_not (x : D) : okx X (prD gi C .not [x] h) Q = tr x h fun b => Q (.bl (!b)) h := by
  unfold prD tr
  dsimp only
  cases truth x h <;> rfl
theorem p_add (a b : Int) : okx X (prD gi C (.bin .Add) [.int a, .int b] h) Q = Q (.int (a + b)) h := rfl
theorem p_sub (a b : Int) : okx X (prD gi C (.bin .Sub) [.int a, .int b] h) Q = Q (.int (a - b)) h := rfl
theorem p_adds (a b : Str) : okx X (prD gi C (.bin .Add) [.str a, .str b] h) Q = (a.length + b.length ≤ cap ∧ Q (.str (a ++ b)) h) := by
  show okx X (if a.length + b.length ≤ cap then .ok (.str (a ++ b)) h else .bad) Q = _
  by_cases e : a.length + b.length ≤ cap <;> simp [e, ok_ok, ok_bad]
theorem p_mul (a b : Int) (e : (-(2 ^ 64) < a ∧ a < 2 ^ 64) ∨ (-(2 ^ 64) < b ∧ b < 2 ^ 64)) : okx X (prD gi C (.bin .Mult) [.int a, .int b] h) Q = Q (.int (a * b)) h := by
  show okx X (if _ then _ else _) Q = _
  rw [if_pos e]
  rfl
theorem p_mulr (a b : Int) (e : -(2 ^ 64) < b ∧ b < 2 ^ 64) : okx X (prD gi C (.bin .Mult) [.int a, .int b] h) Q = Q (.int (a * b)) h := p_mul a b (.inr e)
theorem ity_non (n : String) : isTy gi n .non h = kB "NoneType" n := rfl
theorem ity_bl (n : String) (b : Bool) : isTy gi n (.bl b) h = kB "bool" n := rfl
theorem ity_int (n : String) (i : Int) : isTy gi n (.int i) h = kB "int" n := rfl
theorem ity_str (n : String) (x : Str) : isTy gi n (.str x) h = kB "str" n := rfl
theorem ity_tup (n : String) (xs : List D) : isTy gi n (.tup xs) h = kB "tuple" n := rfl
theorem ity_kls (n : String) (xs : List D) : isTy gi n (.kls xs) h = kB "list" n := rfl
theorem kb_NoneType_NoneType : kB "NoneType" "NoneType" = some true := by decide
theorem kb_NoneType_bool : kB "NoneType" "bool" = some false := by decide
theorem kb_NoneType_int : kB "NoneType" "int" = some false := by decide
theorem kb_NoneType_str : kB "NoneType" "str" = some false := by decide
theorem kb_NoneType_tuple : kB "NoneType" "tuple" = some false := by decide
theorem kb_NoneType_list : kB "NoneType" "list" = some false := by decide
theorem kb_bool_NoneType : kB "bool" "NoneType" = some false := by decide
theorem kb_bool_bool : kB "bool" "bool" = some true := by decide
theorem kb_bool_int : kB "bool" "int" = some true := by decide
theorem kb_bool_str : kB "bool" "str" = some false := by decide
theorem kb_bool_tuple : kB "bool" "tuple" = some false := by decide
theorem kb_bool_list : kB "bool" "list" = some false := by decide
theorem kb_int_NoneType : kB "int" "NoneType" = some false := by decide
theorem kb_int_bool : kB "int" "bool" = some false := by decide
theorem kb_int_int : kB "int" "int" = some true := by decide
theorem kb_int_str : kB "int" "str" = some false := by decide
theorem kb_int_tuple : kB "int" "tuple" = some false := by decide
theorem kb_int_list : kB "int" "list" = some false := by decide
theorem kb_str_NoneType : kB "str" "NoneType" = some false := by decide
theorem kb_str_bool : kB "str" "bool" = some false := by decide
theorem kb_str_int : kB "str" "int" = some false := by decide
theorem kb_str_str : kB "str" "str" = some true := by decide
theorem kb_str_tuple : kB "str" "tuple" = some false := by decide
theorem kb_str_list : kB "str" "list" = some false := by decide
theorem kb_tuple_NoneType : kB "tuple" "NoneType" = some false := by decide
theorem kb_tuple_bool : kB "tuple" "bool" = some false := by decide
theorem kb_tuple_int : kB "tuple" "int" = some false := by decide
theorem kb_tuple_str : kB "tuple" "str" = some false := by decide
theorem kb_tuple_tuple : kB "tuple" "tuple" = some true := by decide
theorem kb_tuple_list : kB "tuple" "list" = some false := by decide
theorem kb_list_NoneType : kB "list" "NoneType" = some false := by decide
theorem kb_list_bool : kB "list" "bool" = some false := by decide
theorem kb_list_int : kB "list" "int" = some false := by decide
theorem kb_list_str : kB "list" "str" = some false := by decide
theorem kb_list_tuple : kB "list" "tuple" = some false := by decide
theorem kb_list_list : kB "list" "list" = some true := by decide
theorem p_muls (a : Str) (b : Int) : okx X (prD gi C (.bin .Mult) [.str a, .int b] h) Q = (-big ≤ b ∧ b < big ∧ a.length * b.toNat ≤ cap ∧ Q (.str (sOf (List.replicate b.toNat a.cps.toList).flatten)) h) := by
  show okx X (if -big ≤ b ∧ b < big ∧ a.length * b.toNat ≤ cap then _ else _) Q = _
  by_cases e : -big ≤ b ∧ b < big ∧ a.length * b.toNat ≤ cap
  · rw [if_pos e]
    simp [e, ok_ok]
  · rw [if_neg e, ok_bad]
    simp only [eq_iff_iff, false_iff]
    exact fun z => e ⟨z.1, z.2.1, z.2.2.1⟩
theorem p_fdiv (a b : Int) (e : b ≠ 0 ∧ b.natAbs < 1073741824) : okx X (prD gi C (.bin .FloorDiv) [.int a, .int b] h) Q = Q (.int (a.fdiv b)) h := by
  show okx X (if _ then _ else _) Q = _
  rw [if_pos e]
  rfl
theorem p_mod (a b : Int) (e : b ≠ 0) : okx X (prD gi C (.bin .Mod) [.int a, .int b] h) Q = Q (.int (a.fmod b)) h := by
  show okx X (if _ then _ else _) Q = _
  rw [if_pos e]
  rfl
theorem p_pow (a b : Int) (e : 0 ≤ b ∧ b ≤ 1000000 ∧ a.natAbs < 2 ^ 64) : okx X (prD gi C (.bin .Pow) [.int a, .int b] h) Q = Q (.int (a ^ b.toNat)) h := by
  show okx X (if _ then _ else _) Q = _
  rw [if_pos e]
  rfl
theorem p_eqi (a b : Int) : okx X (prD gi C (.cmp .Eq) [.int a, .int b] h) Q = Q (.bl (decide (a = b))) h := rfl
theorem p_eqs (a b : Str) : okx X (prD gi C (.cmp .Eq) [.str a, .str b] h) Q = Q (.bl (decide (a = b))) h := rfl
theorem p_eqb (a b : Bool) : okx X (prD gi C (.cmp .Eq) [.bl a, .bl b] h) Q = Q (.bl (a == b)) h := rfl
theorem p_nei (a b : Int) : okx X (prD gi C (.cmp .NotEq) [.int a, .int b] h) Q = Q (.bl (!decide (a = b))) h := rfl
theorem p_nes (a b : Str) : okx X (prD gi C (.cmp .NotEq) [.str a, .str b] h) Q = Q (.bl (!decide (a = b))) h := rfl
theorem p_neb (a b : Bool) : okx X (prD gi C (.cmp .NotEq) [.bl a, .bl b] h) Q = Q (.bl (!(a == b))) h := rfl
theorem p_lt (a b : Int) : okx X (prD gi C (.cmp .Lt) [.int a, .int b] h) Q = Q (.bl (decide (a < b))) h := rfl
theorem p_le (a b : Int) : okx X (prD gi C (.cmp .LtE) [.int a, .int b] h) Q = Q (.bl (decide (a ≤ b))) h := rfl
theorem p_gt (a b : Int) : okx X (prD gi C (.cmp .Gt) [.int a, .int b] h) Q = Q (.bl (decide (b < a))) h := rfl
theorem p_ge (a b : Int) : okx X (prD gi C (.cmp .GtE) [.int a, .int b] h) Q = Q (.bl (decide (b ≤ a))) h := rfl
def isNon : D → Bool
  | .non => true
  | _ => false
theorem p_is (a : D) : okx X (prD gi C (.cmp .Is) [a, .non] h) Q = Q (.bl (isNon a)) h := by cases a <;> rfl
theorem p_isnot (a : D) : okx X (prD gi C (.cmp .IsNot) [a, .non] h) Q = Q (.bl (!isNon a)) h := by cases a <;> rfl
theorem p_notin1 (c : Nat) (z : Str) : okx X (prD gi C (.cmp .NotIn) [.str ⟨#[c]⟩, .str z] h) Q = Q (.bl (!decide (c ∈ z.cps.toList))) h := rfl
theorem p_in1 (c : Nat) (z : Str) : okx X (prD gi C (.cmp .In) [.str ⟨#[c]⟩, .str z] h) Q = Q (.bl (decide (c ∈ z.cps.toList))) h := rfl
theorem p_lens (z : Str) : okx X (prD gi C (.b .len) [.str z] h) Q = (z.length ≤ cap ∧ Q (.int z.length) h) := by
  show okx X (if z.length ≤ cap then _ else _) Q = _
  by_cases e : z.length ≤ cap <;> simp [e, ok_ok, ok_bad]
theorem p_lent (xs : List D) : okx X (prD gi C (.b .len) [.tup xs] h) Q = Q (.int xs.length) h := rfl
theorem p_lenk (xs : List D) : okx X (prD gi C (.b .len) [.kls xs] h) Q = Q (.int xs.length) h := rfl
theorem p_lenl {i : Nat} {xs : List D} (e : h[i]? = some (.lst xs)) : okx X (prD gi C (.b .len) [.ref i] h) Q = Q (.int xs.length) h := by
  have e2 : lsD (.ref i) h = some xs := by
    unfold lsD lstOf
    dsimp only
    rw [e]
  show okx X (match lsD (.ref i) h with | some xs => .ok (.int xs.length) h | none => _) Q = _
  rw [e2]
  rfl
theorem spec_lst {i : Nat} {xs : List D} {m : Str} (e : h[i]? = some (.lst xs)) : spec gi m (.ref i) h = none := by
  unfold spec clsOf
  dsimp only
  rw [e]
theorem spec_ins {i : Nat} {c m q : Str} {fs : List (Str × D)} (e : h[i]? = some (.ins c fs)) (eo : gi.own c = true) (ea : gi.at_ c m = some (.fn q)) : spec gi m (.ref i) h = some q := by
  unfold spec
  simp [clsOf, e, eo, ea]
theorem spec_no {i : Nat} {c m : Str} {fs : List (Str × D)} (e : h[i]? = some (.ins c fs)) (ea : gi.at_ c m = none) : spec gi m (.ref i) h = none := by
  unfold spec
  simp [clsOf, e, ea]
theorem p_int (i : Int) : okx X (prD gi C (.b .int) [.int i] h) Q = Q (.int i) h := rfl
theorem p_bool (b : Bool) : okx X (prD gi C (.b .bool) [.bl b] h) Q = Q (.bl b) h := rfl
theorem p_tup (ds : List D) : okx X (prD gi C .tup ds h) Q = (ds.length ≤ cap ∧ Q (.tup ds) h) := by
  show okx X (if ds.length ≤ cap then _ else _) Q = _
  by_cases e : ds.length ≤ cap <;> simp [e, ok_ok, ok_bad]
theorem p_lst (ds : List D) : okx X (prD gi C .lst ds h) Q = (ds.length ≤ cap ∧ Q (.ref h.length) (h ++ [.lst ds])) := by
  show okx X (if ds.length ≤ cap then _ else _) Q = _
  by_cases e : ds.length ≤ cap <;> simp [e, ok_ok, ok_bad]
theorem p_fmts (z : Str) : okx X (prD gi C .fmt [.str z] h) Q = (z.length ≤ cap ∧ Q (.str z) h) := by
  show okx X (if z.length ≤ cap then _ else _) Q = _
  by_cases e : z.length ≤ cap <;> simp [e, ok_ok, ok_bad]
theorem p_ixt (xs : List D) (i : Int) : okx X (prD gi C .ix [.tup xs, .int i] h) Q = (match atI xs i with | some d => Q d h | none => False) := by
  show okx X (match atI xs i with | some d => .ok d h | none => .bad) Q = _
  cases atI xs i <;> rfl
theorem p_ixs (x : Str) (i : Int) : okx X (prD gi C .ix [.str x, .int i] h) Q = (x.length ≤ cap ∧ match atI x.cps.toList i with | some c => Q (.str ⟨#[c]⟩) h | none => False) := by
  show okx X (match atI x.cps.toList i with | some c => if x.length ≤ cap then .ok (.str ⟨#[c]⟩) h else .bad | none => .bad) Q = _
  cases atI x.cps.toList i with
  | none => simp [ok_bad]
  | some c =>
    dsimp only
    by_cases e : x.length ≤ cap <;> simp [e, ok_ok, ok_bad]
theorem p_ixl {j : Nat} {xs : List D} (i : Int) (e : h[j]? = some (.lst xs)) : okx X (prD gi C .ix [.ref j, .int i] h) Q = (match atI xs i with | some d => Q d h | none => False) := by
  have e1 : prD gi C .ix [.ref j, .int i] h = ixD (.ref j) (.int i) h := by
    show (match spec gi "__getitem__" (.ref j) h with | some q => _ | none => _) = _
    rw [spec_lst e]
  rw [e1]
  show okx X (match lsD (.ref j) h with | some xs => (match atI xs i with | some v => .ok v h | none => .bad) | none => .bad) Q = _
  unfold lsD lstOf
  dsimp only
  rw [e]
  dsimp only
  cases atI xs i <;> rfl
/-- own operators -/
theorem p_invo {i : Nat} {c : Str} {fs : List (Str × D)} (q : Str) (e : h[i]? = some (.ins c fs)) (eo : gi.own c = true) (ea : gi.at_ c "__invert__" = some (.fn q)) : okx X (prD gi C .inv [.ref i] h) Q = okx X (C q [.ref i] h) Q := by
  show okx X (match spec gi "__invert__" (.ref i) h with | some q => C q [.ref i] h | none => .bad) Q = _
  rw [spec_ins e eo ea]
theorem p_nego {i : Nat} {c : Str} {fs : List (Str × D)} (q : Str) (e : h[i]? = some (.ins c fs)) (eo : gi.own c = true) (ea : gi.at_ c "__neg__" = some (.fn q)) : okx X (prD gi C .neg [.ref i] h) Q = okx X (C q [.ref i] h) Q := by
  show okx X (match spec gi "__neg__" (.ref i) h with | some q => C q [.ref i] h | none => .bad) Q = _
  rw [spec_ins e eo ea]
theorem p_bino {o : Operator} {m : Str} {i j : Nat} {c : Str} {fs gs : List (Str × D)} (q : Str) (hd : dunB o = some m) (e : h[i]? = some (.ins c fs)) (e2 : h[j]? = some (.ins c gs)) (eo : gi.own c = true) (ea : gi.at_ c m = some (.fn q)) : okx X (prD gi C (.bin o) [.ref i, .ref j] h) Q = okx X (C q [.ref i, .ref j] h) Q := by
  show okx X (match (dunB o).bind fun m => spec gi m (.ref i) h with | some q => if sameCls (.ref i) (.ref j) h then C q [.ref i, .ref j] h else .bad | none => binD o (.ref i) (.ref j) h) Q = _
  rw [hd, Option.bind_some, spec_ins e eo ea]
  dsimp only
  rw [if_pos (by simp [sameCls, clsOf, e, e2])]
theorem ok_blR {f : Bool → Bool} {m : R D} : okx X (blR f m) Q = okx X m fun r h => match r with | .bl k => Q (.bl (f k)) h | _ => False := by
  unfold blR
  rw [ok_bind]
  congr 1
  funext r h
  cases r <;> rfl
theorem p_ino {i : Nat} {c : Str} {fs : List (Str × D)} {a : D} (q : Str) (e : h[i]? = some (.ins c fs)) (eo : gi.own c = true) (ea : gi.at_ c "__contains__" = some (.fn q)) : okx X (prD gi C (.cmp .In) [a, .ref i] h) Q = okx X (C q [.ref i, a] h) fun r h => match r with | .bl k => Q (.bl k) h | _ => False := by
  show okx X (match spec gi "__contains__" (.ref i) h with | some q => blR id (C q [.ref i, a] h) | none => _) Q = _
  rw [spec_ins e eo ea]
  exact ok_blR
theorem p_ind {x c : Str} {kvs : List (Str × D)} (e : gi.dic c = some kvs) : okx X (prD gi C (.cmp .In) [.str x, .gl c] h) Q = Q (.bl (kvs.lookup x).isSome) h := by
  show okx X (match dicIn gi (.str x) c with | some k => .ok (.bl k) h | none => .bad) Q = _
  unfold dicIn
  rw [e]
  rfl
theorem p_notind {x c : Str} {kvs : List (Str × D)} (e : gi.dic c = some kvs) : okx X (prD gi C (.cmp .NotIn) [.str x, .gl c] h) Q = Q (.bl (!(kvs.lookup x).isSome)) h := by
  show okx X (match dicIn gi (.str x) c with | some k => .ok (.bl (!k)) h | none => .bad) Q = _
  unfold dicIn
  rw [e]
  rfl
theorem p_ixd {x c : Str} {kvs : List (Str × D)} (e : gi.dic c = some kvs) : okx X (prD gi C .ix [.gl c, .str x] h) Q = (match kvs.lookup x with | some d => Q d h | none => False) := by
  show okx X (match dicAt gi (.str x) c with | some d => .ok d h | none => .bad) Q = _
  unfold dicAt
  rw [e]
  dsimp only
  cases kvs.lookup x <;> rfl
theorem p_ixo {i : Nat} {c : Str} {fs : List (Str × D)} {a : D} (q : Str) (e : h[i]? = some (.ins c fs)) (eo : gi.own c = true) (ea : gi.at_ c "__getitem__" = some (.fn q)) : okx X (prD gi C .ix [.ref i, a] h) Q = okx X (C q [.ref i, a] h) Q := by
  show okx X (match spec gi "__getitem__" (.ref i) h with | some q => C q [.ref i, a] h | none => _) Q = _
  rw [spec_ins e eo ea]
theorem p_cmpo {o : CmpOp} {m : Str} {i : Nat} {c : Str} {fs : List (Str × D)} {y : D} (q : Str) (hd : (o = .Lt ∧ m = "__lt__") ∨ (o = .LtE ∧ m = "__le__")) (e : h[i]? = some (.ins c fs)) (eo : gi.own c = true) (ea : gi.at_ c m = some (.fn q)) (ek : cmpOk gi (.ref i) y h = true) : okx X (prD gi C (.cmp o) [.ref i, y] h) Q = okx X (C q [.ref i, y] h) fun r h => match r with | .bl k => Q (.bl k) h | _ => False := by
  rcases hd with ⟨rfl, rfl⟩ | ⟨rfl, rfl⟩
  · show okx X (match spec gi "__lt__" (.ref i) h with | some q => if cmpOk gi (.ref i) y h then blR id (C q [.ref i, y] h) else .bad | none => _) Q = _
    rw [spec_ins e eo ea]
    dsimp only
    rw [if_pos ek]
    exact ok_blR
  · show okx X (match spec gi "__le__" (.ref i) h with | some q => if cmpOk gi (.ref i) y h then blR id (C q [.ref i, y] h) else .bad | none => _) Q = _
    rw [spec_ins e eo ea]
    dsimp only
    rw [if_pos ek]
    exact ok_blR
theorem p_abso {i : Nat} {c : Str} {fs : List (Str × D)} (q : Str) (e : h[i]? = some (.ins c fs)) (eo : gi.own c = true) (ea : gi.at_ c "__abs__" = some (.fn q)) : okx X (prD gi C (.b .abs) [.ref i] h) Q = okx (fun _ _ => False) (C q [.ref i] h) Q := by
  show okx X (match spec gi "__abs__" (.ref i) h with | some q => (C q [.ref i] h).noex | none => .bad) Q = _
  rw [spec_ins e eo ea]
  exact ok_noex _
theorem p_leno {i : Nat} {c : Str} {fs : List (Str × D)} (q : Str) (e : h[i]? = some (.ins c fs)) (eo : gi.own c = true) (ea : gi.at_ c "__len__" = some (.fn q)) : okx X (prD gi C (.b .len) [.ref i] h) Q = okx (fun _ _ => False) (C q [.ref i] h) fun r h => match r with | .int n => 0 ≤ n ∧ n < big ∧ Q (.int n) h | _ => False := by
  have e2 : lsD (.ref i) h = none := by
    unfold lsD lstOf
    dsimp only
    rw [e]
  show okx X (match lsD (.ref i) h with | some xs => _ | none => match spec gi "__len__" (.ref i) h with
      | some q => (C q [.ref i] h).noex.bind fun r h => (match r with
        | .int n => if 0 ≤ n ∧ n < big then .ok (.int n) h else .bad
        | _ => .bad)
      | none => .bad) Q = _
  rw [e2]
  dsimp only
  rw [spec_ins e eo ea]
  dsimp only
  rw [ok_bind, ok_noex]
  congr 1
  funext r h
  cases r with
  | int n =>
    dsimp only
    by_cases z : 0 ≤ n ∧ n < big
    · rw [if_pos z]; simp [z, ok_ok]
    · rw [if_neg z, ok_bad]
      simp only [eq_iff_iff, false_iff]
      exact fun y => z ⟨y.1, y.2.1⟩
  | _ => rfl
theorem p_min (i j : Int) : okx X (prD gi C (.b .min) [.int i, .int j] h) Q = Q (.int (if j < i then j else i)) h := rfl
theorem p_max (i j : Int) : okx X (prD gi C (.b .max) [.int i, .int j] h) Q = Q (.int (if j > i then j else i)) h := rfl
theorem p_intu (x : D) (xs : List D) : okx X (prD gi C (.cmp .In) [x, .tup xs] h) Q = (match inD x (.tup xs) h with | some c => Q (.bl c) h | none => False) := by
  show okx X (match inD x (.tup xs) h with | some c => .ok (.bl c) h | none => .bad) Q = _
  cases inD x (.tup xs) h <;> rfl
theorem p_isity (x : D) (n : String) : okx X (prD gi C (.b .isi) [x, .ty n] h) Q = (match isTy gi n x h with | some b => Q (.bl b) h | none => False) := by
  show okx X (match isTy gi n x h with | some b => .ok (.bl b) h | none => .bad) Q = _
  cases isTy gi n x h <;> rfl
theorem p_isigl (x : D) (n : Str) : okx X (prD gi C (.b .isi) [x, .gl n] h) Q = (match isGl gi n x h with | some b => Q (.bl b) h | none => False) := by
  show okx X (match isGl gi n x h with | some b => .ok (.bl b) h | none => .bad) Q = _
  cases isGl gi n x h <;> rfl
theorem p_slse (x : Str) (i : Int) : okx X (prD gi C (.sl true false) [.str x, .int i] h) Q = (x.length ≤ cap ∧ Q (.str (sOf (cut x.cps.toList (some i) none))) h) := by
  show okx X (if x.length ≤ cap then _ else _) Q = _
  by_cases e : x.length ≤ cap <;> simp [e, ok_ok, ok_bad]
theorem p_slsu (x : Str) (j : Int) : okx X (prD gi C (.sl false true) [.str x, .int j] h) Q = (x.length ≤ cap ∧ Q (.str (sOf (cut x.cps.toList none (some j)))) h) := by
  show okx X (if x.length ≤ cap then _ else _) Q = _
  by_cases e : x.length ≤ cap <;> simp [e, ok_ok, ok_bad]
theorem cut_from {α : Type} (xs : List α) (i : Nat) : cut xs (some (i : Int)) none = xs.drop i := by
  unfold cut clip
  dsimp only
  rw [if_neg (by omega), Int.toNat_natCast]
  rw [List.take_of_length_le (by rw [List.length_drop]; omega)]
  by_cases z : i ≤ xs.length
  · rw [Nat.min_eq_left z]
  · rw [Nat.min_eq_right (by omega), List.drop_of_length_le (Nat.le_refl _), List.drop_of_length_le (by omega)]
theorem cut_to {α : Type} (xs : List α) (j : Nat) : cut xs none (some (j : Int)) = xs.take j := by
  unfold cut clip
  dsimp only
  rw [if_neg (by omega), Int.toNat_natCast, List.drop_zero, Nat.sub_zero]
  by_cases z : j ≤ xs.length
  · rw [Nat.min_eq_left z]
  · rw [Nat.min_eq_right (by omega), List.take_of_length_le (Nat.le_refl _), List.take_of_length_le (by omega)]
theorem bm_append {i : Nat} {xs : List D} {y : D} (e : h[i]? = some (.lst xs)) : okx X (bmD .append (.ref i) [y] h) Q = (xs.length < cap ∧ Q .non (h.set i (.lst (xs ++ [y])))) := by
  unfold bmD
  dsimp only
  rw [e]
  dsimp only
  by_cases z : xs.length < cap <;> simp [z, ok_ok, ok_bad]
theorem bm_pop {i : Nat} {xs : List D} {y : D} (e : h[i]? = some (.lst (xs ++ [y]))) : okx X (bmD .pop (.ref i) [] h) Q = Q y (h.set i (.lst xs)) := by
  unfold bmD
  dsimp only
  rw [e]
  simp [ok_ok]
theorem bm_rev {i : Nat} {xs : List D} (e : h[i]? = some (.lst xs)) : okx X (bmD .reverse (.ref i) [] h) Q = Q .non (h.set i (.lst xs.reverse)) := by
  unfold bmD
  dsimp only
  rw [e]
  rfl
theorem bm_rm (a b : Str) : okx X (bmD .rmpre (.str a) [.str b] h) Q = (a.length ≤ cap ∧ Q (.str (if isPre b.cps.toList a.cps.toList then sOf (a.cps.toList.drop b.length) else a)) h) := by
  show okx X (if a.length ≤ cap then _ else _) Q = _
  by_cases e : a.length ≤ cap <;> simp [e, ok_ok, ok_bad]
theorem bm_st (a b : Str) : okx X (bmD .startsw (.str a) [.str b] h) Q = Q (.bl (isPre b.cps.toList a.cps.toList)) h := rfl
theorem bt_lst {i : Nat} {xs : List D} (e : h[i]? = some (.lst xs)) : bmTy .append (.ref i) h = true ∧ bmTy .pop (.ref i) h = true ∧ bmTy .reverse (.ref i) h = true ∧ bmTy .extend (.ref i) h = true := by
  simp [bmTy, e]
/-- == of an instance with its own -/
theorem p_eqo {i : Nat} {c : Str} {fs : List (Str × D)} {y : D} (q : Str) (e : h[i]? = some (.ins c fs)) (eo : gi.own c = true) (ea : gi.at_ c "__eq__" = some (.fn q)) (ek : cmpOk gi (.ref i) y h = true) : okx X (prD gi C (.cmp .Eq) [.ref i, y] h) Q = okx X (C q [.ref i, y] h) fun r h => match r with | .bl k => Q (.bl k) h | _ => False := by
  have es : spec gi "__eq__" (.ref i) h = some q := by
    unfold spec
    simp [clsOf, e, eo, ea]
  show okx X (match spec gi "__eq__" (.ref i) h with
    | some q => if cmpOk gi (.ref i) y h then (C q [.ref i, y] h).bind fun r h => (match r with
      | .bl c => .ok (.bl c) h
      | _ => .bad)
      else .bad
    | none => cmpD .Eq (.ref i) y h) Q = _
  rw [es]
  dsimp only
  rw [if_pos ek, ok_bind]
  congr 1
  funext r h
  cases r <;> rfl
theorem p_stro {i : Nat} {c : Str} {fs : List (Str × D)} (q : Str) (e : h[i]? = some (.ins c fs)) (eo : gi.own c = true) (ea : gi.at_ c "__str__" = some (.fn q)) : okx X (prD gi C (.b .str) [.ref i] h) Q = okx (fun _ _ => False) (C q [.ref i] h) fun r h => match r with | .str k => Q (.str k) h | _ => False := by
  have es : spec gi "__str__" (.ref i) h = some q := by
    unfold spec
    simp [clsOf, e, eo, ea]
  show okx X (match spec gi "__str__" (.ref i) h with
    | some q => (C q [.ref i] h).noex.bind fun r h => (match r with
      | .str z => .ok (.str z) h
      | _ => .bad)
    | none => .bad) Q = _
  rw [es]
  dsimp only
  rw [ok_bind, ok_noex]
  congr 1
  funext r h
  cases r <;> rfl
end
/-! ### texts as lists -/
theorem len_list (x : Str) : x.length = x.cps.toList.length := by simp [Str.length]
theorem app_list (x y : Str) : (x ++ y).cps.toList = x.cps.toList ++ y.cps.toList := by
  show (PySem.Str.append x y).cps.toList = _
  simp [PySem.Str.append]
theorem list_sOf (l : List Nat) : (sOf l).cps.toList = l := by simp [sOf]
theorem sOf_list (x : Str) : sOf x.cps.toList = x := by
  cases x with
  | mk a => simp [sOf]
theorem str_ext {x y : Str} (e : x.cps.toList = y.cps.toList) : x = y := by
  rw [← sOf_list x, ← sOf_list y, e]
theorem len_app (x y : Str) : (x ++ y).length = x.length + y.length := by
  rw [len_list, len_list, len_list, app_list, List.length_append]
theorem atI_lt {α : Type} {l : List α} {i : Int} {n : Nat} (h0 : 0 ≤ i) (h1 : i < (n : Int)) (h2 : n ≤ l.length) : ∃ c, c ∈ l.take n ∧ atI l i = some c := by
  have hl : i.toNat < l.length := by omega
  have e : l[i.toNat]? = some l[i.toNat] := List.getElem?_eq_getElem hl
  refine ⟨l[i.toNat], ?_, ?_⟩
  · refine List.mem_of_getElem? (i := i.toNat) ?_
    rw [List.getElem?_take_of_lt (by omega)]
    exact e
  · unfold atI ixN
    rw [if_pos h0, if_pos (by omega)]
    exact e
theorem rep_mem {n : Nat} {l : List Nat} {c : Nat} (h : c ∈ (List.replicate n l).flatten) : c ∈ l := by
  obtain ⟨m, hm, hc⟩ := List.mem_flatten.mp h
  rw [(List.mem_replicate.mp hm).2] at hc
  exact hc
theorem rep_len {n : Nat} {l : List Nat} : (List.replicate n l).flatten.length = n * l.length := by
  induction n with
  | zero => simp
  | succ n ih => rw [List.replicate_succ, List.flatten_cons, List.length_append, ih, Nat.succ_mul]; omega
theorem cls_ints (n : Nat) : ∀ l : List Int, cls n (l.map .int) = true
  | [] => rfl
  | a :: r => by
    show (true && cls n (r.map .int)) = true
    rw [cls_ints n r]
    rfl
theorem atI_zero {α : Type} (c : α) (l : List α) : atI (c :: l) 0 = some c := by
  unfold atI ixN
  have e : (0 : Int) < ((c :: l).length : Int) := by rw [List.length_cons]; omega
  rw [if_pos (Int.le_refl 0), if_pos e]
  rfl
theorem atI_nat {α : Type} (l : List α) (i : Int) (h0 : 0 ≤ i) : atI l i = l[i.toNat]? := by
  unfold atI ixN
  rw [if_pos h0]
  by_cases e : i < (l.length : Int)
  · rw [if_pos e]
    rfl
  · rw [if_neg e, List.getElem?_eq_none (by omega)]
    rfl
theorem atI_of {α : Type} {l : List α} {i : Nat} {x : α} (e : l[i]? = some x) : atI l (i : Int) = some x := by
  rw [atI_nat l _ (by omega)]
  simpa using e
theorem rng_mem {lo : Int} {n : Nat} {d : D} (m : d ∈ rngD lo n) : ∃ i : Nat, i < n ∧ d = .int (lo + i) := by
  unfold rngD at m
  obtain ⟨i, hi, e⟩ := List.mem_map.mp m
  exact ⟨i, List.mem_range.mp hi, e.symm⟩
theorem rng_len (lo : Int) (n : Nat) : (rngD lo n).length = n := by simp [rngD]
/-- a loop over a range, by the turn -/
theorem for_rng {Y : Exn → Ev → HD → Prop} {gi : GI} {C : Cal} {t : T} {b : List S} {lo : Int} {n : Nat} {Nn Bb Kk : Ev → HD → Prop} {Tt : D → HD → Prop} (I : Nat → Ev → HD → Prop)
    (step : ∀ i v h, i < n → I i v h → sox Y (match tgt v t (.int (lo + i)) with | some v' => exB gi C b v' h | none => .bad) (fun v h => I (i + 1) v h) Tt Nn (fun v h => I (i + 1) v h)) (hend : ∀ v h, I n v h → Nn v h) {v : Ev} {h : HD} (i0 : I 0 v h) :
    sox Y (loopF ⟨rngD lo n, []⟩ (fun d v h => match tgt v t d with | some v' => exB gi C b v' h | none => .bad) (rngD lo n) v h) Nn Tt Bb Kk := by
  refine for_ind (I := fun ds v h => ∃ i, i ≤ n ∧ ds = (rngD lo n).drop i ∧ I i v h) (fun _ _ _ _ => still_nil) ?_ ?_ _ _ _ ⟨0, Nat.zero_le _, by rw [List.drop_zero], i0⟩
  · rintro d ds v h ⟨i, hi, e, q⟩
    have hl : i < (rngD lo n).length := by
      by_cases z : i < (rngD lo n).length
      · exact z
      · rw [List.drop_eq_nil_of_le (by omega)] at e
        cases e
    rw [List.drop_eq_getElem_cons hl] at e
    injection e with e1 e2
    have hn : i < n := by rw [rng_len] at hl; exact hl
    have ed : d = .int (lo + i) := by
      have z : (rngD lo n)[i]? = some d := by rw [List.getElem?_eq_getElem hl, e1]
      unfold rngD at z
      rw [List.getElem?_map, List.getElem?_eq_getElem (by rw [List.length_range]; exact hn), List.getElem_range] at z
      exact (Option.some.inj z).symm
    subst ed
    have z := step i v h hn q
    revert z
    cases (match tgt v t (.int (lo + i)) with | some v' => exB gi C b v' h | none => RS.bad) with
    | nx v' h' => exact fun z => ⟨i + 1, hn, e2, z⟩
    | ct v' h' => exact fun z => ⟨i + 1, hn, e2, z⟩
    | bk v' h' => exact fun z => z
    | rt d' h' => exact fun z => z
    | ex _ _ _ => exact fun z => z
    | bad => exact fun z => z
  · rintro v h ⟨i, hi, e, q⟩
    have : i = n := by
      by_cases z : i < (rngD lo n).length
      · rw [List.drop_eq_getElem_cons z] at e
        cases e
      · rw [rng_len] at z
        omega
    subst this
    exact hend v h q
/-- a loop over items, by the turn -/
theorem for_at {Y : Exn → Ev → HD → Prop} {gi : GI} {C : Cal} {t : T} {b : List S} {xs : List D} {Nn Bb Kk : Ev → HD → Prop} {Tt : D → HD → Prop} (I : Nat → Ev → HD → Prop)
    (step : ∀ i d v h, xs[i]? = some d → I i v h → sox Y (match tgt v t d with | some v' => exB gi C b v' h | none => .bad) (fun v h => I (i + 1) v h) Tt Nn (fun v h => I (i + 1) v h)) (hend : ∀ v h, I xs.length v h → Nn v h) {v : Ev} {h : HD} (i0 : I 0 v h) :
    sox Y (loopF ⟨xs, []⟩ (fun d v h => match tgt v t d with | some v' => exB gi C b v' h | none => .bad) xs v h) Nn Tt Bb Kk := by
  refine for_ind (I := fun ds v h => ∃ i, i ≤ xs.length ∧ ds = xs.drop i ∧ I i v h) (fun _ _ _ _ => still_nil) ?_ ?_ _ _ _ ⟨0, Nat.zero_le _, by rw [List.drop_zero], i0⟩
  · rintro d ds v h ⟨i, hi, e, q⟩
    have hl : i < xs.length := by
      by_cases z : i < xs.length
      · exact z
      · rw [List.drop_eq_nil_of_le (by omega)] at e
        cases e
    rw [List.drop_eq_getElem_cons hl] at e
    injection e with e1 e2
    have z := step i d v h (by rw [List.getElem?_eq_getElem hl, e1]) q
    revert z
    cases (match tgt v t d with | some v' => exB gi C b v' h | none => RS.bad) with
    | nx v' h' => exact fun z => ⟨i + 1, hl, e2, z⟩
    | ct v' h' => exact fun z => ⟨i + 1, hl, e2, z⟩
    | bk v' h' => exact fun z => z
    | rt d' h' => exact fun z => z
    | ex _ _ _ => exact fun z => z
    | bad => exact fun z => z
  · rintro v h ⟨i, hi, e, q⟩
    have : i = xs.length := by
      by_cases z : i < xs.length
      · rw [List.drop_eq_getElem_cons z] at e
        cases e
      · omega
    subst this
    exact hend v h q
/-- a loop over items, by the turn; the list stands as it is -/
theorem for_atW {Y : Exn → Ev → HD → Prop} {gi : GI} {C : Cal} {t : T} {b : List S} {w : Wk} {Nn Bb Kk : Ev → HD → Prop} {Tt : D → HD → Prop} (I : Nat → Ev → HD → Prop) (hs : ∀ i v h, I i v h → w.still h)
    (step : ∀ i d v h, w.items[i]? = some d → I i v h → sox Y (match tgt v t d with | some v' => exB gi C b v' h | none => .bad) (fun v h => I (i + 1) v h) Tt Nn (fun v h => I (i + 1) v h)) (hend : ∀ v h, I w.items.length v h → Nn v h) {v : Ev} {h : HD} (i0 : I 0 v h) :
    sox Y (loopF w (fun d v h => match tgt v t d with | some v' => exB gi C b v' h | none => .bad) w.items v h) Nn Tt Bb Kk := by
  refine for_ind (I := fun ds v h => ∃ i, i ≤ w.items.length ∧ ds = w.items.drop i ∧ I i v h) (fun _ v h ⟨i, _, _, q⟩ => hs i v h q) ?_ ?_ _ _ _ ⟨0, Nat.zero_le _, by rw [List.drop_zero], i0⟩
  · rintro d ds v h ⟨i, hi, e, q⟩
    have hl : i < w.items.length := by
      by_cases z : i < w.items.length
      · exact z
      · rw [List.drop_eq_nil_of_le (by omega)] at e
        cases e
    rw [List.drop_eq_getElem_cons hl] at e
    injection e with e1 e2
    have z := step i d v h (by rw [List.getElem?_eq_getElem hl, e1]) q
    revert z
    cases (match tgt v t d with | some v' => exB gi C b v' h | none => RS.bad) with
    | nx v' h' => exact fun z => ⟨i + 1, hl, e2, z⟩
    | ct v' h' => exact fun z => ⟨i + 1, hl, e2, z⟩
    | bk v' h' => exact fun z => z
    | rt d' h' => exact fun z => z
    | ex _ _ _ => exact fun z => z
    | bad => exact fun z => z
  · rintro v h ⟨i, hi, e, q⟩
    have : i = w.items.length := by
      by_cases z : i < w.items.length
      · rw [List.drop_eq_getElem_cons z] at e
        cases e
      · omega
    subst this
    exact hend v h q
theorem wk_ref {j : Nat} {xs : List D} {h : HD} (e : h[j]? = some (.lst xs)) : wkVal (.ref j) h = some ⟨xs, [(j, xs)]⟩ := by
  show (lstOf h j).map _ = _
  unfold lstOf
  rw [e]
  rfl
theorem still_one {j : Nat} {xs ys : List D} {h : HD} (e : h[j]? = some (.lst xs)) : (⟨ys, [(j, xs)]⟩ : Wk).still h := fun p hp => by
  have : p = (j, xs) := by simpa using hp
  rw [this]
  unfold lstOf
  rw [e]
theorem p_addl {X : Exn → HD → Prop} {gi : GI} {C : Cal} {h : HD} {Q : D → HD → Prop} {i j : Nat} {xs ys : List D} (e1 : h[i]? = some (.lst xs)) (e2 : h[j]? = some (.lst ys)) (hc : xs.length + ys.length ≤ cap) : okx X (prD gi C (.bin .Add) [.ref i, .ref j] h) Q = Q (.ref h.length) (h ++ [.lst (xs ++ ys)]) := by
  have e : prD gi C (.bin .Add) [.ref i, .ref j] h = binD .Add (.ref i) (.ref j) h := by
    show (match (some ("__add__" : Str)).bind fun m => spec gi m (.ref i) h with | some q => _ | none => _) = _
    rw [Option.bind_some, spec_lst e1]
  rw [e]
  unfold binD
  dsimp only
  rw [e1, e2]
  dsimp only
  rw [if_pos hc]
  rfl
end Mp

set_option Elab.async false
set_option linter.all false
set_option maxRecDepth 100000
set_option maxHeartbeats 0
namespace Lk25
open PySem Mp L2 PyProof.Rows
def top (i : Nat) : PySem.Stmt := PySem.Challenge.pw_castmiddles_k25_uses_that_fit.main.body.getD i (.Pass ⟨0, 0, 0, 0⟩)
def sub (i j : Nat) : PySem.Stmt := match top i with
  | .ClassDef _ _ _ b _ _ _ _ _ _ _ => b.getD j (.Pass ⟨0, 0, 0, 0⟩)
  | s => s
def F_kind_height : Fn := { n := 5, ar := 1, dfl := [], body := [
    .set 1 (.lit (.int 0)),
    .set 2 (.prim .lst [(.prim .tup [(.var 0), (.lit (.int 0))])]),
    .whl (.var 2) [
      .unp [3, 4] (.meth (.var 2) ("pop" : Str) (some .pop) []),
      .ite (.prim (.b .isi) [(.var 3), (.lit (.ty "tuple"))]) [
        .expr (.meth (.var 2) ("append" : Str) (some .append) [(.prim .tup [(.prim .ix [(.var 3), (.lit (.int 1))]), (.prim (.bin .Add) [(.var 4), (.lit (.int 1))])])]),
        .expr (.meth (.var 2) ("append" : Str) (some .append) [(.prim .tup [(.prim .ix [(.var 3), (.lit (.int 2))]), (.prim (.bin .Add) [(.var 4), (.lit (.int 1))])])])] [
        .ite (.prim (.cmp .Gt) [(.var 4), (.var 1)]) [
          .set 1 (.var 4)] []]],
    .ret (.var 1)] }
def d_kind_height : Df := { key := "kind_height", at_ := .glo "kind_height", qual := "kind_height", st := (top 26), ps := ["tree"], N := ["tree", "highest", "waiting", "part", "depth"], F := F_kind_height }
def F_has_ground : Fn := { n := 2, ar := 2, dfl := [], body := [
    .ite (.prim (.b .isi) [(.var 0), (.lit (.ty "tuple"))]) [
      .ret (.prim (.cmp .Eq) [(.prim .ix [(.var 0), (.lit (.int 0))]), (.var 1)])] [],
    .ret (.or (.prim (.cmp .Eq) [(.var 0), (.lit (.str ("?" : Str)))]) (.prim (.cmp .Eq) [(.var 0), (.var 1)]))] }
def d_has_ground : Df := { key := "has_ground", at_ := .glo "has_ground", qual := "has_ground", st := (top 28), ps := ["tree", "ground"], N := ["tree", "ground"], F := F_has_ground }
def F_opened : Fn := { n := 2, ar := 2, dfl := [], body := [
    .ite (.prim (.cmp .Eq) [(.var 0), (.lit (.str ("?" : Str)))]) [
      .ret (.prim .tup [(.var 1), (.lit (.str ("?" : Str))), (.lit (.str ("?" : Str)))])] [],
    .ret (.var 0)] }
def d_opened : Df := { key := "opened", at_ := .glo "opened", qual := "opened", st := (top 29), ps := ["tree", "ground"], N := ["tree", "ground"], F := F_opened }
def F_same_shape : Fn := { n := 2, ar := 2, dfl := [], body := [
    .ret (.and (.prim (.b .isi) [(.var 0), (.lit (.ty "tuple"))]) (.and (.prim (.b .isi) [(.var 1), (.lit (.ty "tuple"))]) (.prim (.cmp .Eq) [(.prim .ix [(.var 0), (.lit (.int 0))]), (.prim .ix [(.var 1), (.lit (.int 0))])])))] }
def d_same_shape : Df := { key := "same_shape", at_ := .glo "same_shape", qual := "same_shape", st := (top 30), ps := ["a", "b"], N := ["a", "b"], F := F_same_shape }
def F_as_precise : Fn := { n := 2, ar := 2, dfl := [], body := [
    .ite (.prim (.cmp .Eq) [(.var 1), (.lit (.str ("?" : Str)))]) [
      .ret (.lit (.bl true))] [],
    .ite (.call (.lit (.gl ("same_shape" : Str))) [(.var 0), (.var 1)]) [
      .ret (.and (.call (.lit (.gl ("as_precise" : Str))) [(.prim .ix [(.var 0), (.lit (.int 1))]), (.prim .ix [(.var 1), (.lit (.int 1))])]) (.call (.lit (.gl ("as_precise" : Str))) [(.prim .ix [(.var 0), (.lit (.int 2))]), (.prim .ix [(.var 1), (.lit (.int 2))])]))] [],
    .ret (.prim (.cmp .Eq) [(.var 0), (.var 1)])] }
def d_as_precise : Df := { key := "as_precise", at_ := .glo "as_precise", qual := "as_precise", st := (top 31), ps := ["a", "b"], N := ["a", "b"], F := F_as_precise }
def F_value_fits : Fn := { n := 4, ar := 2, dfl := [], body := [
    .set 2 (.prim .ix [(.var 0), (.lit (.int 0))]),
    .ite (.prim .not [(.call (.lit (.gl ("has_ground" : Str))) [(.var 1), (.var 2)])]) [
      .ret (.lit (.bl false))] [],
    .ite (.prim (.cmp .In) [(.var 2), (.lit (.gl ("BASE_VALUES" : Str)))]) [
      .ret (.lit (.bl true))] [],
    .set 3 (.call (.lit (.gl ("opened" : Str))) [(.var 1), (.var 2)]),
    .ite (.prim (.cmp .Eq) [(.var 2), (.lit (.str ("pair" : Str)))]) [
      .ret (.and (.call (.lit (.gl ("value_fits" : Str))) [(.prim .ix [(.var 0), (.lit (.int 1))]), (.prim .ix [(.var 3), (.lit (.int 1))])]) (.call (.lit (.gl ("value_fits" : Str))) [(.prim .ix [(.var 0), (.lit (.int 2))]), (.prim .ix [(.var 3), (.lit (.int 2))])]))] [],
    .ite (.prim .not [(.call (.lit (.gl ("use_fits" : Str))) [(.prim .ix [(.var 0), (.lit (.int 1))]), (.prim .ix [(.var 3), (.lit (.int 1))])])]) [
      .ret (.lit (.bl false))] [],
    .ret (.or (.prim (.cmp .Eq) [(.prim .ix [(.prim .ix [(.var 0), (.lit (.int 2))]), (.lit (.int 0))]), (.lit (.str ("stop" : Str)))]) (.call (.lit (.gl ("value_fits" : Str))) [(.prim .ix [(.var 0), (.lit (.int 2))]), (.prim .ix [(.var 3), (.lit (.int 2))])]))] }
def d_value_fits : Df := { key := "value_fits", at_ := .glo "value_fits", qual := "value_fits", st := (top 37), ps := ["value", "kind"], N := ["value", "kind", "ground", "parts"], F := F_value_fits }
def F_use_fits : Fn := { n := 5, ar := 2, dfl := [], body := [
    .set 2 (.prim .ix [(.var 0), (.lit (.int 0))]),
    .ite (.prim (.cmp .Eq) [(.var 2), (.lit (.str ("look" : Str)))]) [
      .ret (.lit (.bl true))] [],
    .set 3 (.prim .ix [(.lit (.gl ("USED_GROUNDS" : Str))), (.var 2)]),
    .ite (.prim .not [(.call (.lit (.gl ("has_ground" : Str))) [(.var 1), (.var 3)])]) [
      .ret (.lit (.bl false))] [],
    .set 4 (.call (.lit (.gl ("opened" : Str))) [(.var 1), (.var 3)]),
    .ite (.prim (.cmp .Eq) [(.var 2), (.lit (.str ("call" : Str)))]) [
      .ret (.and (.call (.lit (.gl ("value_fits" : Str))) [(.prim .ix [(.var 0), (.lit (.int 1))]), (.prim .ix [(.var 4), (.lit (.int 1))])]) (.call (.lit (.gl ("use_fits" : Str))) [(.prim .ix [(.var 0), (.lit (.int 2))]), (.prim .ix [(.var 4), (.lit (.int 2))])]))] [],
    .ite (.prim (.cmp .Eq) [(.var 2), (.lit (.str ("first" : Str)))]) [
      .ret (.call (.lit (.gl ("use_fits" : Str))) [(.prim .ix [(.var 0), (.lit (.int 1))]), (.prim .ix [(.var 4), (.lit (.int 1))])])] [],
    .ret (.call (.lit (.gl ("use_fits" : Str))) [(.prim .ix [(.var 0), (.lit (.int 1))]), (.prim .ix [(.var 4), (.lit (.int 2))])])] }
def d_use_fits : Df := { key := "use_fits", at_ := .glo "use_fits", qual := "use_fits", st := (top 38), ps := ["use", "kind"], N := ["use", "kind", "word", "ground", "parts"], F := F_use_fits }
def F_Kind___init__ : Fn := { n := 2, ar := 2, dfl := [], body := [
    .ite (.prim (.cmp .Gt) [(.call (.lit (.gl ("kind_height" : Str))) [(.var 1)]), (.attr (.var 0) ("LIMIT" : Str))]) [
      .raise ("TooLarge" : Str) []] [],
    .setAt (.var 0) ("tree" : Str) (.var 1)] }
def d_Kind___init__ : Df := { key := "Kind.__init__", at_ := .met "Kind" "__init__", qual := "Kind.__init__", st := (sub 40 1), ps := ["self", "tree"], N := ["self", "tree"], F := F_Kind___init__ }
def F_Kind___eq__ : Fn := { n := 2, ar := 2, dfl := [], body := [
    .ret (.and (.prim (.b .isi) [(.var 1), (.lit (.gl ("Kind" : Str)))]) (.prim (.cmp .Eq) [(.attr (.var 0) ("tree" : Str)), (.attr (.var 1) ("tree" : Str))]))] }
def d_Kind___eq__ : Df := { key := "Kind.__eq__", at_ := .met "Kind" "__eq__", qual := "Kind.__eq__", st := (sub 40 5), ps := ["self", "other"], N := ["self", "other"], F := F_Kind___eq__ }
def F_Kind___le__ : Fn := { n := 2, ar := 2, dfl := [], body := [
    .ite (.prim .not [(.prim (.b .isi) [(.var 1), (.lit (.gl ("Kind" : Str)))])]) [
      .never] [],
    .ret (.call (.lit (.gl ("as_precise" : Str))) [(.attr (.var 0) ("tree" : Str)), (.attr (.var 1) ("tree" : Str))])] }
def d_Kind___le__ : Df := { key := "Kind.__le__", at_ := .met "Kind" "__le__", qual := "Kind.__le__", st := (sub 40 6), ps := ["self", "other"], N := ["self", "other"], F := F_Kind___le__ }
def F_Kind___lt__ : Fn := { n := 2, ar := 2, dfl := [], body := [
    .ite (.prim .not [(.prim (.b .isi) [(.var 1), (.lit (.gl ("Kind" : Str)))])]) [
      .never] [],
    .ret (.and (.prim (.cmp .NotEq) [(.attr (.var 0) ("tree" : Str)), (.attr (.var 1) ("tree" : Str))]) (.call (.lit (.gl ("as_precise" : Str))) [(.attr (.var 0) ("tree" : Str)), (.attr (.var 1) ("tree" : Str))]))] }
def d_Kind___lt__ : Df := { key := "Kind.__lt__", at_ := .met "Kind" "__lt__", qual := "Kind.__lt__", st := (sub 40 7), ps := ["self", "other"], N := ["self", "other"], F := F_Kind___lt__ }
def F_Kind___mul__ : Fn := { n := 2, ar := 2, dfl := [], body := [
    .ite (.prim .not [(.prim (.b .isi) [(.var 1), (.lit (.gl ("Kind" : Str)))])]) [
      .never] [],
    .ret (.call (.lit (.gl ("Kind" : Str))) [(.prim .tup [(.lit (.str ("pair" : Str))), (.attr (.var 0) ("tree" : Str)), (.attr (.var 1) ("tree" : Str))])])] }
def d_Kind___mul__ : Df := { key := "Kind.__mul__", at_ := .met "Kind" "__mul__", qual := "Kind.__mul__", st := (sub 40 10), ps := ["self", "other"], N := ["self", "other"], F := F_Kind___mul__ }
def F_Kind___contains__ : Fn := { n := 2, ar := 2, dfl := [], body := [
    .ret (.call (.lit (.gl ("value_fits" : Str))) [(.var 1), (.attr (.var 0) ("tree" : Str))])] }
def d_Kind___contains__ : Df := { key := "Kind.__contains__", at_ := .met "Kind" "__contains__", qual := "Kind.__contains__", st := (sub 40 13), ps := ["self", "value"], N := ["self", "value"], F := F_Kind___contains__ }
def F_Kind_takes : Fn := { n := 2, ar := 2, dfl := [], body := [
    .ret (.call (.lit (.gl ("use_fits" : Str))) [(.var 1), (.attr (.var 0) ("tree" : Str))])] }
def d_Kind_takes : Df := { key := "Kind.takes", at_ := .met "Kind" "takes", qual := "Kind.takes", st := (sub 40 14), ps := ["self", "use"], N := ["self", "use"], F := F_Kind_takes }
def F__law_draws : Fn := { n := 5, ar := 1, dfl := [], body := [
    .set 1 (.prim .lst []),
    .for_ (.one 2) (.val (.var 0)) [
      .set 3 (.prim (.b .int) [(.var 2)]),
      .ite (.prim (.cmp .GtE) [(.var 3), (.prim (.bin .Pow) [(.lit (.int 10)), (.lit (.int 18))])]) [
        .for_ (.one 4) (.rng1 (.lit (.int 60))) [
          .ite (.prim (.cmp .Gt) [(.var 3), (.lit (.int 0))]) [
            .expr (.meth (.var 1) ("append" : Str) (some .append) [(.prim (.bin .Mod) [(.prim (.b .int) [(.var 3)]), (.lit (.int 1000))])]),
            .set 3 (.prim (.bin .FloorDiv) [(.var 3), (.lit (.int 1000))])] []]] [
        .set 3 (.prim (.bin .Mod) [(.prim (.b .int) [(.prim (.bin .Mult) [(.var 3), (.lit (.int 48271))])]), (.lit (.int 2147483647))]),
        .for_ (.one 4) (.rng1 (.lit (.int 4))) [
          .set 3 (.prim (.bin .Mod) [(.prim (.b .int) [(.prim (.bin .Mult) [(.var 3), (.lit (.int 69621))])]), (.lit (.int 2147483629))]),
          .expr (.meth (.var 1) ("append" : Str) (some .append) [(.prim (.bin .Mod) [(.prim (.b .int) [(.prim (.bin .FloorDiv) [(.var 3), (.lit (.int 7))])]), (.lit (.int 1000))])])]]],
    .expr (.meth (.var 1) ("reverse" : Str) (some .reverse) []),
    .ret (.var 1)] }
def d__law_draws : Df := { key := "_law_draws", at_ := .glo "_law_draws", qual := "_law_draws", st := (top 42), ps := ["script"], N := ["script", "draws", "cell", "rest", "k"], F := F__law_draws }
def F__law_draw : Fn := { n := 2, ar := 2, dfl := [], body := [
    .ite (.prim (.cmp .Eq) [(.prim (.b .len) [(.var 0)]), (.lit (.int 0))]) [
      .ret (.lit (.int 0))] [],
    .ret (.prim (.bin .Mod) [(.prim (.b .int) [(.meth (.var 0) ("pop" : Str) (some .pop) [])]), (.var 1)])] }
def d__law_draw : Df := { key := "_law_draw", at_ := .glo "_law_draw", qual := "_law_draw", st := (top 43), ps := ["draws", "many"], N := ["draws", "many"], F := F__law_draw }
def F__law_number : Fn := { n := 4, ar := 1, dfl := [], body := [
    .set 1 (.call (.lit (.gl ("_law_draw" : Str))) [(.var 0), (.lit (.int 4))]),
    .ite (.prim (.cmp .Lt) [(.var 1), (.lit (.int 2))]) [
      .ret (.prim (.bin .Sub) [(.call (.lit (.gl ("_law_draw" : Str))) [(.var 0), (.lit (.int 10))]), (.var 1)])] [],
    .set 2 (.lit (.int 0)),
    .for_ (.one 3) (.rng1 (.prim (.bin .Add) [(.lit (.int 1)), (.call (.lit (.gl ("_law_draw" : Str))) [(.var 0), (.lit (.int 20))])])) [
      .set 2 (.prim (.bin .Add) [(.prim (.bin .Mult) [(.var 2), (.lit (.int 1000))]), (.call (.lit (.gl ("_law_draw" : Str))) [(.var 0), (.lit (.int 1000))])])],
    .ite (.prim (.cmp .Eq) [(.var 1), (.lit (.int 2))]) [
      .ret (.var 2)] [],
    .ret (.prim (.bin .Sub) [(.lit (.int 0)), (.var 2)])] }
def d__law_number : Df := { key := "_law_number", at_ := .glo "_law_number", qual := "_law_number", st := (top 44), ps := ["draws"], N := ["draws", "way", "number", "k"], F := F__law_number }
def F__law_same : Fn := { n := 3, ar := 2, dfl := [], body := [
    .ite (.or (.prim (.b .isi) [(.var 1), (.lit (.ty "bool"))]) (.prim (.b .isi) [(.var 0), (.lit (.ty "bool"))])) [
      .ret (.and (.prim (.b .isi) [(.var 1), (.lit (.ty "bool"))]) (.and (.prim (.b .isi) [(.var 0), (.lit (.ty "bool"))]) (.prim (.cmp .Eq) [(.var 0), (.var 1)])))] [],
    .ite (.or (.prim (.cmp .Is) [(.var 1), (.lit .non)]) (.prim (.cmp .Is) [(.var 0), (.lit .non)])) [
      .ret (.and (.prim (.cmp .Is) [(.var 1), (.lit .non)]) (.prim (.cmp .Is) [(.var 0), (.lit .non)]))] [],
    .ite (.prim (.b .isi) [(.var 1), (.lit (.ty "int"))]) [
      .ret (.and (.prim (.b .isi) [(.var 0), (.lit (.ty "int"))]) (.prim (.cmp .Eq) [(.var 0), (.var 1)]))] [],
    .ite (.prim (.b .isi) [(.var 1), (.lit (.ty "str"))]) [
      .ret (.and (.prim (.b .isi) [(.var 0), (.lit (.ty "str"))]) (.prim (.cmp .Eq) [(.var 0), (.var 1)]))] [],
    .ite (.and (.prim (.b .isi) [(.var 1), (.lit (.ty "tuple"))]) (.prim .not [(.prim (.b .isi) [(.var 0), (.lit (.ty "tuple"))])])) [
      .ret (.lit (.bl false))] [],
    .ite (.and (.prim (.b .isi) [(.var 1), (.lit (.ty "list"))]) (.prim .not [(.prim (.b .isi) [(.var 0), (.lit (.ty "list"))])])) [
      .ret (.lit (.bl false))] [],
    .ite (.prim (.cmp .NotEq) [(.prim (.b .len) [(.var 0)]), (.prim (.b .len) [(.var 1)])]) [
      .ret (.lit (.bl false))] [],
    .for_ (.one 2) (.rng1 (.prim (.b .len) [(.var 1)])) [
      .ite (.prim .not [(.call (.lit (.gl ("_law_same" : Str))) [(.prim .ix [(.var 0), (.var 2)]), (.prim .ix [(.var 1), (.var 2)])])]) [
        .ret (.lit (.bl false))] []],
    .ret (.lit (.bl true))] }
def d__law_same : Df := { key := "_law_same", at_ := .glo "_law_same", qual := "_law_same", st := (top 45), ps := ["actual", "due"], N := ["actual", "due", "k"], F := F__law_same }
def F__law_kind : Fn := { n := 5, ar := 2, dfl := [], body := [
    .set 2 (.call (.lit (.gl ("_law_draw" : Str))) [(.var 0), (.lit (.int 9))]),
    .ite (.and (.prim (.cmp .Gt) [(.var 1), (.lit (.int 0))]) (.prim (.cmp .GtE) [(.var 2), (.lit (.int 6))])) [
      .set 3 (.call (.lit (.gl ("_law_kind" : Str))) [(.var 0), (.prim (.bin .Sub) [(.var 1), (.lit (.int 1))])]),
      .set 4 (.call (.lit (.gl ("_law_kind" : Str))) [(.var 0), (.prim (.bin .Sub) [(.var 1), (.lit (.int 1))])]),
      .ite (.prim (.cmp .Eq) [(.var 2), (.lit (.int 8))]) [
        .ret (.prim .tup [(.lit (.str ("pair" : Str))), (.var 3), (.var 4)])] [],
      .ret (.prim .tup [(.lit (.str ("fun" : Str))), (.var 3), (.var 4)])] [],
    .ret (.prim .ix [(.prim .lst [(.lit (.str ("?" : Str))), (.lit (.str ("int" : Str))), (.lit (.str ("bool" : Str))), (.lit (.str ("unit" : Str))), (.lit (.str ("?" : Str))), (.lit (.str ("int" : Str)))]), (.prim (.bin .Mod) [(.var 2), (.lit (.int 6))])])] }
def d__law_kind : Df := { key := "_law_kind", at_ := .glo "_law_kind", qual := "_law_kind", st := (top 46), ps := ["draws", "height"], N := ["draws", "height", "way", "left", "right"], F := F__law_kind }
def F__law_tall : Fn := { n := 5, ar := 1, dfl := [], body := [
    .set 1 (.call (.lit (.gl ("_law_kind" : Str))) [(.var 0), (.lit (.int 0))]),
    .for_ (.one 2) (.rng1 (.call (.lit (.gl ("_law_draw" : Str))) [(.var 0), (.lit (.int 9))])) [
      .set 3 (.call (.lit (.gl ("_law_kind" : Str))) [(.var 0), (.lit (.int 0))]),
      .set 4 (.call (.lit (.gl ("_law_draw" : Str))) [(.var 0), (.lit (.int 4))]),
      .ite (.prim (.cmp .Eq) [(.var 4), (.lit (.int 0))]) [
        .set 1 (.prim .tup [(.lit (.str ("fun" : Str))), (.var 1), (.var 3)])] [
        .ite (.prim (.cmp .Eq) [(.var 4), (.lit (.int 1))]) [
          .set 1 (.prim .tup [(.lit (.str ("fun" : Str))), (.var 3), (.var 1)])] [
          .ite (.prim (.cmp .Eq) [(.var 4), (.lit (.int 2))]) [
            .set 1 (.prim .tup [(.lit (.str ("pair" : Str))), (.var 1), (.var 3)])] [
            .set 1 (.prim .tup [(.lit (.str ("pair" : Str))), (.var 3), (.var 1)])]]]],
    .ret (.var 1)] }
def d__law_tall : Df := { key := "_law_tall", at_ := .glo "_law_tall", qual := "_law_tall", st := (top 47), ps := ["draws"], N := ["draws", "kind", "k", "other", "way"], F := F__law_tall }
def F__law_any_kind : Fn := { n := 1, ar := 1, dfl := [], body := [
    .ite (.prim (.cmp .Eq) [(.call (.lit (.gl ("_law_draw" : Str))) [(.var 0), (.lit (.int 6))]), (.lit (.int 5))]) [
      .ret (.call (.lit (.gl ("_law_tall" : Str))) [(.var 0)])] [],
    .ret (.call (.lit (.gl ("_law_kind" : Str))) [(.var 0), (.lit (.int 3))])] }
def d__law_any_kind : Df := { key := "_law_any_kind", at_ := .glo "_law_any_kind", qual := "_law_any_kind", st := (top 48), ps := ["draws"], N := ["draws"], F := F__law_any_kind }
def F__law_agreeing : Fn := { n := 5, ar := 3, dfl := [], body := [
    .ite (.prim (.cmp .Eq) [(.var 1), (.lit (.str ("?" : Str)))]) [
      .ret (.call (.lit (.gl ("_law_kind" : Str))) [(.var 0), (.var 2)])] [],
    .ite (.prim (.cmp .Eq) [(.call (.lit (.gl ("_law_draw" : Str))) [(.var 0), (.lit (.int 4))]), (.lit (.int 3))]) [
      .ret (.lit (.str ("?" : Str)))] [],
    .ite (.prim (.b .isi) [(.var 1), (.lit (.ty "tuple"))]) [
      .set 3 (.call (.lit (.gl ("_law_agreeing" : Str))) [(.var 0), (.prim .ix [(.var 1), (.lit (.int 1))]), (.prim (.bin .Sub) [(.var 2), (.lit (.int 1))])]),
      .set 4 (.call (.lit (.gl ("_law_agreeing" : Str))) [(.var 0), (.prim .ix [(.var 1), (.lit (.int 2))]), (.prim (.bin .Sub) [(.var 2), (.lit (.int 1))])]),
      .ret (.prim .tup [(.prim .ix [(.var 1), (.lit (.int 0))]), (.var 3), (.var 4)])] [],
    .ret (.var 1)] }
def d__law_agreeing : Df := { key := "_law_agreeing", at_ := .glo "_law_agreeing", qual := "_law_agreeing", st := (top 49), ps := ["draws", "kind", "height"], N := ["draws", "kind", "height", "left", "right"], F := F__law_agreeing }
def F__law_has : Fn := { n := 2, ar := 2, dfl := [], body := [
    .ite (.prim (.b .isi) [(.var 0), (.lit (.ty "tuple"))]) [
      .ret (.prim (.cmp .Eq) [(.prim .ix [(.var 0), (.lit (.int 0))]), (.var 1)])] [],
    .ret (.or (.prim (.cmp .Eq) [(.var 0), (.lit (.str ("?" : Str)))]) (.prim (.cmp .Eq) [(.var 0), (.var 1)]))] }
def d__law_has : Df := { key := "_law_has", at_ := .glo "_law_has", qual := "_law_has", st := (top 50), ps := ["kind", "ground"], N := ["kind", "ground"], F := F__law_has }
def F__law_open : Fn := { n := 2, ar := 2, dfl := [], body := [
    .ite (.prim (.cmp .Eq) [(.var 0), (.lit (.str ("?" : Str)))]) [
      .ret (.prim .tup [(.var 1), (.lit (.str ("?" : Str))), (.lit (.str ("?" : Str)))])] [],
    .ret (.var 0)] }
def d__law_open : Df := { key := "_law_open", at_ := .glo "_law_open", qual := "_law_open", st := (top 51), ps := ["kind", "ground"], N := ["kind", "ground"], F := F__law_open }
def F__law_value : Fn := { n := 7, ar := 3, dfl := [], body := [
    .set 3 (.var 1),
    .ite (.prim (.cmp .Eq) [(.var 1), (.lit (.str ("?" : Str)))]) [
      .set 3 (.prim .ix [(.prim .lst [(.lit (.str ("unit" : Str))), (.lit (.str ("int" : Str))), (.lit (.str ("bool" : Str))), (.lit (.str ("fun" : Str))), (.lit (.str ("pair" : Str)))]), (.call (.lit (.gl ("_law_draw" : Str))) [(.var 0), (.lit (.int 5))])]),
      .ite (.and (.prim (.cmp .LtE) [(.var 2), (.lit (.int 0))]) (.prim (.cmp .In) [(.var 3), (.prim .tup [(.lit (.str ("fun" : Str))), (.lit (.str ("pair" : Str)))])])) [
        .set 3 (.lit (.str ("int" : Str)))] []] [
      .ite (.prim (.b .isi) [(.var 1), (.lit (.ty "tuple"))]) [
        .set 3 (.prim .ix [(.var 1), (.lit (.int 0))])] []],
    .ite (.prim (.cmp .Eq) [(.var 3), (.lit (.str ("int" : Str)))]) [
      .ret (.prim .tup [(.lit (.str ("int" : Str))), (.call (.lit (.gl ("_law_number" : Str))) [(.var 0)])])] [],
    .ite (.prim (.cmp .Eq) [(.var 3), (.lit (.str ("bool" : Str)))]) [
      .ret (.prim .tup [(.lit (.str ("bool" : Str))), (.prim (.cmp .Eq) [(.call (.lit (.gl ("_law_draw" : Str))) [(.var 0), (.lit (.int 2))]), (.lit (.int 1))])])] [],
    .ite (.prim (.cmp .Eq) [(.var 3), (.lit (.str ("unit" : Str)))]) [
      .ret (.prim .tup [(.lit (.str ("unit" : Str)))])] [],
    .set 4 (.call (.lit (.gl ("_law_open" : Str))) [(.var 1), (.var 3)]),
    .ite (.prim (.cmp .Eq) [(.var 3), (.lit (.str ("pair" : Str)))]) [
      .set 5 (.call (.lit (.gl ("_law_value" : Str))) [(.var 0), (.prim .ix [(.var 4), (.lit (.int 1))]), (.prim (.bin .Sub) [(.var 2), (.lit (.int 1))])]),
      .ret (.prim .tup [(.lit (.str ("pair" : Str))), (.var 5), (.call (.lit (.gl ("_law_value" : Str))) [(.var 0), (.prim .ix [(.var 4), (.lit (.int 2))]), (.prim (.bin .Sub) [(.var 2), (.lit (.int 1))])])])] [],
    .set 6 (.call (.lit (.gl ("_law_used" : Str))) [(.var 0), (.prim .ix [(.var 4), (.lit (.int 1))]), (.prim (.bin .Sub) [(.var 2), (.lit (.int 1))])]),
    .ite (.prim (.cmp .Eq) [(.call (.lit (.gl ("_law_draw" : Str))) [(.var 0), (.lit (.int 5))]), (.lit (.int 4))]) [
      .ret (.prim .tup [(.lit (.str ("fun" : Str))), (.var 6), (.prim .tup [(.lit (.str ("stop" : Str))), (.call (.lit (.gl ("_law_number" : Str))) [(.var 0)])])])] [],
    .ret (.prim .tup [(.lit (.str ("fun" : Str))), (.var 6), (.call (.lit (.gl ("_law_value" : Str))) [(.var 0), (.prim .ix [(.var 4), (.lit (.int 2))]), (.prim (.bin .Sub) [(.var 2), (.lit (.int 1))])])])] }
def d__law_value : Df := { key := "_law_value", at_ := .glo "_law_value", qual := "_law_value", st := (top 52), ps := ["draws", "kind", "depth"], N := ["draws", "kind", "depth", "ground", "parts", "left", "use"], F := F__law_value }
def F__law_used : Fn := { n := 7, ar := 3, dfl := [], body := [
    .set 3 (.call (.lit (.gl ("_law_draw" : Str))) [(.var 0), (.lit (.int 4))]),
    .ite (.or (.prim (.cmp .LtE) [(.var 2), (.lit (.int 0))]) (.or (.prim (.cmp .Eq) [(.var 3), (.lit (.int 0))]) (.prim (.cmp .In) [(.var 1), (.prim .tup [(.lit (.str ("int" : Str))), (.lit (.str ("bool" : Str))), (.lit (.str ("unit" : Str)))])]))) [
      .ret (.prim .tup [(.lit (.str ("look" : Str)))])] [],
    .set 4 (.lit (.str ("fun" : Str))),
    .ite (.and (.prim (.cmp .Eq) [(.var 1), (.lit (.str ("?" : Str)))]) (.prim (.cmp .Eq) [(.var 3), (.lit (.int 3))])) [
      .set 4 (.lit (.str ("pair" : Str)))] [],
    .ite (.prim (.b .isi) [(.var 1), (.lit (.ty "tuple"))]) [
      .set 4 (.prim .ix [(.var 1), (.lit (.int 0))])] [],
    .set 5 (.call (.lit (.gl ("_law_open" : Str))) [(.var 1), (.var 4)]),
    .ite (.prim (.cmp .Eq) [(.var 4), (.lit (.str ("fun" : Str)))]) [
      .set 6 (.call (.lit (.gl ("_law_value" : Str))) [(.var 0), (.prim .ix [(.var 5), (.lit (.int 1))]), (.prim (.bin .Sub) [(.var 2), (.lit (.int 1))])]),
      .ret (.prim .tup [(.lit (.str ("call" : Str))), (.var 6), (.call (.lit (.gl ("_law_used" : Str))) [(.var 0), (.prim .ix [(.var 5), (.lit (.int 2))]), (.prim (.bin .Sub) [(.var 2), (.lit (.int 1))])])])] [],
    .ite (.prim (.cmp .Eq) [(.call (.lit (.gl ("_law_draw" : Str))) [(.var 0), (.lit (.int 2))]), (.lit (.int 0))]) [
      .ret (.prim .tup [(.lit (.str ("first" : Str))), (.call (.lit (.gl ("_law_used" : Str))) [(.var 0), (.prim .ix [(.var 5), (.lit (.int 1))]), (.prim (.bin .Sub) [(.var 2), (.lit (.int 1))])])])] [],
    .ret (.prim .tup [(.lit (.str ("second" : Str))), (.call (.lit (.gl ("_law_used" : Str))) [(.var 0), (.prim .ix [(.var 5), (.lit (.int 2))]), (.prim (.bin .Sub) [(.var 2), (.lit (.int 1))])])])] }
def d__law_used : Df := { key := "_law_used", at_ := .glo "_law_used", qual := "_law_used", st := (top 53), ps := ["draws", "kind", "depth"], N := ["draws", "kind", "depth", "way", "ground", "parts", "value"], F := F__law_used }
def F__law_value_fits : Fn := { n := 3, ar := 2, dfl := [], body := [
    .ite (.prim .not [(.call (.lit (.gl ("_law_has" : Str))) [(.var 1), (.prim .ix [(.var 0), (.lit (.int 0))])])]) [
      .ret (.lit (.bl false))] [],
    .ite (.prim (.cmp .In) [(.prim .ix [(.var 0), (.lit (.int 0))]), (.prim .tup [(.lit (.str ("int" : Str))), (.lit (.str ("bool" : Str))), (.lit (.str ("unit" : Str)))])]) [
      .ret (.lit (.bl true))] [],
    .set 2 (.call (.lit (.gl ("_law_open" : Str))) [(.var 1), (.prim .ix [(.var 0), (.lit (.int 0))])]),
    .ite (.prim (.cmp .Eq) [(.prim .ix [(.var 0), (.lit (.int 0))]), (.lit (.str ("pair" : Str)))]) [
      .ret (.and (.call (.lit (.gl ("_law_value_fits" : Str))) [(.prim .ix [(.var 0), (.lit (.int 1))]), (.prim .ix [(.var 2), (.lit (.int 1))])]) (.call (.lit (.gl ("_law_value_fits" : Str))) [(.prim .ix [(.var 0), (.lit (.int 2))]), (.prim .ix [(.var 2), (.lit (.int 2))])]))] [],
    .ite (.prim .not [(.call (.lit (.gl ("_law_use_fits" : Str))) [(.prim .ix [(.var 0), (.lit (.int 1))]), (.prim .ix [(.var 2), (.lit (.int 1))])])]) [
      .ret (.lit (.bl false))] [],
    .ret (.or (.prim (.cmp .Eq) [(.prim .ix [(.prim .ix [(.var 0), (.lit (.int 2))]), (.lit (.int 0))]), (.lit (.str ("stop" : Str)))]) (.call (.lit (.gl ("_law_value_fits" : Str))) [(.prim .ix [(.var 0), (.lit (.int 2))]), (.prim .ix [(.var 2), (.lit (.int 2))])]))] }
def d__law_value_fits : Df := { key := "_law_value_fits", at_ := .glo "_law_value_fits", qual := "_law_value_fits", st := (top 54), ps := ["value", "kind"], N := ["value", "kind", "parts"], F := F__law_value_fits }
def F__law_use_fits : Fn := { n := 4, ar := 2, dfl := [], body := [
    .ite (.prim (.cmp .Eq) [(.prim .ix [(.var 0), (.lit (.int 0))]), (.lit (.str ("look" : Str)))]) [
      .ret (.lit (.bl true))] [],
    .set 2 (.lit (.str ("pair" : Str))),
    .ite (.prim (.cmp .Eq) [(.prim .ix [(.var 0), (.lit (.int 0))]), (.lit (.str ("call" : Str)))]) [
      .set 2 (.lit (.str ("fun" : Str)))] [],
    .ite (.prim .not [(.call (.lit (.gl ("_law_has" : Str))) [(.var 1), (.var 2)])]) [
      .ret (.lit (.bl false))] [],
    .set 3 (.call (.lit (.gl ("_law_open" : Str))) [(.var 1), (.var 2)]),
    .ite (.prim (.cmp .Eq) [(.prim .ix [(.var 0), (.lit (.int 0))]), (.lit (.str ("call" : Str)))]) [
      .ret (.and (.call (.lit (.gl ("_law_value_fits" : Str))) [(.prim .ix [(.var 0), (.lit (.int 1))]), (.prim .ix [(.var 3), (.lit (.int 1))])]) (.call (.lit (.gl ("_law_use_fits" : Str))) [(.prim .ix [(.var 0), (.lit (.int 2))]), (.prim .ix [(.var 3), (.lit (.int 2))])]))] [],
    .ite (.prim (.cmp .Eq) [(.prim .ix [(.var 0), (.lit (.int 0))]), (.lit (.str ("first" : Str)))]) [
      .ret (.call (.lit (.gl ("_law_use_fits" : Str))) [(.prim .ix [(.var 0), (.lit (.int 1))]), (.prim .ix [(.var 3), (.lit (.int 1))])])] [],
    .ret (.call (.lit (.gl ("_law_use_fits" : Str))) [(.prim .ix [(.var 0), (.lit (.int 1))]), (.prim .ix [(.var 3), (.lit (.int 2))])])] }
def d__law_use_fits : Df := { key := "_law_use_fits", at_ := .glo "_law_use_fits", qual := "_law_use_fits", st := (top 55), ps := ["use", "kind"], N := ["use", "kind", "ground", "parts"], F := F__law_use_fits }
def F__law_changed : Fn := { n := 3, ar := 3, dfl := [], body := [
    .ite (.and (.prim (.b .isi) [(.var 1), (.lit (.ty "tuple"))]) (.prim (.cmp .Gt) [(.call (.lit (.gl ("_law_draw" : Str))) [(.var 0), (.lit (.int 3))]), (.lit (.int 0))])) [
      .ite (.prim (.cmp .Eq) [(.call (.lit (.gl ("_law_draw" : Str))) [(.var 0), (.lit (.int 2))]), (.lit (.int 0))]) [
        .ret (.prim .tup [(.prim .ix [(.var 1), (.lit (.int 0))]), (.call (.lit (.gl ("_law_changed" : Str))) [(.var 0), (.prim .ix [(.var 1), (.lit (.int 1))]), (.prim (.bin .Sub) [(.var 2), (.lit (.int 1))])]), (.prim .ix [(.var 1), (.lit (.int 2))])])] [],
      .ret (.prim .tup [(.prim .ix [(.var 1), (.lit (.int 0))]), (.prim .ix [(.var 1), (.lit (.int 1))]), (.call (.lit (.gl ("_law_changed" : Str))) [(.var 0), (.prim .ix [(.var 1), (.lit (.int 2))]), (.prim (.bin .Sub) [(.var 2), (.lit (.int 1))])])])] [],
    .ite (.and (.prim (.b .isi) [(.var 1), (.lit (.ty "tuple"))]) (.prim (.cmp .Eq) [(.call (.lit (.gl ("_law_draw" : Str))) [(.var 0), (.lit (.int 2))]), (.lit (.int 0))])) [
      .ret (.prim .tup [(.prim .ix [(.prim .lst [(.lit (.str ("fun" : Str))), (.lit (.str ("pair" : Str)))]), (.prim (.b .int) [(.prim (.cmp .Eq) [(.prim .ix [(.var 1), (.lit (.int 0))]), (.lit (.str ("fun" : Str)))])])]), (.prim .ix [(.var 1), (.lit (.int 1))]), (.prim .ix [(.var 1), (.lit (.int 2))])])] [],
    .ret (.call (.lit (.gl ("_law_kind" : Str))) [(.var 0), (.prim (.b .min) [(.lit (.int 1)), (.var 2)])])] }
def d__law_changed : Df := { key := "_law_changed", at_ := .glo "_law_changed", qual := "_law_changed", st := (top 56), ps := ["draws", "kind", "room"], N := ["draws", "kind", "room"], F := F__law_changed }
def F_law : Fn := { n := 13, ar := 1, dfl := [], body := [
    .set 1 (.call (.lit (.gl ("_law_draws" : Str))) [(.var 0)]),
    .set 2 (.call (.lit (.gl ("_law_any_kind" : Str))) [(.var 1)]),
    .set 3 (.call (.lit (.gl ("_law_kind" : Str))) [(.var 1), (.lit (.int 2))]),
    .set 4 (.call (.lit (.gl ("_law_kind" : Str))) [(.var 1), (.lit (.int 2))]),
    .set 5 (.call (.lit (.gl ("_law_value" : Str))) [(.var 1), (.var 3), (.lit (.int 2))]),
    .set 6 (.prim .lst [(.call (.lit (.gl ("_law_used" : Str))) [(.var 1), (.var 3), (.lit (.int 2))]), (.call (.lit (.gl ("_law_used" : Str))) [(.var 1), (.var 4), (.lit (.int 2))])]),
    .set 7 (.prim .lst [(.call (.lit (.gl ("_law_used" : Str))) [(.var 1), (.var 2), (.lit (.int 3))]), (.prim .tup [(.lit (.str ("look" : Str)))]), (.prim .tup [(.lit (.str ("call" : Str))), (.var 5), (.prim .ix [(.var 6), (.lit (.int 1))])]), (.prim .tup [(.lit (.str ("call" : Str))), (.var 5), (.prim .ix [(.var 6), (.lit (.int 0))])])]),
    .for_ (.one 8) (.val (.var 6)) [
      .expr (.meth (.var 7) ("append" : Str) (some .append) [(.prim .tup [(.lit (.str ("first" : Str))), (.var 8)])]),
      .expr (.meth (.var 7) ("append" : Str) (some .append) [(.prim .tup [(.lit (.str ("second" : Str))), (.var 8)])])],
    .expr (.meth (.var 7) ("append" : Str) (some .append) [(.prim .tup [(.lit (.str ("first" : Str))), (.prim .tup [(.lit (.str ("call" : Str))), (.var 5), (.prim .ix [(.var 6), (.lit (.int 1))])])])]),
    .expr (.meth (.var 7) ("append" : Str) (some .append) [(.prim .tup [(.lit (.str ("second" : Str))), (.prim .tup [(.lit (.str ("first" : Str))), (.prim .ix [(.var 6), (.lit (.int 0))])])])]),
    .set 7 (.prim (.bin .Add) [(.prim (.bin .Add) [(.var 7), (.var 6)]), (.prim .lst [(.prim .ix [(.var 7), (.lit (.int 0))]), (.prim .ix [(.var 7), (.lit (.int 2))])])]),
    .set 9 (.prim .lst [(.lit (.str ("?" : Str))), (.var 2), (.var 3), (.var 4), (.prim .tup [(.lit (.str ("pair" : Str))), (.var 3), (.var 4)]), (.prim .tup [(.lit (.str ("pair" : Str))), (.var 4), (.var 3)])]),
    .set 9 (.prim (.bin .Add) [(.var 9), (.prim .lst [(.prim .tup [(.lit (.str ("fun" : Str))), (.var 3), (.var 4)]), (.prim .tup [(.lit (.str ("fun" : Str))), (.var 4), (.var 3)])])]),
    .set 9 (.prim (.bin .Add) [(.var 9), (.prim .lst [(.prim .tup [(.lit (.str ("pair" : Str))), (.prim .tup [(.lit (.str ("fun" : Str))), (.var 3), (.var 4)]), (.var 3)]), (.prim .tup [(.lit (.str ("pair" : Str))), (.var 4), (.prim .tup [(.lit (.str ("pair" : Str))), (.var 3), (.var 4)])])])]),
    .for_ (.one 10) (.val (.prim .lst [(.var 2), (.prim .tup [(.lit (.str ("pair" : Str))), (.var 3), (.var 4)]), (.prim .tup [(.lit (.str ("fun" : Str))), (.var 3), (.var 4)]), (.prim .tup [(.lit (.str ("pair" : Str))), (.prim .tup [(.lit (.str ("fun" : Str))), (.var 3), (.lit (.str ("?" : Str)))]), (.prim .tup [(.lit (.str ("pair" : Str))), (.var 3), (.lit (.str ("?" : Str)))])])])) [
      .expr (.meth (.var 9) ("append" : Str) (some .append) [(.call (.lit (.gl ("_law_changed" : Str))) [(.var 1), (.var 10), (.lit (.int 8))])]),
      .expr (.meth (.var 9) ("append" : Str) (some .append) [(.call (.lit (.gl ("_law_agreeing" : Str))) [(.var 1), (.var 10), (.lit (.int 3))])])],
    .set 11 (.lc (.one 10) [10] (.val (.var 9)) [] (.call (.lit (.gl ("Kind" : Str))) [(.var 10)])),
    .for_ (.one 8) (.val (.var 7)) [
      .for_ (.one 12) (.rng1 (.prim (.b .len) [(.var 11)])) [
        .ite (.prim .not [(.call (.lit (.gl ("_law_same" : Str))) [(.meth (.prim .ix [(.var 11), (.var 12)]) ("takes" : Str) none [(.var 8)]), (.call (.lit (.gl ("_law_use_fits" : Str))) [(.var 8), (.prim .ix [(.var 9), (.var 12)])])])]) [
          .ret (.lit (.bl false))] []]],
    .for_ (.one 12) (.rng1 (.prim (.b .len) [(.var 11)])) [
      .ite (.prim .not [(.call (.lit (.gl ("_law_same" : Str))) [(.attr (.prim .ix [(.var 11), (.var 12)]) ("tree" : Str)), (.prim .ix [(.var 9), (.var 12)])])]) [
        .ret (.lit (.bl false))] []],
    .ret (.lit (.bl true))] }
def d_law : Df := { key := "law", at_ := .glo "law", qual := "law", st := (top 57), ps := ["script"], N := ["script", "draws", "tall", "left", "right", "value", "inner", "uses", "use", "trees", "tree", "kinds", "k"], F := F_law }
def tb : Tb := { cs := (([("Kind", [("LIMIT", .con (.int 8)), ("__eq__", .fn "Kind.__eq__"), ("__le__", .fn "Kind.__le__"), ("__lt__", .fn "Kind.__lt__"), ("__mul__", .fn "Kind.__mul__"), ("__contains__", .fn "Kind.__contains__"), ("takes", .fn "Kind.takes"), ("tree", .fld)], some "Kind.__init__")] : List (Str × List (Str × Mk) × Option Str))), fs := ((["kind_height", "has_ground", "opened", "same_shape", "as_precise", "value_fits", "use_fits", "_law_draws", "_law_draw", "_law_number", "_law_same", "_law_kind", "_law_tall", "_law_any_kind", "_law_agreeing", "_law_has"] : List Str) ++ (["_law_open", "_law_value", "_law_used", "_law_value_fits", "_law_use_fits", "_law_changed", "law"] : List Str)), subs := (([("Kind", "Kind")] : List (Str × Str))), gs := (([("kind_height", .fn), ("has_ground", .fn), ("opened", .fn), ("same_shape", .fn), ("as_precise", .fn), ("value_fits", .fn), ("use_fits", .fn), ("_law_draws", .fn), ("_law_draw", .fn), ("_law_number", .fn), ("_law_same", .fn), ("_law_kind", .fn), ("_law_tall", .fn), ("_law_any_kind", .fn), ("_law_agreeing", .fn), ("_law_has", .fn)] : List (Str × Gk)) ++ ([("_law_open", .fn), ("_law_value", .fn), ("_law_used", .fn), ("_law_value_fits", .fn), ("_law_use_fits", .fn), ("_law_changed", .fn), ("Kind", .cls), ("LETTERS", .cst (.str "abcdefghijklmnopqrstuvwxyz")), ("DIGITS", .cst (.str "0123456789")), ("MOST_OPEN", .cst (.int 40)), ("LONGEST_NAME", .cst (.int 8)), ("BASES", .cst (.tup [.str "int", .str "bool", .str "unit"])), ("BASE_VALUES", .dct), ("USED_GROUNDS", .dct), ("int", .bty "int" (some .int)), ("bool", .bty "bool" (some .bool))] : List (Str × Gk)) ++ ([("str", .bty "str" (some .str)), ("list", .bty "list" (none)), ("tuple", .bty "tuple" (none)), ("len", .bfn .len), ("isinstance", .bfn .isi), ("min", .bfn .min), ("range", .rng), ("CastsError", .exc), ("BadText", .exc), ("TooLarge", .exc), ("NoMeet", .exc), ("ValueError", .exb "ValueError")] : List (Str × Gk))), dcs := (([("BASE_VALUES", (([("int", .tup [.str "int", .int 0]), ("bool", .tup [.str "bool", .bl false]), ("unit", .tup [.str "unit"])] : List (Str × D)))), ("USED_GROUNDS", (([("call", .str "fun"), ("first", .str "pair"), ("second", .str "pair")] : List (Str × D))))] : List (Str × List (Str × D)))), exns := (([("TooLarge", [])] : List (Str × List Str))), exs := ([] : List ((Str × Str) × Bool)), ds := (([d_kind_height, d_has_ground, d_opened, d_same_shape, d_as_precise, d_value_fits, d_use_fits, d_Kind___init__, d_Kind___eq__, d_Kind___le__, d_Kind___lt__, d_Kind___mul__, d_Kind___contains__, d_Kind_takes, d__law_draws, d__law_draw] : List Df) ++ ([d__law_number, d__law_same, d__law_kind, d__law_tall, d__law_any_kind, d__law_agreeing, d__law_has, d__law_open, d__law_value, d__law_used, d__law_value_fits, d__law_use_fits, d__law_changed, d_law] : List Df)) }
theorem c_kind_height {X : Exn → HD → Prop} {C : Cal} {h : HD} {Q : D → HD → Prop} {f : HD → (List D → HD → Prop) → Prop} : cal X tb.gi C (.gl "kind_height") f h Q = f h fun ds h => okx X (C "kind_height" ds h) Q := cal_fn (by kernel_rfl) (by kernel_rfl)
theorem r_kind_height (k : Nat) (a0 : D) {h : HD} {X : Exn → HD → Prop} {Q : D → HD → Prop} : okx X (run tb.prog (k + 1) "kind_height" [a0] h) Q = sox (fun x _ h => X x h) (exB tb.gi (run tb.prog k) F_kind_height.body [some a0, none, none, none, none] h) (fun _ h' => RetQ h Q .non h') (fun d h' => RetQ h Q d h') (fun _ _ => False) (fun _ _ => False) := (ok_run (P := tb.prog) (F := F_kind_height) (ds := [a0]) (by kernel_rfl) ⟨(by decide : 1 ≤ 1), (by decide : 1 ≤ 1 + 0)⟩).trans rfl
theorem c_has_ground {X : Exn → HD → Prop} {C : Cal} {h : HD} {Q : D → HD → Prop} {f : HD → (List D → HD → Prop) → Prop} : cal X tb.gi C (.gl "has_ground") f h Q = f h fun ds h => okx X (C "has_ground" ds h) Q := cal_fn (by kernel_rfl) (by kernel_rfl)
theorem r_has_ground (k : Nat) (a0 a1 : D) {h : HD} {X : Exn → HD → Prop} {Q : D → HD → Prop} : okx X (run tb.prog (k + 1) "has_ground" [a0, a1] h) Q = sox (fun x _ h => X x h) (exB tb.gi (run tb.prog k) F_has_ground.body [some a0, some a1] h) (fun _ h' => RetQ h Q .non h') (fun d h' => RetQ h Q d h') (fun _ _ => False) (fun _ _ => False) := (ok_run (P := tb.prog) (F := F_has_ground) (ds := [a0, a1]) (by kernel_rfl) ⟨(by decide : 2 ≤ 2), (by decide : 2 ≤ 2 + 0)⟩).trans rfl
theorem c_opened {X : Exn → HD → Prop} {C : Cal} {h : HD} {Q : D → HD → Prop} {f : HD → (List D → HD → Prop) → Prop} : cal X tb.gi C (.gl "opened") f h Q = f h fun ds h => okx X (C "opened" ds h) Q := cal_fn (by kernel_rfl) (by kernel_rfl)
theorem r_opened (k : Nat) (a0 a1 : D) {h : HD} {X : Exn → HD → Prop} {Q : D → HD → Prop} : okx X (run tb.prog (k + 1) "opened" [a0, a1] h) Q = sox (fun x _ h => X x h) (exB tb.gi (run tb.prog k) F_opened.body [some a0, some a1] h) (fun _ h' => RetQ h Q .non h') (fun d h' => RetQ h Q d h') (fun _ _ => False) (fun _ _ => False) := (ok_run (P := tb.prog) (F := F_opened) (ds := [a0, a1]) (by kernel_rfl) ⟨(by decide : 2 ≤ 2), (by decide : 2 ≤ 2 + 0)⟩).trans rfl
theorem c_same_shape {X : Exn → HD → Prop} {C : Cal} {h : HD} {Q : D → HD → Prop} {f : HD → (List D → HD → Prop) → Prop} : cal X tb.gi C (.gl "same_shape") f h Q = f h fun ds h => okx X (C "same_shape" ds h) Q := cal_fn (by kernel_rfl) (by kernel_rfl)
theorem r_same_shape (k : Nat) (a0 a1 : D) {h : HD} {X : Exn → HD → Prop} {Q : D → HD → Prop} : okx X (run tb.prog (k + 1) "same_shape" [a0, a1] h) Q = sox (fun x _ h => X x h) (exB tb.gi (run tb.prog k) F_same_shape.body [some a0, some a1] h) (fun _ h' => RetQ h Q .non h') (fun d h' => RetQ h Q d h') (fun _ _ => False) (fun _ _ => False) := (ok_run (P := tb.prog) (F := F_same_shape) (ds := [a0, a1]) (by kernel_rfl) ⟨(by decide : 2 ≤ 2), (by decide : 2 ≤ 2 + 0)⟩).trans rfl
theorem c_as_precise {X : Exn → HD → Prop} {C : Cal} {h : HD} {Q : D → HD → Prop} {f : HD → (List D → HD → Prop) → Prop} : cal X tb.gi C (.gl "as_precise") f h Q = f h fun ds h => okx X (C "as_precise" ds h) Q := cal_fn (by kernel_rfl) (by kernel_rfl)
theorem r_as_precise (k : Nat) (a0 a1 : D) {h : HD} {X : Exn → HD → Prop} {Q : D → HD → Prop} : okx X (run tb.prog (k + 1) "as_precise" [a0, a1] h) Q = sox (fun x _ h => X x h) (exB tb.gi (run tb.prog k) F_as_precise.body [some a0, some a1] h) (fun _ h' => RetQ h Q .non h') (fun d h' => RetQ h Q d h') (fun _ _ => False) (fun _ _ => False) := (ok_run (P := tb.prog) (F := F_as_precise) (ds := [a0, a1]) (by kernel_rfl) ⟨(by decide : 2 ≤ 2), (by decide : 2 ≤ 2 + 0)⟩).trans rfl
theorem c_value_fits {X : Exn → HD → Prop} {C : Cal} {h : HD} {Q : D → HD → Prop} {f : HD → (List D → HD → Prop) → Prop} : cal X tb.gi C (.gl "value_fits") f h Q = f h fun ds h => okx X (C "value_fits" ds h) Q := cal_fn (by kernel_rfl) (by kernel_rfl)
theorem r_value_fits (k : Nat) (a0 a1 : D) {h : HD} {X : Exn → HD → Prop} {Q : D → HD → Prop} : okx X (run tb.prog (k + 1) "value_fits" [a0, a1] h) Q = sox (fun x _ h => X x h) (exB tb.gi (run tb.prog k) F_value_fits.body [some a0, some a1, none, none] h) (fun _ h' => RetQ h Q .non h') (fun d h' => RetQ h Q d h') (fun _ _ => False) (fun _ _ => False) := (ok_run (P := tb.prog) (F := F_value_fits) (ds := [a0, a1]) (by kernel_rfl) ⟨(by decide : 2 ≤ 2), (by decide : 2 ≤ 2 + 0)⟩).trans rfl
theorem c_use_fits {X : Exn → HD → Prop} {C : Cal} {h : HD} {Q : D → HD → Prop} {f : HD → (List D → HD → Prop) → Prop} : cal X tb.gi C (.gl "use_fits") f h Q = f h fun ds h => okx X (C "use_fits" ds h) Q := cal_fn (by kernel_rfl) (by kernel_rfl)
theorem r_use_fits (k : Nat) (a0 a1 : D) {h : HD} {X : Exn → HD → Prop} {Q : D → HD → Prop} : okx X (run tb.prog (k + 1) "use_fits" [a0, a1] h) Q = sox (fun x _ h => X x h) (exB tb.gi (run tb.prog k) F_use_fits.body [some a0, some a1, none, none, none] h) (fun _ h' => RetQ h Q .non h') (fun d h' => RetQ h Q d h') (fun _ _ => False) (fun _ _ => False) := (ok_run (P := tb.prog) (F := F_use_fits) (ds := [a0, a1]) (by kernel_rfl) ⟨(by decide : 2 ≤ 2), (by decide : 2 ≤ 2 + 0)⟩).trans rfl
theorem r_Kind___init__ (k : Nat) (a0 a1 : D) {h : HD} {X : Exn → HD → Prop} {Q : D → HD → Prop} : okx X (run tb.prog (k + 1) "Kind.__init__" [a0, a1] h) Q = sox (fun x _ h => X x h) (exB tb.gi (run tb.prog k) F_Kind___init__.body [some a0, some a1] h) (fun _ h' => RetQ h Q .non h') (fun d h' => RetQ h Q d h') (fun _ _ => False) (fun _ _ => False) := (ok_run (P := tb.prog) (F := F_Kind___init__) (ds := [a0, a1]) (by kernel_rfl) ⟨(by decide : 2 ≤ 2), (by decide : 2 ≤ 2 + 0)⟩).trans rfl
theorem r_Kind___eq__ (k : Nat) (a0 a1 : D) {h : HD} {X : Exn → HD → Prop} {Q : D → HD → Prop} : okx X (run tb.prog (k + 1) "Kind.__eq__" [a0, a1] h) Q = sox (fun x _ h => X x h) (exB tb.gi (run tb.prog k) F_Kind___eq__.body [some a0, some a1] h) (fun _ h' => RetQ h Q .non h') (fun d h' => RetQ h Q d h') (fun _ _ => False) (fun _ _ => False) := (ok_run (P := tb.prog) (F := F_Kind___eq__) (ds := [a0, a1]) (by kernel_rfl) ⟨(by decide : 2 ≤ 2), (by decide : 2 ≤ 2 + 0)⟩).trans rfl
theorem r_Kind___le__ (k : Nat) (a0 a1 : D) {h : HD} {X : Exn → HD → Prop} {Q : D → HD → Prop} : okx X (run tb.prog (k + 1) "Kind.__le__" [a0, a1] h) Q = sox (fun x _ h => X x h) (exB tb.gi (run tb.prog k) F_Kind___le__.body [some a0, some a1] h) (fun _ h' => RetQ h Q .non h') (fun d h' => RetQ h Q d h') (fun _ _ => False) (fun _ _ => False) := (ok_run (P := tb.prog) (F := F_Kind___le__) (ds := [a0, a1]) (by kernel_rfl) ⟨(by decide : 2 ≤ 2), (by decide : 2 ≤ 2 + 0)⟩).trans rfl
theorem r_Kind___lt__ (k : Nat) (a0 a1 : D) {h : HD} {X : Exn → HD → Prop} {Q : D → HD → Prop} : okx X (run tb.prog (k + 1) "Kind.__lt__" [a0, a1] h) Q = sox (fun x _ h => X x h) (exB tb.gi (run tb.prog k) F_Kind___lt__.body [some a0, some a1] h) (fun _ h' => RetQ h Q .non h') (fun d h' => RetQ h Q d h') (fun _ _ => False) (fun _ _ => False) := (ok_run (P := tb.prog) (F := F_Kind___lt__) (ds := [a0, a1]) (by kernel_rfl) ⟨(by decide : 2 ≤ 2), (by decide : 2 ≤ 2 + 0)⟩).trans rfl
theorem r_Kind___mul__ (k : Nat) (a0 a1 : D) {h : HD} {X : Exn → HD → Prop} {Q : D → HD → Prop} : okx X (run tb.prog (k + 1) "Kind.__mul__" [a0, a1] h) Q = sox (fun x _ h => X x h) (exB tb.gi (run tb.prog k) F_Kind___mul__.body [some a0, some a1] h) (fun _ h' => RetQ h Q .non h') (fun d h' => RetQ h Q d h') (fun _ _ => False) (fun _ _ => False) := (ok_run (P := tb.prog) (F := F_Kind___mul__) (ds := [a0, a1]) (by kernel_rfl) ⟨(by decide : 2 ≤ 2), (by decide : 2 ≤ 2 + 0)⟩).trans rfl
theorem r_Kind___contains__ (k : Nat) (a0 a1 : D) {h : HD} {X : Exn → HD → Prop} {Q : D → HD → Prop} : okx X (run tb.prog (k + 1) "Kind.__contains__" [a0, a1] h) Q = sox (fun x _ h => X x h) (exB tb.gi (run tb.prog k) F_Kind___contains__.body [some a0, some a1] h) (fun _ h' => RetQ h Q .non h') (fun d h' => RetQ h Q d h') (fun _ _ => False) (fun _ _ => False) := (ok_run (P := tb.prog) (F := F_Kind___contains__) (ds := [a0, a1]) (by kernel_rfl) ⟨(by decide : 2 ≤ 2), (by decide : 2 ≤ 2 + 0)⟩).trans rfl
theorem r_Kind_takes (k : Nat) (a0 a1 : D) {h : HD} {X : Exn → HD → Prop} {Q : D → HD → Prop} : okx X (run tb.prog (k + 1) "Kind.takes" [a0, a1] h) Q = sox (fun x _ h => X x h) (exB tb.gi (run tb.prog k) F_Kind_takes.body [some a0, some a1] h) (fun _ h' => RetQ h Q .non h') (fun d h' => RetQ h Q d h') (fun _ _ => False) (fun _ _ => False) := (ok_run (P := tb.prog) (F := F_Kind_takes) (ds := [a0, a1]) (by kernel_rfl) ⟨(by decide : 2 ≤ 2), (by decide : 2 ≤ 2 + 0)⟩).trans rfl
theorem c__law_draws {X : Exn → HD → Prop} {C : Cal} {h : HD} {Q : D → HD → Prop} {f : HD → (List D → HD → Prop) → Prop} : cal X tb.gi C (.gl "_law_draws") f h Q = f h fun ds h => okx X (C "_law_draws" ds h) Q := cal_fn (by kernel_rfl) (by kernel_rfl)
theorem r__law_draws (k : Nat) (a0 : D) {h : HD} {X : Exn → HD → Prop} {Q : D → HD → Prop} : okx X (run tb.prog (k + 1) "_law_draws" [a0] h) Q = sox (fun x _ h => X x h) (exB tb.gi (run tb.prog k) F__law_draws.body [some a0, none, none, none, none] h) (fun _ h' => RetQ h Q .non h') (fun d h' => RetQ h Q d h') (fun _ _ => False) (fun _ _ => False) := (ok_run (P := tb.prog) (F := F__law_draws) (ds := [a0]) (by kernel_rfl) ⟨(by decide : 1 ≤ 1), (by decide : 1 ≤ 1 + 0)⟩).trans rfl
theorem c__law_draw {X : Exn → HD → Prop} {C : Cal} {h : HD} {Q : D → HD → Prop} {f : HD → (List D → HD → Prop) → Prop} : cal X tb.gi C (.gl "_law_draw") f h Q = f h fun ds h => okx X (C "_law_draw" ds h) Q := cal_fn (by kernel_rfl) (by kernel_rfl)
theorem r__law_draw (k : Nat) (a0 a1 : D) {h : HD} {X : Exn → HD → Prop} {Q : D → HD → Prop} : okx X (run tb.prog (k + 1) "_law_draw" [a0, a1] h) Q = sox (fun x _ h => X x h) (exB tb.gi (run tb.prog k) F__law_draw.body [some a0, some a1] h) (fun _ h' => RetQ h Q .non h') (fun d h' => RetQ h Q d h') (fun _ _ => False) (fun _ _ => False) := (ok_run (P := tb.prog) (F := F__law_draw) (ds := [a0, a1]) (by kernel_rfl) ⟨(by decide : 2 ≤ 2), (by decide : 2 ≤ 2 + 0)⟩).trans rfl
theorem c__law_number {X : Exn → HD → Prop} {C : Cal} {h : HD} {Q : D → HD → Prop} {f : HD → (List D → HD → Prop) → Prop} : cal X tb.gi C (.gl "_law_number") f h Q = f h fun ds h => okx X (C "_law_number" ds h) Q := cal_fn (by kernel_rfl) (by kernel_rfl)
theorem r__law_number (k : Nat) (a0 : D) {h : HD} {X : Exn → HD → Prop} {Q : D → HD → Prop} : okx X (run tb.prog (k + 1) "_law_number" [a0] h) Q = sox (fun x _ h => X x h) (exB tb.gi (run tb.prog k) F__law_number.body [some a0, none, none, none] h) (fun _ h' => RetQ h Q .non h') (fun d h' => RetQ h Q d h') (fun _ _ => False) (fun _ _ => False) := (ok_run (P := tb.prog) (F := F__law_number) (ds := [a0]) (by kernel_rfl) ⟨(by decide : 1 ≤ 1), (by decide : 1 ≤ 1 + 0)⟩).trans rfl
theorem c__law_same {X : Exn → HD → Prop} {C : Cal} {h : HD} {Q : D → HD → Prop} {f : HD → (List D → HD → Prop) → Prop} : cal X tb.gi C (.gl "_law_same") f h Q = f h fun ds h => okx X (C "_law_same" ds h) Q := cal_fn (by kernel_rfl) (by kernel_rfl)
theorem r__law_same (k : Nat) (a0 a1 : D) {h : HD} {X : Exn → HD → Prop} {Q : D → HD → Prop} : okx X (run tb.prog (k + 1) "_law_same" [a0, a1] h) Q = sox (fun x _ h => X x h) (exB tb.gi (run tb.prog k) F__law_same.body [some a0, some a1, none] h) (fun _ h' => RetQ h Q .non h') (fun d h' => RetQ h Q d h') (fun _ _ => False) (fun _ _ => False) := (ok_run (P := tb.prog) (F := F__law_same) (ds := [a0, a1]) (by kernel_rfl) ⟨(by decide : 2 ≤ 2), (by decide : 2 ≤ 2 + 0)⟩).trans rfl
theorem c__law_kind {X : Exn → HD → Prop} {C : Cal} {h : HD} {Q : D → HD → Prop} {f : HD → (List D → HD → Prop) → Prop} : cal X tb.gi C (.gl "_law_kind") f h Q = f h fun ds h => okx X (C "_law_kind" ds h) Q := cal_fn (by kernel_rfl) (by kernel_rfl)
theorem r__law_kind (k : Nat) (a0 a1 : D) {h : HD} {X : Exn → HD → Prop} {Q : D → HD → Prop} : okx X (run tb.prog (k + 1) "_law_kind" [a0, a1] h) Q = sox (fun x _ h => X x h) (exB tb.gi (run tb.prog k) F__law_kind.body [some a0, some a1, none, none, none] h) (fun _ h' => RetQ h Q .non h') (fun d h' => RetQ h Q d h') (fun _ _ => False) (fun _ _ => False) := (ok_run (P := tb.prog) (F := F__law_kind) (ds := [a0, a1]) (by kernel_rfl) ⟨(by decide : 2 ≤ 2), (by decide : 2 ≤ 2 + 0)⟩).trans rfl
theorem c__law_tall {X : Exn → HD → Prop} {C : Cal} {h : HD} {Q : D → HD → Prop} {f : HD → (List D → HD → Prop) → Prop} : cal X tb.gi C (.gl "_law_tall") f h Q = f h fun ds h => okx X (C "_law_tall" ds h) Q := cal_fn (by kernel_rfl) (by kernel_rfl)
theorem r__law_tall (k : Nat) (a0 : D) {h : HD} {X : Exn → HD → Prop} {Q : D → HD → Prop} : okx X (run tb.prog (k + 1) "_law_tall" [a0] h) Q = sox (fun x _ h => X x h) (exB tb.gi (run tb.prog k) F__law_tall.body [some a0, none, none, none, none] h) (fun _ h' => RetQ h Q .non h') (fun d h' => RetQ h Q d h') (fun _ _ => False) (fun _ _ => False) := (ok_run (P := tb.prog) (F := F__law_tall) (ds := [a0]) (by kernel_rfl) ⟨(by decide : 1 ≤ 1), (by decide : 1 ≤ 1 + 0)⟩).trans rfl
theorem c__law_any_kind {X : Exn → HD → Prop} {C : Cal} {h : HD} {Q : D → HD → Prop} {f : HD → (List D → HD → Prop) → Prop} : cal X tb.gi C (.gl "_law_any_kind") f h Q = f h fun ds h => okx X (C "_law_any_kind" ds h) Q := cal_fn (by kernel_rfl) (by kernel_rfl)
theorem r__law_any_kind (k : Nat) (a0 : D) {h : HD} {X : Exn → HD → Prop} {Q : D → HD → Prop} : okx X (run tb.prog (k + 1) "_law_any_kind" [a0] h) Q = sox (fun x _ h => X x h) (exB tb.gi (run tb.prog k) F__law_any_kind.body [some a0] h) (fun _ h' => RetQ h Q .non h') (fun d h' => RetQ h Q d h') (fun _ _ => False) (fun _ _ => False) := (ok_run (P := tb.prog) (F := F__law_any_kind) (ds := [a0]) (by kernel_rfl) ⟨(by decide : 1 ≤ 1), (by decide : 1 ≤ 1 + 0)⟩).trans rfl
theorem c__law_agreeing {X : Exn → HD → Prop} {C : Cal} {h : HD} {Q : D → HD → Prop} {f : HD → (List D → HD → Prop) → Prop} : cal X tb.gi C (.gl "_law_agreeing") f h Q = f h fun ds h => okx X (C "_law_agreeing" ds h) Q := cal_fn (by kernel_rfl) (by kernel_rfl)
theorem r__law_agreeing (k : Nat) (a0 a1 a2 : D) {h : HD} {X : Exn → HD → Prop} {Q : D → HD → Prop} : okx X (run tb.prog (k + 1) "_law_agreeing" [a0, a1, a2] h) Q = sox (fun x _ h => X x h) (exB tb.gi (run tb.prog k) F__law_agreeing.body [some a0, some a1, some a2, none, none] h) (fun _ h' => RetQ h Q .non h') (fun d h' => RetQ h Q d h') (fun _ _ => False) (fun _ _ => False) := (ok_run (P := tb.prog) (F := F__law_agreeing) (ds := [a0, a1, a2]) (by kernel_rfl) ⟨(by decide : 3 ≤ 3), (by decide : 3 ≤ 3 + 0)⟩).trans rfl
theorem c__law_has {X : Exn → HD → Prop} {C : Cal} {h : HD} {Q : D → HD → Prop} {f : HD → (List D → HD → Prop) → Prop} : cal X tb.gi C (.gl "_law_has") f h Q = f h fun ds h => okx X (C "_law_has" ds h) Q := cal_fn (by kernel_rfl) (by kernel_rfl)
theorem r__law_has (k : Nat) (a0 a1 : D) {h : HD} {X : Exn → HD → Prop} {Q : D → HD → Prop} : okx X (run tb.prog (k + 1) "_law_has" [a0, a1] h) Q = sox (fun x _ h => X x h) (exB tb.gi (run tb.prog k) F__law_has.body [some a0, some a1] h) (fun _ h' => RetQ h Q .non h') (fun d h' => RetQ h Q d h') (fun _ _ => False) (fun _ _ => False) := (ok_run (P := tb.prog) (F := F__law_has) (ds := [a0, a1]) (by kernel_rfl) ⟨(by decide : 2 ≤ 2), (by decide : 2 ≤ 2 + 0)⟩).trans rfl
theorem c__law_open {X : Exn → HD → Prop} {C : Cal} {h : HD} {Q : D → HD → Prop} {f : HD → (List D → HD → Prop) → Prop} : cal X tb.gi C (.gl "_law_open") f h Q = f h fun ds h => okx X (C "_law_open" ds h) Q := cal_fn (by kernel_rfl) (by kernel_rfl)
theorem r__law_open (k : Nat) (a0 a1 : D) {h : HD} {X : Exn → HD → Prop} {Q : D → HD → Prop} : okx X (run tb.prog (k + 1) "_law_open" [a0, a1] h) Q = sox (fun x _ h => X x h) (exB tb.gi (run tb.prog k) F__law_open.body [some a0, some a1] h) (fun _ h' => RetQ h Q .non h') (fun d h' => RetQ h Q d h') (fun _ _ => False) (fun _ _ => False) := (ok_run (P := tb.prog) (F := F__law_open) (ds := [a0, a1]) (by kernel_rfl) ⟨(by decide : 2 ≤ 2), (by decide : 2 ≤ 2 + 0)⟩).trans rfl
theorem c__law_value {X : Exn → HD → Prop} {C : Cal} {h : HD} {Q : D → HD → Prop} {f : HD → (List D → HD → Prop) → Prop} : cal X tb.gi C (.gl "_law_value") f h Q = f h fun ds h => okx X (C "_law_value" ds h) Q := cal_fn (by kernel_rfl) (by kernel_rfl)
theorem r__law_value (k : Nat) (a0 a1 a2 : D) {h : HD} {X : Exn → HD → Prop} {Q : D → HD → Prop} : okx X (run tb.prog (k + 1) "_law_value" [a0, a1, a2] h) Q = sox (fun x _ h => X x h) (exB tb.gi (run tb.prog k) F__law_value.body [some a0, some a1, some a2, none, none, none, none] h) (fun _ h' => RetQ h Q .non h') (fun d h' => RetQ h Q d h') (fun _ _ => False) (fun _ _ => False) := (ok_run (P := tb.prog) (F := F__law_value) (ds := [a0, a1, a2]) (by kernel_rfl) ⟨(by decide : 3 ≤ 3), (by decide : 3 ≤ 3 + 0)⟩).trans rfl
theorem c__law_used {X : Exn → HD → Prop} {C : Cal} {h : HD} {Q : D → HD → Prop} {f : HD → (List D → HD → Prop) → Prop} : cal X tb.gi C (.gl "_law_used") f h Q = f h fun ds h => okx X (C "_law_used" ds h) Q := cal_fn (by kernel_rfl) (by kernel_rfl)
theorem r__law_used (k : Nat) (a0 a1 a2 : D) {h : HD} {X : Exn → HD → Prop} {Q : D → HD → Prop} : okx X (run tb.prog (k + 1) "_law_used" [a0, a1, a2] h) Q = sox (fun x _ h => X x h) (exB tb.gi (run tb.prog k) F__law_used.body [some a0, some a1, some a2, none, none, none, none] h) (fun _ h' => RetQ h Q .non h') (fun d h' => RetQ h Q d h') (fun _ _ => False) (fun _ _ => False) := (ok_run (P := tb.prog) (F := F__law_used) (ds := [a0, a1, a2]) (by kernel_rfl) ⟨(by decide : 3 ≤ 3), (by decide : 3 ≤ 3 + 0)⟩).trans rfl
theorem c__law_value_fits {X : Exn → HD → Prop} {C : Cal} {h : HD} {Q : D → HD → Prop} {f : HD → (List D → HD → Prop) → Prop} : cal X tb.gi C (.gl "_law_value_fits") f h Q = f h fun ds h => okx X (C "_law_value_fits" ds h) Q := cal_fn (by kernel_rfl) (by kernel_rfl)
theorem r__law_value_fits (k : Nat) (a0 a1 : D) {h : HD} {X : Exn → HD → Prop} {Q : D → HD → Prop} : okx X (run tb.prog (k + 1) "_law_value_fits" [a0, a1] h) Q = sox (fun x _ h => X x h) (exB tb.gi (run tb.prog k) F__law_value_fits.body [some a0, some a1, none] h) (fun _ h' => RetQ h Q .non h') (fun d h' => RetQ h Q d h') (fun _ _ => False) (fun _ _ => False) := (ok_run (P := tb.prog) (F := F__law_value_fits) (ds := [a0, a1]) (by kernel_rfl) ⟨(by decide : 2 ≤ 2), (by decide : 2 ≤ 2 + 0)⟩).trans rfl
theorem c__law_use_fits {X : Exn → HD → Prop} {C : Cal} {h : HD} {Q : D → HD → Prop} {f : HD → (List D → HD → Prop) → Prop} : cal X tb.gi C (.gl "_law_use_fits") f h Q = f h fun ds h => okx X (C "_law_use_fits" ds h) Q := cal_fn (by kernel_rfl) (by kernel_rfl)
theorem r__law_use_fits (k : Nat) (a0 a1 : D) {h : HD} {X : Exn → HD → Prop} {Q : D → HD → Prop} : okx X (run tb.prog (k + 1) "_law_use_fits" [a0, a1] h) Q = sox (fun x _ h => X x h) (exB tb.gi (run tb.prog k) F__law_use_fits.body [some a0, some a1, none, none] h) (fun _ h' => RetQ h Q .non h') (fun d h' => RetQ h Q d h') (fun _ _ => False) (fun _ _ => False) := (ok_run (P := tb.prog) (F := F__law_use_fits) (ds := [a0, a1]) (by kernel_rfl) ⟨(by decide : 2 ≤ 2), (by decide : 2 ≤ 2 + 0)⟩).trans rfl
theorem c__law_changed {X : Exn → HD → Prop} {C : Cal} {h : HD} {Q : D → HD → Prop} {f : HD → (List D → HD → Prop) → Prop} : cal X tb.gi C (.gl "_law_changed") f h Q = f h fun ds h => okx X (C "_law_changed" ds h) Q := cal_fn (by kernel_rfl) (by kernel_rfl)
theorem r__law_changed (k : Nat) (a0 a1 a2 : D) {h : HD} {X : Exn → HD → Prop} {Q : D → HD → Prop} : okx X (run tb.prog (k + 1) "_law_changed" [a0, a1, a2] h) Q = sox (fun x _ h => X x h) (exB tb.gi (run tb.prog k) F__law_changed.body [some a0, some a1, some a2] h) (fun _ h' => RetQ h Q .non h') (fun d h' => RetQ h Q d h') (fun _ _ => False) (fun _ _ => False) := (ok_run (P := tb.prog) (F := F__law_changed) (ds := [a0, a1, a2]) (by kernel_rfl) ⟨(by decide : 3 ≤ 3), (by decide : 3 ≤ 3 + 0)⟩).trans rfl
theorem c_law {X : Exn → HD → Prop} {C : Cal} {h : HD} {Q : D → HD → Prop} {f : HD → (List D → HD → Prop) → Prop} : cal X tb.gi C (.gl "law") f h Q = f h fun ds h => okx X (C "law" ds h) Q := cal_fn (by kernel_rfl) (by kernel_rfl)
theorem r_law (k : Nat) (a0 : D) {h : HD} {X : Exn → HD → Prop} {Q : D → HD → Prop} : okx X (run tb.prog (k + 1) "law" [a0] h) Q = sox (fun x _ h => X x h) (exB tb.gi (run tb.prog k) F_law.body [some a0, none, none, none, none, none, none, none, none, none, none, none, none] h) (fun _ h' => RetQ h Q .non h') (fun d h' => RetQ h Q d h') (fun _ _ => False) (fun _ _ => False) := (ok_run (P := tb.prog) (F := F_law) (ds := [a0]) (by kernel_rfl) ⟨(by decide : 1 ≤ 1), (by decide : 1 ≤ 1 + 0)⟩).trans rfl
theorem o_Kind : tb.gi.own "Kind" = true := by kernel_rfl
theorem i_Kind : tb.gi.init "Kind" = some "Kind.__init__" := by kernel_rfl
theorem c_Kind {X : Exn → HD → Prop} {C : Cal} {h : HD} {Q : D → HD → Prop} {f : HD → (List D → HD → Prop) → Prop} : cal X tb.gi C (.gl "Kind") f h Q = f h fun ds h => okx X (mkD tb.gi C "Kind" ds h) Q := cal_cls "Kind.__init__" o_Kind i_Kind
theorem a_Kind_LIMIT : tb.gi.at_ "Kind" "LIMIT" = some (.con (.int 8)) := by kernel_rfl
theorem a_Kind___eq__ : tb.gi.at_ "Kind" "__eq__" = some (.fn "Kind.__eq__") := by kernel_rfl
theorem a_Kind___le__ : tb.gi.at_ "Kind" "__le__" = some (.fn "Kind.__le__") := by kernel_rfl
theorem a_Kind___lt__ : tb.gi.at_ "Kind" "__lt__" = some (.fn "Kind.__lt__") := by kernel_rfl
theorem a_Kind___mul__ : tb.gi.at_ "Kind" "__mul__" = some (.fn "Kind.__mul__") := by kernel_rfl
theorem a_Kind___contains__ : tb.gi.at_ "Kind" "__contains__" = some (.fn "Kind.__contains__") := by kernel_rfl
theorem a_Kind_takes : tb.gi.at_ "Kind" "takes" = some (.fn "Kind.takes") := by kernel_rfl
theorem a_Kind_tree : tb.gi.at_ "Kind" "tree" = some (.fld) := by kernel_rfl
theorem x_TooLarge : tb.gi.exn "TooLarge" = some [] := by kernel_rfl
abbrev v_BASE_VALUES : List (Str × D) := (([("int", .tup [.str "int", .int 0]), ("bool", .tup [.str "bool", .bl false]), ("unit", .tup [.str "unit"])] : List (Str × D)))
theorem k_BASE_VALUES : tb.gi.dic "BASE_VALUES" = some v_BASE_VALUES := by kernel_rfl
abbrev v_USED_GROUNDS : List (Str × D) := (([("call", .str "fun"), ("first", .str "pair"), ("second", .str "pair")] : List (Str × D)))
theorem k_USED_GROUNDS : tb.gi.dic "USED_GROUNDS" = some v_USED_GROUNDS := by kernel_rfl
theorem s_kind_height : DfS tb.glob d_kind_height := ⟨⟨by kernel_rfl, by kernel_rfl, by kernel_rfl, by decide +kernel, by kernel_rfl, by decide +kernel, by decide +kernel⟩, by kernel_rfl, rfl, rfl, rfl, fun _ _ _ _ _ _ us hl => match us, hl with | [_], _ => rfl⟩
theorem s_has_ground : DfS tb.glob d_has_ground := ⟨⟨by kernel_rfl, by kernel_rfl, by kernel_rfl, by decide +kernel, by kernel_rfl, by decide +kernel, by decide +kernel⟩, by kernel_rfl, rfl, rfl, rfl, fun _ _ _ _ _ _ us hl => match us, hl with | [_, _], _ => rfl⟩
theorem s_opened : DfS tb.glob d_opened := ⟨⟨by kernel_rfl, by kernel_rfl, by kernel_rfl, by decide +kernel, by kernel_rfl, by decide +kernel, by decide +kernel⟩, by kernel_rfl, rfl, rfl, rfl, fun _ _ _ _ _ _ us hl => match us, hl with | [_, _], _ => rfl⟩
theorem s_same_shape : DfS tb.glob d_same_shape := ⟨⟨by kernel_rfl, by kernel_rfl, by kernel_rfl, by decide +kernel, by kernel_rfl, by decide +kernel, by decide +kernel⟩, by kernel_rfl, rfl, rfl, rfl, fun _ _ _ _ _ _ us hl => match us, hl with | [_, _], _ => rfl⟩
theorem s_as_precise : DfS tb.glob d_as_precise := ⟨⟨by kernel_rfl, by kernel_rfl, by kernel_rfl, by decide +kernel, by kernel_rfl, by decide +kernel, by decide +kernel⟩, by kernel_rfl, rfl, rfl, rfl, fun _ _ _ _ _ _ us hl => match us, hl with | [_, _], _ => rfl⟩
theorem s_value_fits : DfS tb.glob d_value_fits := ⟨⟨by kernel_rfl, by kernel_rfl, by kernel_rfl, by decide +kernel, by kernel_rfl, by decide +kernel, by decide +kernel⟩, by kernel_rfl, rfl, rfl, rfl, fun _ _ _ _ _ _ us hl => match us, hl with | [_, _], _ => rfl⟩
theorem s_use_fits : DfS tb.glob d_use_fits := ⟨⟨by kernel_rfl, by kernel_rfl, by kernel_rfl, by decide +kernel, by kernel_rfl, by decide +kernel, by decide +kernel⟩, by kernel_rfl, rfl, rfl, rfl, fun _ _ _ _ _ _ us hl => match us, hl with | [_, _], _ => rfl⟩
theorem s_Kind___init__ : DfS tb.glob d_Kind___init__ := ⟨⟨by kernel_rfl, by kernel_rfl, by kernel_rfl, by decide +kernel, by kernel_rfl, by decide +kernel, by decide +kernel⟩, by kernel_rfl, rfl, rfl, rfl, fun _ _ _ _ _ _ us hl => match us, hl with | [_, _], _ => rfl⟩
theorem s_Kind___eq__ : DfS tb.glob d_Kind___eq__ := ⟨⟨by kernel_rfl, by kernel_rfl, by kernel_rfl, by decide +kernel, by kernel_rfl, by decide +kernel, by decide +kernel⟩, by kernel_rfl, rfl, rfl, rfl, fun _ _ _ _ _ _ us hl => match us, hl with | [_, _], _ => rfl⟩
theorem s_Kind___le__ : DfS tb.glob d_Kind___le__ := ⟨⟨by kernel_rfl, by kernel_rfl, by kernel_rfl, by decide +kernel, by kernel_rfl, by decide +kernel, by decide +kernel⟩, by kernel_rfl, rfl, rfl, rfl, fun _ _ _ _ _ _ us hl => match us, hl with | [_, _], _ => rfl⟩
theorem s_Kind___lt__ : DfS tb.glob d_Kind___lt__ := ⟨⟨by kernel_rfl, by kernel_rfl, by kernel_rfl, by decide +kernel, by kernel_rfl, by decide +kernel, by decide +kernel⟩, by kernel_rfl, rfl, rfl, rfl, fun _ _ _ _ _ _ us hl => match us, hl with | [_, _], _ => rfl⟩
theorem s_Kind___mul__ : DfS tb.glob d_Kind___mul__ := ⟨⟨by kernel_rfl, by kernel_rfl, by kernel_rfl, by decide +kernel, by kernel_rfl, by decide +kernel, by decide +kernel⟩, by kernel_rfl, rfl, rfl, rfl, fun _ _ _ _ _ _ us hl => match us, hl with | [_, _], _ => rfl⟩
theorem s_Kind___contains__ : DfS tb.glob d_Kind___contains__ := ⟨⟨by kernel_rfl, by kernel_rfl, by kernel_rfl, by decide +kernel, by kernel_rfl, by decide +kernel, by decide +kernel⟩, by kernel_rfl, rfl, rfl, rfl, fun _ _ _ _ _ _ us hl => match us, hl with | [_, _], _ => rfl⟩
theorem s_Kind_takes : DfS tb.glob d_Kind_takes := ⟨⟨by kernel_rfl, by kernel_rfl, by kernel_rfl, by decide +kernel, by kernel_rfl, by decide +kernel, by decide +kernel⟩, by kernel_rfl, rfl, rfl, rfl, fun _ _ _ _ _ _ us hl => match us, hl with | [_, _], _ => rfl⟩
theorem s__law_draws : DfS tb.glob d__law_draws := ⟨⟨by kernel_rfl, by kernel_rfl, by kernel_rfl, by decide +kernel, by kernel_rfl, by decide +kernel, by decide +kernel⟩, by kernel_rfl, rfl, rfl, rfl, fun _ _ _ _ _ _ us hl => match us, hl with | [_], _ => rfl⟩
theorem s__law_draw : DfS tb.glob d__law_draw := ⟨⟨by kernel_rfl, by kernel_rfl, by kernel_rfl, by decide +kernel, by kernel_rfl, by decide +kernel, by decide +kernel⟩, by kernel_rfl, rfl, rfl, rfl, fun _ _ _ _ _ _ us hl => match us, hl with | [_, _], _ => rfl⟩
theorem s__law_number : DfS tb.glob d__law_number := ⟨⟨by kernel_rfl, by kernel_rfl, by kernel_rfl, by decide +kernel, by kernel_rfl, by decide +kernel, by decide +kernel⟩, by kernel_rfl, rfl, rfl, rfl, fun _ _ _ _ _ _ us hl => match us, hl with | [_], _ => rfl⟩
theorem s__law_same : DfS tb.glob d__law_same := ⟨⟨by kernel_rfl, by kernel_rfl, by kernel_rfl, by decide +kernel, by kernel_rfl, by decide +kernel, by decide +kernel⟩, by kernel_rfl, rfl, rfl, rfl, fun _ _ _ _ _ _ us hl => match us, hl with | [_, _], _ => rfl⟩
theorem s__law_kind : DfS tb.glob d__law_kind := ⟨⟨by kernel_rfl, by kernel_rfl, by kernel_rfl, by decide +kernel, by kernel_rfl, by decide +kernel, by decide +kernel⟩, by kernel_rfl, rfl, rfl, rfl, fun _ _ _ _ _ _ us hl => match us, hl with | [_, _], _ => rfl⟩
theorem s__law_tall : DfS tb.glob d__law_tall := ⟨⟨by kernel_rfl, by kernel_rfl, by kernel_rfl, by decide +kernel, by kernel_rfl, by decide +kernel, by decide +kernel⟩, by kernel_rfl, rfl, rfl, rfl, fun _ _ _ _ _ _ us hl => match us, hl with | [_], _ => rfl⟩
theorem s__law_any_kind : DfS tb.glob d__law_any_kind := ⟨⟨by kernel_rfl, by kernel_rfl, by kernel_rfl, by decide +kernel, by kernel_rfl, by decide +kernel, by decide +kernel⟩, by kernel_rfl, rfl, rfl, rfl, fun _ _ _ _ _ _ us hl => match us, hl with | [_], _ => rfl⟩
theorem s__law_agreeing : DfS tb.glob d__law_agreeing := ⟨⟨by kernel_rfl, by kernel_rfl, by kernel_rfl, by decide +kernel, by kernel_rfl, by decide +kernel, by decide +kernel⟩, by kernel_rfl, rfl, rfl, rfl, fun _ _ _ _ _ _ us hl => match us, hl with | [_, _, _], _ => rfl⟩
theorem s__law_has : DfS tb.glob d__law_has := ⟨⟨by kernel_rfl, by kernel_rfl, by kernel_rfl, by decide +kernel, by kernel_rfl, by decide +kernel, by decide +kernel⟩, by kernel_rfl, rfl, rfl, rfl, fun _ _ _ _ _ _ us hl => match us, hl with | [_, _], _ => rfl⟩
theorem s__law_open : DfS tb.glob d__law_open := ⟨⟨by kernel_rfl, by kernel_rfl, by kernel_rfl, by decide +kernel, by kernel_rfl, by decide +kernel, by decide +kernel⟩, by kernel_rfl, rfl, rfl, rfl, fun _ _ _ _ _ _ us hl => match us, hl with | [_, _], _ => rfl⟩
theorem s__law_value : DfS tb.glob d__law_value := ⟨⟨by kernel_rfl, by kernel_rfl, by kernel_rfl, by decide +kernel, by kernel_rfl, by decide +kernel, by decide +kernel⟩, by kernel_rfl, rfl, rfl, rfl, fun _ _ _ _ _ _ us hl => match us, hl with | [_, _, _], _ => rfl⟩
theorem s__law_used : DfS tb.glob d__law_used := ⟨⟨by kernel_rfl, by kernel_rfl, by kernel_rfl, by decide +kernel, by kernel_rfl, by decide +kernel, by decide +kernel⟩, by kernel_rfl, rfl, rfl, rfl, fun _ _ _ _ _ _ us hl => match us, hl with | [_, _, _], _ => rfl⟩
theorem s__law_value_fits : DfS tb.glob d__law_value_fits := ⟨⟨by kernel_rfl, by kernel_rfl, by kernel_rfl, by decide +kernel, by kernel_rfl, by decide +kernel, by decide +kernel⟩, by kernel_rfl, rfl, rfl, rfl, fun _ _ _ _ _ _ us hl => match us, hl with | [_, _], _ => rfl⟩
theorem s__law_use_fits : DfS tb.glob d__law_use_fits := ⟨⟨by kernel_rfl, by kernel_rfl, by kernel_rfl, by decide +kernel, by kernel_rfl, by decide +kernel, by decide +kernel⟩, by kernel_rfl, rfl, rfl, rfl, fun _ _ _ _ _ _ us hl => match us, hl with | [_, _], _ => rfl⟩
theorem s__law_changed : DfS tb.glob d__law_changed := ⟨⟨by kernel_rfl, by kernel_rfl, by kernel_rfl, by decide +kernel, by kernel_rfl, by decide +kernel, by decide +kernel⟩, by kernel_rfl, rfl, rfl, rfl, fun _ _ _ _ _ _ us hl => match us, hl with | [_, _, _], _ => rfl⟩
theorem s_law : DfS tb.glob d_law := ⟨⟨by kernel_rfl, by kernel_rfl, by kernel_rfl, by decide +kernel, by kernel_rfl, by decide +kernel, by decide +kernel⟩, by kernel_rfl, rfl, rfl, rfl, fun _ _ _ _ _ _ us hl => match us, hl with | [_], _ => rfl⟩
theorem ds : ∀ d ∈ tb.ds, DfS tb.glob d := by
  intro d hd
  simp only [tb, List.mem_append, List.mem_cons, List.not_mem_nil, or_false, or_assoc] at hd
  rcases hd with rfl | rfl | rfl | rfl | rfl | rfl | rfl | rfl | rfl | rfl | rfl | rfl | rfl | rfl | rfl | rfl | rfl | rfl | rfl | rfl | rfl | rfl | rfl | rfl | rfl | rfl | rfl | rfl | rfl | rfl
  · exact s_kind_height
  · exact s_has_ground
  · exact s_opened
  · exact s_same_shape
  · exact s_as_precise
  · exact s_value_fits
  · exact s_use_fits
  · exact s_Kind___init__
  · exact s_Kind___eq__
  · exact s_Kind___le__
  · exact s_Kind___lt__
  · exact s_Kind___mul__
  · exact s_Kind___contains__
  · exact s_Kind_takes
  · exact s__law_draws
  · exact s__law_draw
  · exact s__law_number
  · exact s__law_same
  · exact s__law_kind
  · exact s__law_tall
  · exact s__law_any_kind
  · exact s__law_agreeing
  · exact s__law_has
  · exact s__law_open
  · exact s__law_value
  · exact s__law_used
  · exact s__law_value_fits
  · exact s__law_use_fits
  · exact s__law_changed
  · exact s_law
abbrev Rzz : PySem.W.OpenRow := PySem.W.OpenLaw.row PySem.Challenge.rw_castmiddles_k25_uses_that_fit
abbrev qvz : Program := PySem.W.view Rzz.prog [57]
def names0 : List Str := ((["_wall", "CastsError", "BadText", "TooLarge", "NoMeet", "LETTERS", "DIGITS", "MOST_OPEN", "LONGEST_NAME", "check_brackets", "consists_of", "is_label_name", "is_label", "run_end", "word_at", "split_words"] : List Str) ++ (["BASES", "read_atom", "read_product", "read_arrows", "read_kind_tree", "bracketed", "show_kind", "kind_height", "has_ground", "opened", "same_shape", "as_precise", "meet", "join"] : List Str))
def names1 : List Str := ((["BASE_VALUES", "USED_GROUNDS", "value_fits", "use_fits", "Kind", "_law_draws", "_law_draw", "_law_number", "_law_same", "_law_kind", "_law_tall", "_law_any_kind", "_law_agreeing", "_law_has", "_law_open", "_law_value"] : List Str) ++ (["_law_used", "_law_value_fits", "_law_use_fits", "_law_changed"] : List Str))
def namesz : List Str := names0 ++ names1
abbrev hkz : PySem.W.Hook := hookM 6 tb
def obz (s : PySem.W.SharedT) : AlM := obsMG 6 tb (HandSHeadRun.getT s)
theorem obz_eq (s : PySem.W.SharedT) : obz s = hkz.obs s.abs := obsMG_eq (HandSHeadRun.getT_eq s)
theorem hrunF (w : World) : HandSHeadRun.RunEq Rzz qvz hkz obz 9000 namesz (w.withFollow "special-get-raises" false) := by
  intro os
  kernel_rfl
theorem hrunT (w : World) : HandSHeadRun.RunEq Rzz qvz hkz obz 9000 namesz (w.withFollow "special-get-raises" true) := by
  intro os
  kernel_rfl
theorem hrun (w : World) : HandSHeadRun.RunEq Rzz qvz hkz obz 9000 namesz w := PySem.W.byRow2 "special-get-raises" (P := fun w => HandSHeadRun.RunEq Rzz qvz hkz obz 9000 namesz w) hrunF hrunT w
end Lk25
set_option Elab.async false
set_option linter.all false
set_option maxRecDepth 100000
set_option maxHeartbeats 2000000
namespace Lk25
open PySem Mp
/-! ### draws -/
abbrev li (ds : List Int) : O := .lst (ds.map .int)
theorem snoc_of {α : Type} (l : List α) : l = [] ∨ ∃ r x, l = r ++ [x] := by
  cases h : l.reverse with
  | nil => exact .inl (List.reverse_eq_nil_iff.mp h)
  | cons x r => exact .inr ⟨r.reverse, x, by rw [← List.reverse_reverse l, h, List.reverse_cons]⟩
theorem draw (k : Nat) (ds : List Int) (t : HD) (m : Int) (hm : 0 < m) {Q : D → HD → Prop} (q : ∀ r ds', 0 ≤ r → r < m → Q (.int r) (li ds' :: t)) : okx (fun _ _ => False) (run tb.prog (k + 1) "_law_draw" [.ref 0, .int m] (li ds :: t)) Q := by
  have e : (li ds :: t)[0]? = some (.lst (ds.map .int)) := rfl
  simp only [r__law_draw, F__law_draw, ok_ok, ok_noex, ok_var, ok_lit, ok_prim, ok_nil, ok_cons, ok_call, ok_and, ok_or, ok_iteE, ok_chain, ok_meth, ok_attr, ok_join, ok_jnil, ok_jcons, p_not, p_add, p_sub, p_adds, p_muls, p_mulr, p_fdiv, p_mod, p_pow, p_eqi, p_eqs, p_eqb, p_nei, p_nes, p_neb, p_lt, p_le, p_gt, p_ge, p_is, p_isnot, p_lens, p_lent, p_lenk, p_int, p_bool, p_min, p_max, p_tup, p_lst, p_fmts, p_ixt, p_ixs, p_slse, p_slsu, p_isity, p_isigl, bm_rm, bm_st, tr_bl, tr_non, tr_int, tr_tup, tr_kls, tr_str, Mp.isNon, List.getElem?_cons_zero, List.getElem?_cons_succ, List.set_cons_zero, List.set_cons_succ, ity_non, ity_bl, ity_int, ity_str, ity_tup, ity_kls, kb_NoneType_NoneType, kb_NoneType_bool, kb_NoneType_int, kb_NoneType_str, kb_NoneType_tuple, kb_NoneType_list, kb_bool_NoneType, kb_bool_bool, kb_bool_int, kb_bool_str, kb_bool_tuple, kb_bool_list, kb_int_NoneType, kb_int_bool, kb_int_int, kb_int_str, kb_int_tuple, kb_int_list, kb_str_NoneType, kb_str_bool, kb_str_int, kb_str_str, kb_str_tuple, kb_str_list, kb_tuple_NoneType, kb_tuple_bool, kb_tuple_int, kb_tuple_str, kb_tuple_tuple, kb_tuple_list, kb_list_NoneType, kb_list_bool, kb_list_int, kb_list_str, kb_list_tuple, kb_list_list, c_kind_height, c_has_ground, c_opened, c_same_shape, c_as_precise, c_value_fits, c_use_fits, c__law_draws, c__law_draw, c__law_number, c__law_same, c__law_kind, c__law_tall, c__law_any_kind, c__law_agreeing, c__law_has, c__law_open, c__law_value, c__law_used, c__law_value_fits, c__law_use_fits, c__law_changed, c_law, c_Kind, so_seq, so_nil, so_set, so_expr, so_ret, so_retN, so_pass, so_brk, so_cnt, so_never, so_raise, so_try, so_ite, ret_bl, ret_int, ret_str, ret_non, p_lenl e, List.length_map]
  rcases snoc_of ds with rfl | ⟨r, x, rfl⟩
  · exact q 0 [] (Int.le_refl 0) hm
  · have e2 : (li (r ++ [x]) :: t)[0]? = some (.lst (r.map .int ++ [.int x])) := by simp
    have hne : ¬ ((((r ++ [x]).length : Nat) : Int) = 0) := by simp; omega
    have bt : bmTy .pop (.ref 0) (li (r ++ [x]) :: t) = true := rfl
    simp only [hne, decide_false, Bool.false_eq_true, if_false, mth_lst e2 bt, ok_ok, ok_noex, ok_var, ok_lit, ok_prim, ok_nil, ok_cons, ok_call, ok_and, ok_or, ok_iteE, ok_chain, ok_meth, ok_attr, ok_join, ok_jnil, ok_jcons, p_not, p_add, p_sub, p_adds, p_muls, p_mulr, p_fdiv, p_mod, p_pow, p_eqi, p_eqs, p_eqb, p_nei, p_nes, p_neb, p_lt, p_le, p_gt, p_ge, p_is, p_isnot, p_lens, p_lent, p_lenk, p_int, p_bool, p_min, p_max, p_tup, p_lst, p_fmts, p_ixt, p_ixs, p_slse, p_slsu, p_isity, p_isigl, bm_rm, bm_st, tr_bl, tr_non, tr_int, tr_tup, tr_kls, tr_str, Mp.isNon, List.getElem?_cons_zero, List.getElem?_cons_succ, List.set_cons_zero, List.set_cons_succ, ity_non, ity_bl, ity_int, ity_str, ity_tup, ity_kls, kb_NoneType_NoneType, kb_NoneType_bool, kb_NoneType_int, kb_NoneType_str, kb_NoneType_tuple, kb_NoneType_list, kb_bool_NoneType, kb_bool_bool, kb_bool_int, kb_bool_str, kb_bool_tuple, kb_bool_list, kb_int_NoneType, kb_int_bool, kb_int_int, kb_int_str, kb_int_tuple, kb_int_list, kb_str_NoneType, kb_str_bool, kb_str_int, kb_str_str, kb_str_tuple, kb_str_list, kb_tuple_NoneType, kb_tuple_bool, kb_tuple_int, kb_tuple_str, kb_tuple_tuple, kb_tuple_list, kb_list_NoneType, kb_list_bool, kb_list_int, kb_list_str, kb_list_tuple, kb_list_list, c_kind_height, c_has_ground, c_opened, c_same_shape, c_as_precise, c_value_fits, c_use_fits, c__law_draws, c__law_draw, c__law_number, c__law_same, c__law_kind, c__law_tall, c__law_any_kind, c__law_agreeing, c__law_has, c__law_open, c__law_value, c__law_used, c__law_value_fits, c__law_use_fits, c__law_changed, c_law, c_Kind, so_seq, so_nil, so_set, so_expr, so_ret, so_retN, so_pass, so_brk, so_cnt, so_never, so_raise, so_try, so_ite, ret_bl, ret_int, ret_str, ret_non, bm_pop e2]
    rw [p_mod _ _ (by omega)]
    have g : gc (.int (x.fmod m)) (li (r ++ [x]) :: t) (li r :: t) = li r :: t := gc_set (i := 0) (o := li r) rfl (by simp) (cls_ints _ r) (by simp) (fun j _ => rfl)
    show Q _ (gc (.int (x.fmod m)) (li (r ++ [x]) :: t) (li r :: t))
    rw [g]
    exact q _ r (Int.fmod_nonneg_of_pos _ hm) (Int.fmod_lt_of_pos _ hm)
theorem ret_li {ds ds' : List Int} {t : HD} {d : D} {Q : D → HD → Prop} (c : d.cl (t.length + 1) = true) : RetQ (li ds :: t) Q d (li ds' :: t) = Q d (li ds' :: t) := by
  have g : gc d (li ds :: t) (li ds' :: t) = li ds' :: t := gc_set (i := 0) (o := li ds') c (by simp) (cls_ints _ _) (by simp) (fun j _ => rfl)
  unfold RetQ
  rw [g]
theorem app_li (ds : List Int) (x : Int) : ds.map D.int ++ [.int x] = (ds ++ [x]).map D.int := by simp
theorem rev_li (ds : List Int) : (ds.map D.int).reverse = ds.reverse.map D.int := by simp
theorem at_li (ds : List Int) (t : HD) : (li ds :: t)[0]? = some (.lst (ds.map .int)) := rfl
theorem draws (k : Nat) (ns : List Int) (hn : ns.length ≤ 63) {Q : D → HD → Prop} (q : ∀ ds, Q (.ref 0) [li ds]) : okx (fun _ _ => False) (run tb.prog (k + 1) "_law_draws" [.kls (ns.map .int)] []) Q := by
  simp only [r__law_draws, F__law_draws, so_for, ok_itval, wkVal, ok_ok, ok_noex, ok_var, ok_lit, ok_prim, ok_nil, ok_cons, ok_call, ok_and, ok_or, ok_iteE, ok_chain, ok_meth, ok_attr, ok_join, ok_jnil, ok_jcons, p_not, p_add, p_sub, p_adds, p_muls, p_mulr, p_fdiv, p_mod, p_pow, p_eqi, p_eqs, p_eqb, p_nei, p_nes, p_neb, p_lt, p_le, p_gt, p_ge, p_is, p_isnot, p_lens, p_lent, p_lenk, p_int, p_bool, p_min, p_max, p_tup, p_lst, p_fmts, p_ixt, p_ixs, p_slse, p_slsu, p_isity, p_isigl, bm_rm, bm_st, tr_bl, tr_non, tr_int, tr_tup, tr_kls, tr_str, Mp.isNon, List.getElem?_cons_zero, List.getElem?_cons_succ, List.set_cons_zero, List.set_cons_succ, ity_non, ity_bl, ity_int, ity_str, ity_tup, ity_kls, kb_NoneType_NoneType, kb_NoneType_bool, kb_NoneType_int, kb_NoneType_str, kb_NoneType_tuple, kb_NoneType_list, kb_bool_NoneType, kb_bool_bool, kb_bool_int, kb_bool_str, kb_bool_tuple, kb_bool_list, kb_int_NoneType, kb_int_bool, kb_int_int, kb_int_str, kb_int_tuple, kb_int_list, kb_str_NoneType, kb_str_bool, kb_str_int, kb_str_str, kb_str_tuple, kb_str_list, kb_tuple_NoneType, kb_tuple_bool, kb_tuple_int, kb_tuple_str, kb_tuple_tuple, kb_tuple_list, kb_list_NoneType, kb_list_bool, kb_list_int, kb_list_str, kb_list_tuple, kb_list_list, c_kind_height, c_has_ground, c_opened, c_same_shape, c_as_precise, c_value_fits, c_use_fits, c__law_draws, c__law_draw, c__law_number, c__law_same, c__law_kind, c__law_tall, c__law_any_kind, c__law_agreeing, c__law_has, c__law_open, c__law_value, c__law_used, c__law_value_fits, c__law_use_fits, c__law_changed, c_law, c_Kind, so_seq, so_nil, so_set, so_expr, so_ret, so_retN, so_pass, so_brk, so_cnt, so_never, so_raise, so_try, so_ite, ret_bl, ret_int, ret_str, ret_non]
  refine ⟨by decide, ?_⟩
  refine for_at (t := .one 2) (I := fun i v h => ∃ ds a b c, v = [some (.kls (ns.map .int)), some (.ref 0), a, b, c] ∧ h = [li ds] ∧ ds.length ≤ 60 * i) ?_ ?_ ?_
  · rintro i d v h hd ⟨ds, a, b, c, rfl, rfl, hl⟩
    obtain ⟨n, hin, rfl⟩ : ∃ n, i < ns.length ∧ d = .int n := by
      rw [List.getElem?_map] at hd
      cases e : ns[i]? with
      | none => rw [e] at hd; cases hd
      | some n => rw [e] at hd; cases hd; exact ⟨n, (List.getElem?_eq_some_iff.mp e).1, rfl⟩
    have hcap : 60 * i + 60 < cap := Nat.lt_of_le_of_lt (show 60 * i + 60 ≤ 60 * 63 by omega) (by decide)
    simp only [tgt, ok_ok, ok_noex, ok_var, ok_lit, ok_prim, ok_nil, ok_cons, ok_call, ok_and, ok_or, ok_iteE, ok_chain, ok_meth, ok_attr, ok_join, ok_jnil, ok_jcons, p_not, p_add, p_sub, p_adds, p_muls, p_mulr, p_fdiv, p_mod, p_pow, p_eqi, p_eqs, p_eqb, p_nei, p_nes, p_neb, p_lt, p_le, p_gt, p_ge, p_is, p_isnot, p_lens, p_lent, p_lenk, p_int, p_bool, p_min, p_max, p_tup, p_lst, p_fmts, p_ixt, p_ixs, p_slse, p_slsu, p_isity, p_isigl, bm_rm, bm_st, tr_bl, tr_non, tr_int, tr_tup, tr_kls, tr_str, Mp.isNon, List.getElem?_cons_zero, List.getElem?_cons_succ, List.set_cons_zero, List.set_cons_succ, ity_non, ity_bl, ity_int, ity_str, ity_tup, ity_kls, kb_NoneType_NoneType, kb_NoneType_bool, kb_NoneType_int, kb_NoneType_str, kb_NoneType_tuple, kb_NoneType_list, kb_bool_NoneType, kb_bool_bool, kb_bool_int, kb_bool_str, kb_bool_tuple, kb_bool_list, kb_int_NoneType, kb_int_bool, kb_int_int, kb_int_str, kb_int_tuple, kb_int_list, kb_str_NoneType, kb_str_bool, kb_str_int, kb_str_str, kb_str_tuple, kb_str_list, kb_tuple_NoneType, kb_tuple_bool, kb_tuple_int, kb_tuple_str, kb_tuple_tuple, kb_tuple_list, kb_list_NoneType, kb_list_bool, kb_list_int, kb_list_str, kb_list_tuple, kb_list_list, c_kind_height, c_has_ground, c_opened, c_same_shape, c_as_precise, c_value_fits, c_use_fits, c__law_draws, c__law_draw, c__law_number, c__law_same, c__law_kind, c__law_tall, c__law_any_kind, c__law_agreeing, c__law_has, c__law_open, c__law_value, c__law_used, c__law_value_fits, c__law_use_fits, c__law_changed, c_law, c_Kind, so_seq, so_nil, so_set, so_expr, so_ret, so_retN, so_pass, so_brk, so_cnt, so_never, so_raise, so_try, so_ite, ret_bl, ret_int, ret_str, ret_non]
    rw [p_pow _ _ (by decide)]
    simp only [ok_ok, ok_noex, ok_var, ok_lit, ok_prim, ok_nil, ok_cons, ok_call, ok_and, ok_or, ok_iteE, ok_chain, ok_meth, ok_attr, ok_join, ok_jnil, ok_jcons, p_not, p_add, p_sub, p_adds, p_muls, p_mulr, p_fdiv, p_mod, p_pow, p_eqi, p_eqs, p_eqb, p_nei, p_nes, p_neb, p_lt, p_le, p_gt, p_ge, p_is, p_isnot, p_lens, p_lent, p_lenk, p_int, p_bool, p_min, p_max, p_tup, p_lst, p_fmts, p_ixt, p_ixs, p_slse, p_slsu, p_isity, p_isigl, bm_rm, bm_st, tr_bl, tr_non, tr_int, tr_tup, tr_kls, tr_str, Mp.isNon, List.getElem?_cons_zero, List.getElem?_cons_succ, List.set_cons_zero, List.set_cons_succ, ity_non, ity_bl, ity_int, ity_str, ity_tup, ity_kls, kb_NoneType_NoneType, kb_NoneType_bool, kb_NoneType_int, kb_NoneType_str, kb_NoneType_tuple, kb_NoneType_list, kb_bool_NoneType, kb_bool_bool, kb_bool_int, kb_bool_str, kb_bool_tuple, kb_bool_list, kb_int_NoneType, kb_int_bool, kb_int_int, kb_int_str, kb_int_tuple, kb_int_list, kb_str_NoneType, kb_str_bool, kb_str_int, kb_str_str, kb_str_tuple, kb_str_list, kb_tuple_NoneType, kb_tuple_bool, kb_tuple_int, kb_tuple_str, kb_tuple_tuple, kb_tuple_list, kb_list_NoneType, kb_list_bool, kb_list_int, kb_list_str, kb_list_tuple, kb_list_list, c_kind_height, c_has_ground, c_opened, c_same_shape, c_as_precise, c_value_fits, c_use_fits, c__law_draws, c__law_draw, c__law_number, c__law_same, c__law_kind, c__law_tall, c__law_any_kind, c__law_agreeing, c__law_has, c__law_open, c__law_value, c__law_used, c__law_value_fits, c__law_use_fits, c__law_changed, c_law, c_Kind, so_seq, so_nil, so_set, so_expr, so_ret, so_retN, so_pass, so_brk, so_cnt, so_never, so_raise, so_try, so_ite, ret_bl, ret_int, ret_str, ret_non]
    by_cases hr : (10 : Int) ^ (18 : Int).toNat ≤ n
    · simp only [hr, decide_true, if_true, so_for, ok_itrng1, ok_ok, ok_noex, ok_var, ok_lit, ok_prim, ok_nil, ok_cons, ok_call, ok_and, ok_or, ok_iteE, ok_chain, ok_meth, ok_attr, ok_join, ok_jnil, ok_jcons, p_not, p_add, p_sub, p_adds, p_muls, p_mulr, p_fdiv, p_mod, p_pow, p_eqi, p_eqs, p_eqb, p_nei, p_nes, p_neb, p_lt, p_le, p_gt, p_ge, p_is, p_isnot, p_lens, p_lent, p_lenk, p_int, p_bool, p_min, p_max, p_tup, p_lst, p_fmts, p_ixt, p_ixs, p_slse, p_slsu, p_isity, p_isigl, bm_rm, bm_st, tr_bl, tr_non, tr_int, tr_tup, tr_kls, tr_str, Mp.isNon, List.getElem?_cons_zero, List.getElem?_cons_succ, List.set_cons_zero, List.set_cons_succ, ity_non, ity_bl, ity_int, ity_str, ity_tup, ity_kls, kb_NoneType_NoneType, kb_NoneType_bool, kb_NoneType_int, kb_NoneType_str, kb_NoneType_tuple, kb_NoneType_list, kb_bool_NoneType, kb_bool_bool, kb_bool_int, kb_bool_str, kb_bool_tuple, kb_bool_list, kb_int_NoneType, kb_int_bool, kb_int_int, kb_int_str, kb_int_tuple, kb_int_list, kb_str_NoneType, kb_str_bool, kb_str_int, kb_str_str, kb_str_tuple, kb_str_list, kb_tuple_NoneType, kb_tuple_bool, kb_tuple_int, kb_tuple_str, kb_tuple_tuple, kb_tuple_list, kb_list_NoneType, kb_list_bool, kb_list_int, kb_list_str, kb_list_tuple, kb_list_list, c_kind_height, c_has_ground, c_opened, c_same_shape, c_as_precise, c_value_fits, c_use_fits, c__law_draws, c__law_draw, c__law_number, c__law_same, c__law_kind, c__law_tall, c__law_any_kind, c__law_agreeing, c__law_has, c__law_open, c__law_value, c__law_used, c__law_value_fits, c__law_use_fits, c__law_changed, c_law, c_Kind, so_seq, so_nil, so_set, so_expr, so_ret, so_retN, so_pass, so_brk, so_cnt, so_never, so_raise, so_try, so_ite, ret_bl, ret_int, ret_str, ret_non]
      refine ⟨by decide, by decide, ?_⟩
      refine for_rng (t := .one 4) (I := fun j v h => ∃ ds r c, v = [some (.kls (ns.map .int)), some (.ref 0), some (.int n), some (.int r), c] ∧ h = [li ds] ∧ ds.length ≤ 60 * i + j) ?_ ?_ ?_
      · rintro j v h hj ⟨ds, r, c, rfl, rfl, hl⟩
        have hj : j < 60 := hj
        simp only [tgt, ok_ok, ok_noex, ok_var, ok_lit, ok_prim, ok_nil, ok_cons, ok_call, ok_and, ok_or, ok_iteE, ok_chain, ok_meth, ok_attr, ok_join, ok_jnil, ok_jcons, p_not, p_add, p_sub, p_adds, p_muls, p_mulr, p_fdiv, p_mod, p_pow, p_eqi, p_eqs, p_eqb, p_nei, p_nes, p_neb, p_lt, p_le, p_gt, p_ge, p_is, p_isnot, p_lens, p_lent, p_lenk, p_int, p_bool, p_min, p_max, p_tup, p_lst, p_fmts, p_ixt, p_ixs, p_slse, p_slsu, p_isity, p_isigl, bm_rm, bm_st, tr_bl, tr_non, tr_int, tr_tup, tr_kls, tr_str, Mp.isNon, List.getElem?_cons_zero, List.getElem?_cons_succ, List.set_cons_zero, List.set_cons_succ, ity_non, ity_bl, ity_int, ity_str, ity_tup, ity_kls, kb_NoneType_NoneType, kb_NoneType_bool, kb_NoneType_int, kb_NoneType_str, kb_NoneType_tuple, kb_NoneType_list, kb_bool_NoneType, kb_bool_bool, kb_bool_int, kb_bool_str, kb_bool_tuple, kb_bool_list, kb_int_NoneType, kb_int_bool, kb_int_int, kb_int_str, kb_int_tuple, kb_int_list, kb_str_NoneType, kb_str_bool, kb_str_int, kb_str_str, kb_str_tuple, kb_str_list, kb_tuple_NoneType, kb_tuple_bool, kb_tuple_int, kb_tuple_str, kb_tuple_tuple, kb_tuple_list, kb_list_NoneType, kb_list_bool, kb_list_int, kb_list_str, kb_list_tuple, kb_list_list, c_kind_height, c_has_ground, c_opened, c_same_shape, c_as_precise, c_value_fits, c_use_fits, c__law_draws, c__law_draw, c__law_number, c__law_same, c__law_kind, c__law_tall, c__law_any_kind, c__law_agreeing, c__law_has, c__law_open, c__law_value, c__law_used, c__law_value_fits, c__law_use_fits, c__law_changed, c_law, c_Kind, so_seq, so_nil, so_set, so_expr, so_ret, so_retN, so_pass, so_brk, so_cnt, so_never, so_raise, so_try, so_ite, ret_bl, ret_int, ret_str, ret_non]
        by_cases hp : 0 < r
        · simp only [hp, decide_true, if_true, ok_ok, ok_noex, ok_var, ok_lit, ok_prim, ok_nil, ok_cons, ok_call, ok_and, ok_or, ok_iteE, ok_chain, ok_meth, ok_attr, ok_join, ok_jnil, ok_jcons, p_not, p_add, p_sub, p_adds, p_muls, p_mulr, p_fdiv, p_mod, p_pow, p_eqi, p_eqs, p_eqb, p_nei, p_nes, p_neb, p_lt, p_le, p_gt, p_ge, p_is, p_isnot, p_lens, p_lent, p_lenk, p_int, p_bool, p_min, p_max, p_tup, p_lst, p_fmts, p_ixt, p_ixs, p_slse, p_slsu, p_isity, p_isigl, bm_rm, bm_st, tr_bl, tr_non, tr_int, tr_tup, tr_kls, tr_str, Mp.isNon, List.getElem?_cons_zero, List.getElem?_cons_succ, List.set_cons_zero, List.set_cons_succ, ity_non, ity_bl, ity_int, ity_str, ity_tup, ity_kls, kb_NoneType_NoneType, kb_NoneType_bool, kb_NoneType_int, kb_NoneType_str, kb_NoneType_tuple, kb_NoneType_list, kb_bool_NoneType, kb_bool_bool, kb_bool_int, kb_bool_str, kb_bool_tuple, kb_bool_list, kb_int_NoneType, kb_int_bool, kb_int_int, kb_int_str, kb_int_tuple, kb_int_list, kb_str_NoneType, kb_str_bool, kb_str_int, kb_str_str, kb_str_tuple, kb_str_list, kb_tuple_NoneType, kb_tuple_bool, kb_tuple_int, kb_tuple_str, kb_tuple_tuple, kb_tuple_list, kb_list_NoneType, kb_list_bool, kb_list_int, kb_list_str, kb_list_tuple, kb_list_list, c_kind_height, c_has_ground, c_opened, c_same_shape, c_as_precise, c_value_fits, c_use_fits, c__law_draws, c__law_draw, c__law_number, c__law_same, c__law_kind, c__law_tall, c__law_any_kind, c__law_agreeing, c__law_has, c__law_open, c__law_value, c__law_used, c__law_value_fits, c__law_use_fits, c__law_changed, c_law, c_Kind, so_seq, so_nil, so_set, so_expr, so_ret, so_retN, so_pass, so_brk, so_cnt, so_never, so_raise, so_try, so_ite, ret_bl, ret_int, ret_str, ret_non, mth_lst (at_li _ _) (bt_lst (at_li _ _)).1]
          rw [p_mod _ _ (by decide)]
          simp only [bm_append (at_li _ _), app_li, List.length_map, ok_ok, ok_noex, ok_var, ok_lit, ok_prim, ok_nil, ok_cons, ok_call, ok_and, ok_or, ok_iteE, ok_chain, ok_meth, ok_attr, ok_join, ok_jnil, ok_jcons, p_not, p_add, p_sub, p_adds, p_muls, p_mulr, p_fdiv, p_mod, p_pow, p_eqi, p_eqs, p_eqb, p_nei, p_nes, p_neb, p_lt, p_le, p_gt, p_ge, p_is, p_isnot, p_lens, p_lent, p_lenk, p_int, p_bool, p_min, p_max, p_tup, p_lst, p_fmts, p_ixt, p_ixs, p_slse, p_slsu, p_isity, p_isigl, bm_rm, bm_st, tr_bl, tr_non, tr_int, tr_tup, tr_kls, tr_str, Mp.isNon, List.getElem?_cons_zero, List.getElem?_cons_succ, List.set_cons_zero, List.set_cons_succ, ity_non, ity_bl, ity_int, ity_str, ity_tup, ity_kls, kb_NoneType_NoneType, kb_NoneType_bool, kb_NoneType_int, kb_NoneType_str, kb_NoneType_tuple, kb_NoneType_list, kb_bool_NoneType, kb_bool_bool, kb_bool_int, kb_bool_str, kb_bool_tuple, kb_bool_list, kb_int_NoneType, kb_int_bool, kb_int_int, kb_int_str, kb_int_tuple, kb_int_list, kb_str_NoneType, kb_str_bool, kb_str_int, kb_str_str, kb_str_tuple, kb_str_list, kb_tuple_NoneType, kb_tuple_bool, kb_tuple_int, kb_tuple_str, kb_tuple_tuple, kb_tuple_list, kb_list_NoneType, kb_list_bool, kb_list_int, kb_list_str, kb_list_tuple, kb_list_list, c_kind_height, c_has_ground, c_opened, c_same_shape, c_as_precise, c_value_fits, c_use_fits, c__law_draws, c__law_draw, c__law_number, c__law_same, c__law_kind, c__law_tall, c__law_any_kind, c__law_agreeing, c__law_has, c__law_open, c__law_value, c__law_used, c__law_value_fits, c__law_use_fits, c__law_changed, c_law, c_Kind, so_seq, so_nil, so_set, so_expr, so_ret, so_retN, so_pass, so_brk, so_cnt, so_never, so_raise, so_try, so_ite, ret_bl, ret_int, ret_str, ret_non]
          refine ⟨by omega, ?_⟩
          rw [p_fdiv _ _ (by decide)]
          exact ⟨_, _, _, rfl, rfl, by rw [List.length_append, List.length_singleton]; omega⟩
        · simp only [hp, decide_false, Bool.false_eq_true, if_false, ok_ok, ok_noex, ok_var, ok_lit, ok_prim, ok_nil, ok_cons, ok_call, ok_and, ok_or, ok_iteE, ok_chain, ok_meth, ok_attr, ok_join, ok_jnil, ok_jcons, p_not, p_add, p_sub, p_adds, p_muls, p_mulr, p_fdiv, p_mod, p_pow, p_eqi, p_eqs, p_eqb, p_nei, p_nes, p_neb, p_lt, p_le, p_gt, p_ge, p_is, p_isnot, p_lens, p_lent, p_lenk, p_int, p_bool, p_min, p_max, p_tup, p_lst, p_fmts, p_ixt, p_ixs, p_slse, p_slsu, p_isity, p_isigl, bm_rm, bm_st, tr_bl, tr_non, tr_int, tr_tup, tr_kls, tr_str, Mp.isNon, List.getElem?_cons_zero, List.getElem?_cons_succ, List.set_cons_zero, List.set_cons_succ, ity_non, ity_bl, ity_int, ity_str, ity_tup, ity_kls, kb_NoneType_NoneType, kb_NoneType_bool, kb_NoneType_int, kb_NoneType_str, kb_NoneType_tuple, kb_NoneType_list, kb_bool_NoneType, kb_bool_bool, kb_bool_int, kb_bool_str, kb_bool_tuple, kb_bool_list, kb_int_NoneType, kb_int_bool, kb_int_int, kb_int_str, kb_int_tuple, kb_int_list, kb_str_NoneType, kb_str_bool, kb_str_int, kb_str_str, kb_str_tuple, kb_str_list, kb_tuple_NoneType, kb_tuple_bool, kb_tuple_int, kb_tuple_str, kb_tuple_tuple, kb_tuple_list, kb_list_NoneType, kb_list_bool, kb_list_int, kb_list_str, kb_list_tuple, kb_list_list, c_kind_height, c_has_ground, c_opened, c_same_shape, c_as_precise, c_value_fits, c_use_fits, c__law_draws, c__law_draw, c__law_number, c__law_same, c__law_kind, c__law_tall, c__law_any_kind, c__law_agreeing, c__law_has, c__law_open, c__law_value, c__law_used, c__law_value_fits, c__law_use_fits, c__law_changed, c_law, c_Kind, so_seq, so_nil, so_set, so_expr, so_ret, so_retN, so_pass, so_brk, so_cnt, so_never, so_raise, so_try, so_ite, ret_bl, ret_int, ret_str, ret_non]
          exact ⟨_, _, _, rfl, rfl, by omega⟩
      · rintro v h ⟨ds, r, c, rfl, rfl, hl⟩
        have hl : ds.length ≤ 60 * i + 60 := hl
        exact ⟨_, _, _, _, rfl, rfl, by omega⟩
      · exact ⟨_, _, _, rfl, rfl, by omega⟩
    · simp only [hr, decide_false, Bool.false_eq_true, if_false, so_for, ok_itrng1, ok_ok, ok_noex, ok_var, ok_lit, ok_prim, ok_nil, ok_cons, ok_call, ok_and, ok_or, ok_iteE, ok_chain, ok_meth, ok_attr, ok_join, ok_jnil, ok_jcons, p_not, p_add, p_sub, p_adds, p_muls, p_mulr, p_fdiv, p_mod, p_pow, p_eqi, p_eqs, p_eqb, p_nei, p_nes, p_neb, p_lt, p_le, p_gt, p_ge, p_is, p_isnot, p_lens, p_lent, p_lenk, p_int, p_bool, p_min, p_max, p_tup, p_lst, p_fmts, p_ixt, p_ixs, p_slse, p_slsu, p_isity, p_isigl, bm_rm, bm_st, tr_bl, tr_non, tr_int, tr_tup, tr_kls, tr_str, Mp.isNon, List.getElem?_cons_zero, List.getElem?_cons_succ, List.set_cons_zero, List.set_cons_succ, ity_non, ity_bl, ity_int, ity_str, ity_tup, ity_kls, kb_NoneType_NoneType, kb_NoneType_bool, kb_NoneType_int, kb_NoneType_str, kb_NoneType_tuple, kb_NoneType_list, kb_bool_NoneType, kb_bool_bool, kb_bool_int, kb_bool_str, kb_bool_tuple, kb_bool_list, kb_int_NoneType, kb_int_bool, kb_int_int, kb_int_str, kb_int_tuple, kb_int_list, kb_str_NoneType, kb_str_bool, kb_str_int, kb_str_str, kb_str_tuple, kb_str_list, kb_tuple_NoneType, kb_tuple_bool, kb_tuple_int, kb_tuple_str, kb_tuple_tuple, kb_tuple_list, kb_list_NoneType, kb_list_bool, kb_list_int, kb_list_str, kb_list_tuple, kb_list_list, c_kind_height, c_has_ground, c_opened, c_same_shape, c_as_precise, c_value_fits, c_use_fits, c__law_draws, c__law_draw, c__law_number, c__law_same, c__law_kind, c__law_tall, c__law_any_kind, c__law_agreeing, c__law_has, c__law_open, c__law_value, c__law_used, c__law_value_fits, c__law_use_fits, c__law_changed, c_law, c_Kind, so_seq, so_nil, so_set, so_expr, so_ret, so_retN, so_pass, so_brk, so_cnt, so_never, so_raise, so_try, so_ite, ret_bl, ret_int, ret_str, ret_non]
      rw [p_mulr _ _ (by decide)]
      simp only [ok_ok, ok_noex, ok_var, ok_lit, ok_prim, ok_nil, ok_cons, ok_call, ok_and, ok_or, ok_iteE, ok_chain, ok_meth, ok_attr, ok_join, ok_jnil, ok_jcons, p_not, p_add, p_sub, p_adds, p_muls, p_mulr, p_fdiv, p_mod, p_pow, p_eqi, p_eqs, p_eqb, p_nei, p_nes, p_neb, p_lt, p_le, p_gt, p_ge, p_is, p_isnot, p_lens, p_lent, p_lenk, p_int, p_bool, p_min, p_max, p_tup, p_lst, p_fmts, p_ixt, p_ixs, p_slse, p_slsu, p_isity, p_isigl, bm_rm, bm_st, tr_bl, tr_non, tr_int, tr_tup, tr_kls, tr_str, Mp.isNon, List.getElem?_cons_zero, List.getElem?_cons_succ, List.set_cons_zero, List.set_cons_succ, ity_non, ity_bl, ity_int, ity_str, ity_tup, ity_kls, kb_NoneType_NoneType, kb_NoneType_bool, kb_NoneType_int, kb_NoneType_str, kb_NoneType_tuple, kb_NoneType_list, kb_bool_NoneType, kb_bool_bool, kb_bool_int, kb_bool_str, kb_bool_tuple, kb_bool_list, kb_int_NoneType, kb_int_bool, kb_int_int, kb_int_str, kb_int_tuple, kb_int_list, kb_str_NoneType, kb_str_bool, kb_str_int, kb_str_str, kb_str_tuple, kb_str_list, kb_tuple_NoneType, kb_tuple_bool, kb_tuple_int, kb_tuple_str, kb_tuple_tuple, kb_tuple_list, kb_list_NoneType, kb_list_bool, kb_list_int, kb_list_str, kb_list_tuple, kb_list_list, c_kind_height, c_has_ground, c_opened, c_same_shape, c_as_precise, c_value_fits, c_use_fits, c__law_draws, c__law_draw, c__law_number, c__law_same, c__law_kind, c__law_tall, c__law_any_kind, c__law_agreeing, c__law_has, c__law_open, c__law_value, c__law_used, c__law_value_fits, c__law_use_fits, c__law_changed, c_law, c_Kind, so_seq, so_nil, so_set, so_expr, so_ret, so_retN, so_pass, so_brk, so_cnt, so_never, so_raise, so_try, so_ite, ret_bl, ret_int, ret_str, ret_non]
      rw [p_mod _ _ (by decide)]
      refine ⟨by decide, by decide, ?_⟩
      refine for_rng (t := .one 4) (I := fun j v h => ∃ ds r c, v = [some (.kls (ns.map .int)), some (.ref 0), some (.int n), some (.int r), c] ∧ h = [li ds] ∧ ds.length ≤ 60 * i + j) ?_ ?_ ?_
      · rintro j v h hj ⟨ds, r, c, rfl, rfl, hl⟩
        have hj : j < 4 := hj
        simp only [tgt, ok_ok, ok_noex, ok_var, ok_lit, ok_prim, ok_nil, ok_cons, ok_call, ok_and, ok_or, ok_iteE, ok_chain, ok_meth, ok_attr, ok_join, ok_jnil, ok_jcons, p_not, p_add, p_sub, p_adds, p_muls, p_mulr, p_fdiv, p_mod, p_pow, p_eqi, p_eqs, p_eqb, p_nei, p_nes, p_neb, p_lt, p_le, p_gt, p_ge, p_is, p_isnot, p_lens, p_lent, p_lenk, p_int, p_bool, p_min, p_max, p_tup, p_lst, p_fmts, p_ixt, p_ixs, p_slse, p_slsu, p_isity, p_isigl, bm_rm, bm_st, tr_bl, tr_non, tr_int, tr_tup, tr_kls, tr_str, Mp.isNon, List.getElem?_cons_zero, List.getElem?_cons_succ, List.set_cons_zero, List.set_cons_succ, ity_non, ity_bl, ity_int, ity_str, ity_tup, ity_kls, kb_NoneType_NoneType, kb_NoneType_bool, kb_NoneType_int, kb_NoneType_str, kb_NoneType_tuple, kb_NoneType_list, kb_bool_NoneType, kb_bool_bool, kb_bool_int, kb_bool_str, kb_bool_tuple, kb_bool_list, kb_int_NoneType, kb_int_bool, kb_int_int, kb_int_str, kb_int_tuple, kb_int_list, kb_str_NoneType, kb_str_bool, kb_str_int, kb_str_str, kb_str_tuple, kb_str_list, kb_tuple_NoneType, kb_tuple_bool, kb_tuple_int, kb_tuple_str, kb_tuple_tuple, kb_tuple_list, kb_list_NoneType, kb_list_bool, kb_list_int, kb_list_str, kb_list_tuple, kb_list_list, c_kind_height, c_has_ground, c_opened, c_same_shape, c_as_precise, c_value_fits, c_use_fits, c__law_draws, c__law_draw, c__law_number, c__law_same, c__law_kind, c__law_tall, c__law_any_kind, c__law_agreeing, c__law_has, c__law_open, c__law_value, c__law_used, c__law_value_fits, c__law_use_fits, c__law_changed, c_law, c_Kind, so_seq, so_nil, so_set, so_expr, so_ret, so_retN, so_pass, so_brk, so_cnt, so_never, so_raise, so_try, so_ite, ret_bl, ret_int, ret_str, ret_non]
        rw [p_mulr _ _ (by decide)]
        simp only [ok_ok, ok_noex, ok_var, ok_lit, ok_prim, ok_nil, ok_cons, ok_call, ok_and, ok_or, ok_iteE, ok_chain, ok_meth, ok_attr, ok_join, ok_jnil, ok_jcons, p_not, p_add, p_sub, p_adds, p_muls, p_mulr, p_fdiv, p_mod, p_pow, p_eqi, p_eqs, p_eqb, p_nei, p_nes, p_neb, p_lt, p_le, p_gt, p_ge, p_is, p_isnot, p_lens, p_lent, p_lenk, p_int, p_bool, p_min, p_max, p_tup, p_lst, p_fmts, p_ixt, p_ixs, p_slse, p_slsu, p_isity, p_isigl, bm_rm, bm_st, tr_bl, tr_non, tr_int, tr_tup, tr_kls, tr_str, Mp.isNon, List.getElem?_cons_zero, List.getElem?_cons_succ, List.set_cons_zero, List.set_cons_succ, ity_non, ity_bl, ity_int, ity_str, ity_tup, ity_kls, kb_NoneType_NoneType, kb_NoneType_bool, kb_NoneType_int, kb_NoneType_str, kb_NoneType_tuple, kb_NoneType_list, kb_bool_NoneType, kb_bool_bool, kb_bool_int, kb_bool_str, kb_bool_tuple, kb_bool_list, kb_int_NoneType, kb_int_bool, kb_int_int, kb_int_str, kb_int_tuple, kb_int_list, kb_str_NoneType, kb_str_bool, kb_str_int, kb_str_str, kb_str_tuple, kb_str_list, kb_tuple_NoneType, kb_tuple_bool, kb_tuple_int, kb_tuple_str, kb_tuple_tuple, kb_tuple_list, kb_list_NoneType, kb_list_bool, kb_list_int, kb_list_str, kb_list_tuple, kb_list_list, c_kind_height, c_has_ground, c_opened, c_same_shape, c_as_precise, c_value_fits, c_use_fits, c__law_draws, c__law_draw, c__law_number, c__law_same, c__law_kind, c__law_tall, c__law_any_kind, c__law_agreeing, c__law_has, c__law_open, c__law_value, c__law_used, c__law_value_fits, c__law_use_fits, c__law_changed, c_law, c_Kind, so_seq, so_nil, so_set, so_expr, so_ret, so_retN, so_pass, so_brk, so_cnt, so_never, so_raise, so_try, so_ite, ret_bl, ret_int, ret_str, ret_non]
        rw [p_mod _ _ (by decide)]
        simp only [ok_ok, ok_noex, ok_var, ok_lit, ok_prim, ok_nil, ok_cons, ok_call, ok_and, ok_or, ok_iteE, ok_chain, ok_meth, ok_attr, ok_join, ok_jnil, ok_jcons, p_not, p_add, p_sub, p_adds, p_muls, p_mulr, p_fdiv, p_mod, p_pow, p_eqi, p_eqs, p_eqb, p_nei, p_nes, p_neb, p_lt, p_le, p_gt, p_ge, p_is, p_isnot, p_lens, p_lent, p_lenk, p_int, p_bool, p_min, p_max, p_tup, p_lst, p_fmts, p_ixt, p_ixs, p_slse, p_slsu, p_isity, p_isigl, bm_rm, bm_st, tr_bl, tr_non, tr_int, tr_tup, tr_kls, tr_str, Mp.isNon, List.getElem?_cons_zero, List.getElem?_cons_succ, List.set_cons_zero, List.set_cons_succ, ity_non, ity_bl, ity_int, ity_str, ity_tup, ity_kls, kb_NoneType_NoneType, kb_NoneType_bool, kb_NoneType_int, kb_NoneType_str, kb_NoneType_tuple, kb_NoneType_list, kb_bool_NoneType, kb_bool_bool, kb_bool_int, kb_bool_str, kb_bool_tuple, kb_bool_list, kb_int_NoneType, kb_int_bool, kb_int_int, kb_int_str, kb_int_tuple, kb_int_list, kb_str_NoneType, kb_str_bool, kb_str_int, kb_str_str, kb_str_tuple, kb_str_list, kb_tuple_NoneType, kb_tuple_bool, kb_tuple_int, kb_tuple_str, kb_tuple_tuple, kb_tuple_list, kb_list_NoneType, kb_list_bool, kb_list_int, kb_list_str, kb_list_tuple, kb_list_list, c_kind_height, c_has_ground, c_opened, c_same_shape, c_as_precise, c_value_fits, c_use_fits, c__law_draws, c__law_draw, c__law_number, c__law_same, c__law_kind, c__law_tall, c__law_any_kind, c__law_agreeing, c__law_has, c__law_open, c__law_value, c__law_used, c__law_value_fits, c__law_use_fits, c__law_changed, c_law, c_Kind, so_seq, so_nil, so_set, so_expr, so_ret, so_retN, so_pass, so_brk, so_cnt, so_never, so_raise, so_try, so_ite, ret_bl, ret_int, ret_str, ret_non, mth_lst (at_li _ _) (bt_lst (at_li _ _)).1]
        rw [p_fdiv _ _ (by decide)]
        simp only [ok_ok, ok_noex, ok_var, ok_lit, ok_prim, ok_nil, ok_cons, ok_call, ok_and, ok_or, ok_iteE, ok_chain, ok_meth, ok_attr, ok_join, ok_jnil, ok_jcons, p_not, p_add, p_sub, p_adds, p_muls, p_mulr, p_fdiv, p_mod, p_pow, p_eqi, p_eqs, p_eqb, p_nei, p_nes, p_neb, p_lt, p_le, p_gt, p_ge, p_is, p_isnot, p_lens, p_lent, p_lenk, p_int, p_bool, p_min, p_max, p_tup, p_lst, p_fmts, p_ixt, p_ixs, p_slse, p_slsu, p_isity, p_isigl, bm_rm, bm_st, tr_bl, tr_non, tr_int, tr_tup, tr_kls, tr_str, Mp.isNon, List.getElem?_cons_zero, List.getElem?_cons_succ, List.set_cons_zero, List.set_cons_succ, ity_non, ity_bl, ity_int, ity_str, ity_tup, ity_kls, kb_NoneType_NoneType, kb_NoneType_bool, kb_NoneType_int, kb_NoneType_str, kb_NoneType_tuple, kb_NoneType_list, kb_bool_NoneType, kb_bool_bool, kb_bool_int, kb_bool_str, kb_bool_tuple, kb_bool_list, kb_int_NoneType, kb_int_bool, kb_int_int, kb_int_str, kb_int_tuple, kb_int_list, kb_str_NoneType, kb_str_bool, kb_str_int, kb_str_str, kb_str_tuple, kb_str_list, kb_tuple_NoneType, kb_tuple_bool, kb_tuple_int, kb_tuple_str, kb_tuple_tuple, kb_tuple_list, kb_list_NoneType, kb_list_bool, kb_list_int, kb_list_str, kb_list_tuple, kb_list_list, c_kind_height, c_has_ground, c_opened, c_same_shape, c_as_precise, c_value_fits, c_use_fits, c__law_draws, c__law_draw, c__law_number, c__law_same, c__law_kind, c__law_tall, c__law_any_kind, c__law_agreeing, c__law_has, c__law_open, c__law_value, c__law_used, c__law_value_fits, c__law_use_fits, c__law_changed, c_law, c_Kind, so_seq, so_nil, so_set, so_expr, so_ret, so_retN, so_pass, so_brk, so_cnt, so_never, so_raise, so_try, so_ite, ret_bl, ret_int, ret_str, ret_non]
        rw [p_mod _ _ (by decide)]
        simp only [bm_append (at_li _ _), app_li, List.length_map, ok_ok, ok_noex, ok_var, ok_lit, ok_prim, ok_nil, ok_cons, ok_call, ok_and, ok_or, ok_iteE, ok_chain, ok_meth, ok_attr, ok_join, ok_jnil, ok_jcons, p_not, p_add, p_sub, p_adds, p_muls, p_mulr, p_fdiv, p_mod, p_pow, p_eqi, p_eqs, p_eqb, p_nei, p_nes, p_neb, p_lt, p_le, p_gt, p_ge, p_is, p_isnot, p_lens, p_lent, p_lenk, p_int, p_bool, p_min, p_max, p_tup, p_lst, p_fmts, p_ixt, p_ixs, p_slse, p_slsu, p_isity, p_isigl, bm_rm, bm_st, tr_bl, tr_non, tr_int, tr_tup, tr_kls, tr_str, Mp.isNon, List.getElem?_cons_zero, List.getElem?_cons_succ, List.set_cons_zero, List.set_cons_succ, ity_non, ity_bl, ity_int, ity_str, ity_tup, ity_kls, kb_NoneType_NoneType, kb_NoneType_bool, kb_NoneType_int, kb_NoneType_str, kb_NoneType_tuple, kb_NoneType_list, kb_bool_NoneType, kb_bool_bool, kb_bool_int, kb_bool_str, kb_bool_tuple, kb_bool_list, kb_int_NoneType, kb_int_bool, kb_int_int, kb_int_str, kb_int_tuple, kb_int_list, kb_str_NoneType, kb_str_bool, kb_str_int, kb_str_str, kb_str_tuple, kb_str_list, kb_tuple_NoneType, kb_tuple_bool, kb_tuple_int, kb_tuple_str, kb_tuple_tuple, kb_tuple_list, kb_list_NoneType, kb_list_bool, kb_list_int, kb_list_str, kb_list_tuple, kb_list_list, c_kind_height, c_has_ground, c_opened, c_same_shape, c_as_precise, c_value_fits, c_use_fits, c__law_draws, c__law_draw, c__law_number, c__law_same, c__law_kind, c__law_tall, c__law_any_kind, c__law_agreeing, c__law_has, c__law_open, c__law_value, c__law_used, c__law_value_fits, c__law_use_fits, c__law_changed, c_law, c_Kind, so_seq, so_nil, so_set, so_expr, so_ret, so_retN, so_pass, so_brk, so_cnt, so_never, so_raise, so_try, so_ite, ret_bl, ret_int, ret_str, ret_non]
        exact ⟨by omega, _, _, _, rfl, rfl, by rw [List.length_append, List.length_singleton]; omega⟩
      · rintro v h ⟨ds, r, c, rfl, rfl, hl⟩
        have hl : ds.length ≤ 60 * i + 4 := hl
        exact ⟨_, _, _, _, rfl, rfl, by omega⟩
      · exact ⟨_, _, _, rfl, rfl, by omega⟩
  · rintro v h ⟨ds, a, b, c, rfl, rfl, hl⟩
    simp only [ok_ok, ok_noex, ok_var, ok_lit, ok_prim, ok_nil, ok_cons, ok_call, ok_and, ok_or, ok_iteE, ok_chain, ok_meth, ok_attr, ok_join, ok_jnil, ok_jcons, p_not, p_add, p_sub, p_adds, p_muls, p_mulr, p_fdiv, p_mod, p_pow, p_eqi, p_eqs, p_eqb, p_nei, p_nes, p_neb, p_lt, p_le, p_gt, p_ge, p_is, p_isnot, p_lens, p_lent, p_lenk, p_int, p_bool, p_min, p_max, p_tup, p_lst, p_fmts, p_ixt, p_ixs, p_slse, p_slsu, p_isity, p_isigl, bm_rm, bm_st, tr_bl, tr_non, tr_int, tr_tup, tr_kls, tr_str, Mp.isNon, List.getElem?_cons_zero, List.getElem?_cons_succ, List.set_cons_zero, List.set_cons_succ, ity_non, ity_bl, ity_int, ity_str, ity_tup, ity_kls, kb_NoneType_NoneType, kb_NoneType_bool, kb_NoneType_int, kb_NoneType_str, kb_NoneType_tuple, kb_NoneType_list, kb_bool_NoneType, kb_bool_bool, kb_bool_int, kb_bool_str, kb_bool_tuple, kb_bool_list, kb_int_NoneType, kb_int_bool, kb_int_int, kb_int_str, kb_int_tuple, kb_int_list, kb_str_NoneType, kb_str_bool, kb_str_int, kb_str_str, kb_str_tuple, kb_str_list, kb_tuple_NoneType, kb_tuple_bool, kb_tuple_int, kb_tuple_str, kb_tuple_tuple, kb_tuple_list, kb_list_NoneType, kb_list_bool, kb_list_int, kb_list_str, kb_list_tuple, kb_list_list, c_kind_height, c_has_ground, c_opened, c_same_shape, c_as_precise, c_value_fits, c_use_fits, c__law_draws, c__law_draw, c__law_number, c__law_same, c__law_kind, c__law_tall, c__law_any_kind, c__law_agreeing, c__law_has, c__law_open, c__law_value, c__law_used, c__law_value_fits, c__law_use_fits, c__law_changed, c_law, c_Kind, so_seq, so_nil, so_set, so_expr, so_ret, so_retN, so_pass, so_brk, so_cnt, so_never, so_raise, so_try, so_ite, ret_bl, ret_int, ret_str, ret_non, mth_lst (at_li _ _) (bt_lst (at_li _ _)).2.2.1, bm_rev (at_li _ _), rev_li]
    rw [ret_new rfl]
    exact q _
  · exact ⟨[], _, _, _, rfl, rfl, by simp⟩
theorem ofE {a b : Prop} (e : a = b) (x : b) : a := e ▸ x
theorem ret_li2 {ds ds' : List Int} {t x : HD} {d : D} {Q : D → HD → Prop} (c : d.cl (t.length + 1) = true) : RetQ (li ds :: t) Q d (li ds' :: (t ++ x)) = Q d (li ds' :: t) := by
  have g : gc d (li ds :: t) (li ds' :: (t ++ x)) = li ds' :: t := gc_set (i := 0) (o := li ds') c (by simp) (cls_ints _ _) (by simp) (fun j hj => by
    have hj : j < t.length + 1 := hj
    cases j with
    | zero => rfl
    | succ j =>
      show (t ++ x)[j]? = t[j]?
      exact List.getElem?_append_left (by omega))
  unfold RetQ
  rw [g]
theorem lst_at (h : HD) (l : List D) : (h ++ [O.lst l])[h.length]? = some (.lst l) := by simp
theorem ok_true {r : Mp.R D} (z : okx (fun _ _ => False) r fun d _ => d = .bl true) : ∃ h', r = .ok (.bl true) h' := by
  cases r with
  | ok d h => exact ⟨h, by rw [show d = .bl true from z]⟩
  | ex e h => exact z.elim
  | bad => exact z.elim

/-! ### kinds -/
inductive Kn where
  | unk | int | bool | unit | fn (a b : Kn) | pr (a b : Kn)
def kd : Kn → D
  | .unk => .str "?"
  | .int => .str "int"
  | .bool => .str "bool"
  | .unit => .str "unit"
  | .fn a b => .tup [.str "fun", kd a, kd b]
  | .pr a b => .tup [.str "pair", kd a, kd b]
def ht : Kn → Nat
  | .fn a b => max (ht a) (ht b) + 1
  | .pr a b => max (ht a) (ht b) + 1
  | _ => 0
def isF : Kn → Bool
  | .fn _ _ => true
  | _ => false
def isP : Kn → Bool
  | .fn _ _ => true
  | .pr _ _ => true
  | _ => false
def br (x : Str) (b : Bool) : Str := if b then ("(" : Str) ++ x ++ (")" : Str) else x
def sh : Kn → Str
  | .unk => "?"
  | .int => "int"
  | .bool => "bool"
  | .unit => "unit"
  | .fn a b => br (sh a) (isF a) ++ (" -> " : Str) ++ sh b
  | .pr a b => br (sh a) (isF a) ++ (" * " : Str) ++ br (sh b) (isP b)
theorem kd_cl (n : Nat) : ∀ a : Kn, (kd a).cl n = true
  | .unk => rfl
  | .int => rfl
  | .bool => rfl
  | .unit => rfl
  | .fn a b => by
    show (true && ((kd a).cl n && ((kd b).cl n && true))) = true
    rw [kd_cl n a, kd_cl n b]; rfl
  | .pr a b => by
    show (true && ((kd a).cl n && ((kd b).cl n && true))) = true
    rw [kd_cl n a, kd_cl n b]; rfl
theorem br_len (x : Str) (b : Bool) : (br x b).length ≤ x.length + 2 := by
  cases b with
  | true =>
    show (("(" : Str) ++ x ++ (")" : Str)).length ≤ _
    rw [len_app, len_app, show ("(" : Str).length = 1 from by decide +kernel, show (")" : Str).length = 1 from by decide +kernel]
    omega
  | false => show x.length ≤ _; omega
/-- a text's length by the height -/
def lb : Nat → Nat
  | 0 => 4
  | n + 1 => 2 * lb n + 8
theorem lb_mono : ∀ {m n : Nat}, m ≤ n → lb m ≤ lb n := fun {m n} h => by
  induction h with
  | refl => exact Nat.le_refl _
  | step h ih => exact Nat.le_trans ih (by show _ ≤ 2 * lb _ + 8; omega)
theorem sh_len : ∀ a : Kn, (sh a).length ≤ lb (ht a)
  | .unk => by decide +kernel
  | .int => by decide +kernel
  | .bool => by decide +kernel
  | .unit => by decide +kernel
  | .fn a b => by
    have ha := Nat.le_trans (sh_len a) (lb_mono (Nat.le_max_left (ht a) (ht b)))
    have hb := Nat.le_trans (sh_len b) (lb_mono (Nat.le_max_right (ht a) (ht b)))
    have h1 := br_len (sh a) (isF a)
    show (br (sh a) (isF a) ++ (" -> " : Str) ++ sh b).length ≤ 2 * lb (max (ht a) (ht b)) + 8
    rw [len_app, len_app, show (" -> " : Str).length = 4 from by decide +kernel]
    omega
  | .pr a b => by
    have ha := Nat.le_trans (sh_len a) (lb_mono (Nat.le_max_left (ht a) (ht b)))
    have hb := Nat.le_trans (sh_len b) (lb_mono (Nat.le_max_right (ht a) (ht b)))
    have h1 := br_len (sh a) (isF a)
    have h2 := br_len (sh b) (isP b)
    show (br (sh a) (isF a) ++ (" * " : Str) ++ br (sh b) (isP b)).length ≤ 2 * lb (max (ht a) (ht b)) + 8
    rw [len_app, len_app, show (" * " : Str).length = 3 from by decide +kernel]
    omega
theorem sh_cap {a : Kn} (h : ht a ≤ 8) : (sh a).length ≤ 3064 := Nat.le_trans (sh_len a) (Nat.le_trans (lb_mono h) (by decide))
theorem empty_app (x : Str) : (⟨#[]⟩ : Str) ++ x = x := by
  apply str_ext
  rw [app_list]
  rfl
theorem kd_ty (n : HD) (a : Kn) : isTy tb.gi "tuple" (kd a) n = some (isP a) := by cases a <;> rfl
theorem ix0 {C : Cal} {h : HD} {Q : D → HD → Prop} (a : Kn) : okx (fun _ _ => False) (Mp.prD tb.gi C .ix [kd a, .int 0] h) (fun d h => okx (fun _ _ => False) (Mp.prD tb.gi C (.cmp .Eq) [d, .str "fun"] h) Q) = Q (.bl (isF a)) h := by
  have key : ∀ (x : Str) (c : Nat), Mp.atI x.cps.toList 0 = some c → x.length ≤ cap → decide ((⟨#[c]⟩ : Str) = "fun") = false → okx (fun _ _ => False) (Mp.prD tb.gi C .ix [.str x, .int 0] h) (fun d h => okx (fun _ _ => False) (Mp.prD tb.gi C (.cmp .Eq) [d, .str "fun"] h) Q) = Q (.bl false) h := fun x c e1 e2 e3 => by
    simp only [p_ixs, e1, e2, p_eqs, e3, true_and]
  cases a with
  | unk => exact key _ 63 (by decide +kernel) (by decide +kernel) (by decide +kernel)
  | int => exact key _ 105 (by decide +kernel) (by decide +kernel) (by decide +kernel)
  | bool => exact key _ 98 (by decide +kernel) (by decide +kernel) (by decide +kernel)
  | unit => exact key _ 117 (by decide +kernel) (by decide +kernel) (by decide +kernel)
  | fn a b =>
    simp only [kd, p_ixt, atI_zero, p_eqs, decide_true]
    rfl
  | pr a b =>
    have e : decide (("pair" : Str) = "fun") = false := by decide +kernel
    simp only [kd, p_ixt, atI_zero, p_eqs, e]
    rfl
/-! ### heights -/
def sz : Kn → Nat
  | .fn a b => sz a + sz b + 1
  | .pr a b => sz a + sz b + 1
  | _ => 1
theorem sz_pos : ∀ a : Kn, 1 ≤ sz a
  | .unk => Nat.le_refl _
  | .int => Nat.le_refl _
  | .bool => Nat.le_refl _
  | .unit => Nat.le_refl _
  | .fn a b => by show 1 ≤ sz a + sz b + 1; omega
  | .pr a b => by show 1 ≤ sz a + sz b + 1; omega
theorem sz_le : ∀ a : Kn, sz a + 1 ≤ 2 ^ (ht a + 1)
  | .unk => by decide
  | .int => by decide
  | .bool => by decide
  | .unit => by decide
  | .fn a b => by
    have h1 := Nat.le_trans (sz_le a) (Nat.pow_le_pow_right (by decide : 0 < 2) (Nat.succ_le_succ (Nat.le_max_left (ht a) (ht b))))
    have h2 := Nat.le_trans (sz_le b) (Nat.pow_le_pow_right (by decide : 0 < 2) (Nat.succ_le_succ (Nat.le_max_right (ht a) (ht b))))
    show sz a + sz b + 1 + 1 ≤ 2 ^ (max (ht a) (ht b) + 1 + 1)
    have e : 2 ^ (max (ht a) (ht b) + 1 + 1) = 2 ^ (max (ht a) (ht b) + 1) * 2 := Nat.pow_succ ..
    have h1' : sz a + 1 ≤ 2 ^ (max (ht a) (ht b) + 1) := h1
    have h2' : sz b + 1 ≤ 2 ^ (max (ht a) (ht b) + 1) := h2
    omega
  | .pr a b => by
    have h1 := Nat.le_trans (sz_le a) (Nat.pow_le_pow_right (by decide : 0 < 2) (Nat.succ_le_succ (Nat.le_max_left (ht a) (ht b))))
    have h2 := Nat.le_trans (sz_le b) (Nat.pow_le_pow_right (by decide : 0 < 2) (Nat.succ_le_succ (Nat.le_max_right (ht a) (ht b))))
    show sz a + sz b + 1 + 1 ≤ 2 ^ (max (ht a) (ht b) + 1 + 1)
    have e : 2 ^ (max (ht a) (ht b) + 1 + 1) = 2 ^ (max (ht a) (ht b) + 1) * 2 := Nat.pow_succ ..
    have h1' : sz a + 1 ≤ 2 ^ (max (ht a) (ht b) + 1) := h1
    have h2' : sz b + 1 ≤ 2 ^ (max (ht a) (ht b) + 1) := h2
    omega
abbrev St := List (Kn × Nat)
def stD (st : St) : List D := st.map fun p => .tup [kd p.1, .int p.2]
def stS : St → Nat
  | [] => 0
  | p :: r => sz p.1 + stS r
def stH : St → Nat
  | [] => 0
  | p :: r => max (p.2 + ht p.1) (stH r)
theorem stS_app : ∀ (a b : St), stS (a ++ b) = stS a + stS b
  | [], b => by simp [stS]
  | p :: r, b => by
    show sz p.1 + stS (r ++ b) = sz p.1 + stS r + stS b
    rw [stS_app r b]; omega
theorem stH_app : ∀ (a b : St), stH (a ++ b) = max (stH a) (stH b)
  | [], b => by simp [stH]
  | p :: r, b => by
    show max _ (stH (r ++ b)) = max (max _ (stH r)) (stH b)
    rw [stH_app r b, Nat.max_assoc]
theorem stS_len : ∀ a : St, a.length ≤ stS a
  | [] => Nat.le_refl _
  | p :: r => by
    have := sz_pos p.1
    have := stS_len r
    show r.length + 1 ≤ sz p.1 + stS r
    omega
theorem height16 (k : Nat) (h : HD) (a : Kn) (h8 : ht a ≤ 16) : run tb.prog (k + 1) "kind_height" [kd a] h = .ok (.int (ht a)) h := by
  apply of_ok
  simp only [r_kind_height, F_kind_height, ok_ok, ok_noex, ok_var, ok_lit, ok_prim, ok_nil, ok_cons, ok_call, ok_and, ok_or, ok_iteE, ok_chain, ok_meth, ok_attr, ok_join, ok_jnil, ok_jcons, p_not, p_add, p_sub, p_adds, p_muls, p_mulr, p_fdiv, p_mod, p_pow, p_eqi, p_eqs, p_eqb, p_nei, p_nes, p_neb, p_lt, p_le, p_gt, p_ge, p_is, p_isnot, p_lens, p_lent, p_lenk, p_int, p_bool, p_min, p_max, p_tup, p_lst, p_fmts, p_ixt, p_ixs, p_slse, p_slsu, p_isity, p_isigl, bm_rm, bm_st, tr_bl, tr_non, tr_int, tr_tup, tr_kls, tr_str, Mp.isNon, List.getElem?_cons_zero, List.getElem?_cons_succ, List.set_cons_zero, List.set_cons_succ, ity_non, ity_bl, ity_int, ity_str, ity_tup, ity_kls, kb_NoneType_NoneType, kb_NoneType_bool, kb_NoneType_int, kb_NoneType_str, kb_NoneType_tuple, kb_NoneType_list, kb_bool_NoneType, kb_bool_bool, kb_bool_int, kb_bool_str, kb_bool_tuple, kb_bool_list, kb_int_NoneType, kb_int_bool, kb_int_int, kb_int_str, kb_int_tuple, kb_int_list, kb_str_NoneType, kb_str_bool, kb_str_int, kb_str_str, kb_str_tuple, kb_str_list, kb_tuple_NoneType, kb_tuple_bool, kb_tuple_int, kb_tuple_str, kb_tuple_tuple, kb_tuple_list, kb_list_NoneType, kb_list_bool, kb_list_int, kb_list_str, kb_list_tuple, kb_list_list, c_kind_height, c_has_ground, c_opened, c_same_shape, c_as_precise, c_value_fits, c_use_fits, c__law_draws, c__law_draw, c__law_number, c__law_same, c__law_kind, c__law_tall, c__law_any_kind, c__law_agreeing, c__law_has, c__law_open, c__law_value, c__law_used, c__law_value_fits, c__law_use_fits, c__law_changed, c_law, c_Kind, so_seq, so_nil, so_set, so_expr, so_ret, so_retN, so_pass, so_brk, so_cnt, so_never, so_raise, so_try, so_ite, ret_bl, ret_int, ret_str, ret_non, so_whl]
  refine ⟨(by decide : 2 ≤ cap), (by decide : 1 ≤ cap), ?_⟩
  refine whl_ind (I := fun m v h' => ∃ (st : St) (hi : Nat) (x y : Option D), v = [some (kd a), some (.int hi), some (.ref h.length), x, y] ∧ h' = h ++ [.lst (stD st)] ∧ max hi (stH st) = ht a ∧ stS st = m ∧ m ≤ 131071) ?_ _ (sz a) _ _ ?_ ?_
  · rintro m v h' ⟨st, hi, x, y, rfl, rfl, hm, hs, hb⟩
    have e0 : (h ++ [O.lst (stD st)])[h.length]? = some (.lst (stD st)) := by simp
    simp only [ok_asB, ok_ok, ok_noex, ok_var, ok_lit, ok_prim, ok_nil, ok_cons, ok_call, ok_and, ok_or, ok_iteE, ok_chain, ok_meth, ok_attr, ok_join, ok_jnil, ok_jcons, p_not, p_add, p_sub, p_adds, p_muls, p_mulr, p_fdiv, p_mod, p_pow, p_eqi, p_eqs, p_eqb, p_nei, p_nes, p_neb, p_lt, p_le, p_gt, p_ge, p_is, p_isnot, p_lens, p_lent, p_lenk, p_int, p_bool, p_min, p_max, p_tup, p_lst, p_fmts, p_ixt, p_ixs, p_slse, p_slsu, p_isity, p_isigl, bm_rm, bm_st, tr_bl, tr_non, tr_int, tr_tup, tr_kls, tr_str, Mp.isNon, List.getElem?_cons_zero, List.getElem?_cons_succ, List.set_cons_zero, List.set_cons_succ, ity_non, ity_bl, ity_int, ity_str, ity_tup, ity_kls, kb_NoneType_NoneType, kb_NoneType_bool, kb_NoneType_int, kb_NoneType_str, kb_NoneType_tuple, kb_NoneType_list, kb_bool_NoneType, kb_bool_bool, kb_bool_int, kb_bool_str, kb_bool_tuple, kb_bool_list, kb_int_NoneType, kb_int_bool, kb_int_int, kb_int_str, kb_int_tuple, kb_int_list, kb_str_NoneType, kb_str_bool, kb_str_int, kb_str_str, kb_str_tuple, kb_str_list, kb_tuple_NoneType, kb_tuple_bool, kb_tuple_int, kb_tuple_str, kb_tuple_tuple, kb_tuple_list, kb_list_NoneType, kb_list_bool, kb_list_int, kb_list_str, kb_list_tuple, kb_list_list, c_kind_height, c_has_ground, c_opened, c_same_shape, c_as_precise, c_value_fits, c_use_fits, c__law_draws, c__law_draw, c__law_number, c__law_same, c__law_kind, c__law_tall, c__law_any_kind, c__law_agreeing, c__law_has, c__law_open, c__law_value, c__law_used, c__law_value_fits, c__law_use_fits, c__law_changed, c_law, c_Kind, tr_lst e0]
    rcases snoc_of st with rfl | ⟨r, ⟨q, d⟩, rfl⟩
    · simp only [stD, List.map_nil, List.isEmpty_nil, Bool.not_true, Bool.false_eq_true, if_false, ok_ok, ok_noex, ok_var, ok_lit, ok_prim, ok_nil, ok_cons, ok_call, ok_and, ok_or, ok_iteE, ok_chain, ok_meth, ok_attr, ok_join, ok_jnil, ok_jcons, p_not, p_add, p_sub, p_adds, p_muls, p_mulr, p_fdiv, p_mod, p_pow, p_eqi, p_eqs, p_eqb, p_nei, p_nes, p_neb, p_lt, p_le, p_gt, p_ge, p_is, p_isnot, p_lens, p_lent, p_lenk, p_int, p_bool, p_min, p_max, p_tup, p_lst, p_fmts, p_ixt, p_ixs, p_slse, p_slsu, p_isity, p_isigl, bm_rm, bm_st, tr_bl, tr_non, tr_int, tr_tup, tr_kls, tr_str, Mp.isNon, List.getElem?_cons_zero, List.getElem?_cons_succ, List.set_cons_zero, List.set_cons_succ, ity_non, ity_bl, ity_int, ity_str, ity_tup, ity_kls, kb_NoneType_NoneType, kb_NoneType_bool, kb_NoneType_int, kb_NoneType_str, kb_NoneType_tuple, kb_NoneType_list, kb_bool_NoneType, kb_bool_bool, kb_bool_int, kb_bool_str, kb_bool_tuple, kb_bool_list, kb_int_NoneType, kb_int_bool, kb_int_int, kb_int_str, kb_int_tuple, kb_int_list, kb_str_NoneType, kb_str_bool, kb_str_int, kb_str_str, kb_str_tuple, kb_str_list, kb_tuple_NoneType, kb_tuple_bool, kb_tuple_int, kb_tuple_str, kb_tuple_tuple, kb_tuple_list, kb_list_NoneType, kb_list_bool, kb_list_int, kb_list_str, kb_list_tuple, kb_list_list, c_kind_height, c_has_ground, c_opened, c_same_shape, c_as_precise, c_value_fits, c_use_fits, c__law_draws, c__law_draw, c__law_number, c__law_same, c__law_kind, c__law_tall, c__law_any_kind, c__law_agreeing, c__law_has, c__law_open, c__law_value, c__law_used, c__law_value_fits, c__law_use_fits, c__law_changed, c_law, c_Kind, so_seq, so_nil, so_set, so_expr, so_ret, so_retN, so_pass, so_brk, so_cnt, so_never, so_raise, so_try, so_ite, ret_bl, ret_int, ret_str, ret_non]
      have : hi = ht a := by simpa [stH] using hm
      rw [this, ret_app rfl]
      exact ⟨rfl, rfl⟩
    · have e1 : stD (r ++ [(q, d)]) = stD r ++ [.tup [kd q, .int d]] := by simp [stD]
      have ne : (!(stD (r ++ [(q, d)])).isEmpty) = true := by rw [e1]; simp
      have e2 : (h ++ [O.lst (stD (r ++ [(q, d)]))])[h.length]? = some (.lst (stD r ++ [.tup [kd q, .int d]])) := by rw [e1]; simp
      have s1 : (h ++ [O.lst (stD (r ++ [(q, d)]))]).set h.length (.lst (stD r)) = h ++ [.lst (stD r)] := by simp
      have hz : stS (r ++ [(q, d)]) = stS r + sz q := by rw [stS_app]; rfl
      have hh : stH (r ++ [(q, d)]) = max (stH r) (d + ht q) := by rw [stH_app]; simp [stH]
      have e3 : ∀ l : List D, (h ++ [O.lst l])[h.length]? = some (.lst l) := fun l => by simp
      have s2 : ∀ l l' : List D, (h ++ [O.lst l]).set h.length (.lst l') = h ++ [.lst l'] := fun l l' => by simp
      have hl := stS_len r
      rw [hz] at hs
      rw [hh] at hm
      have hp := sz_pos q
      have lr : (stD r).length = r.length := by simp [stD]
      simp only [ne, if_true, so_unp, ok_ok, ok_noex, ok_var, ok_lit, ok_prim, ok_nil, ok_cons, ok_call, ok_and, ok_or, ok_iteE, ok_chain, ok_meth, ok_attr, ok_join, ok_jnil, ok_jcons, p_not, p_add, p_sub, p_adds, p_muls, p_mulr, p_fdiv, p_mod, p_pow, p_eqi, p_eqs, p_eqb, p_nei, p_nes, p_neb, p_lt, p_le, p_gt, p_ge, p_is, p_isnot, p_lens, p_lent, p_lenk, p_int, p_bool, p_min, p_max, p_tup, p_lst, p_fmts, p_ixt, p_ixs, p_slse, p_slsu, p_isity, p_isigl, bm_rm, bm_st, tr_bl, tr_non, tr_int, tr_tup, tr_kls, tr_str, Mp.isNon, List.getElem?_cons_zero, List.getElem?_cons_succ, List.set_cons_zero, List.set_cons_succ, ity_non, ity_bl, ity_int, ity_str, ity_tup, ity_kls, kb_NoneType_NoneType, kb_NoneType_bool, kb_NoneType_int, kb_NoneType_str, kb_NoneType_tuple, kb_NoneType_list, kb_bool_NoneType, kb_bool_bool, kb_bool_int, kb_bool_str, kb_bool_tuple, kb_bool_list, kb_int_NoneType, kb_int_bool, kb_int_int, kb_int_str, kb_int_tuple, kb_int_list, kb_str_NoneType, kb_str_bool, kb_str_int, kb_str_str, kb_str_tuple, kb_str_list, kb_tuple_NoneType, kb_tuple_bool, kb_tuple_int, kb_tuple_str, kb_tuple_tuple, kb_tuple_list, kb_list_NoneType, kb_list_bool, kb_list_int, kb_list_str, kb_list_tuple, kb_list_list, c_kind_height, c_has_ground, c_opened, c_same_shape, c_as_precise, c_value_fits, c_use_fits, c__law_draws, c__law_draw, c__law_number, c__law_same, c__law_kind, c__law_tall, c__law_any_kind, c__law_agreeing, c__law_has, c__law_open, c__law_value, c__law_used, c__law_value_fits, c__law_use_fits, c__law_changed, c_law, c_Kind, so_seq, so_nil, so_set, so_expr, so_ret, so_retN, so_pass, so_brk, so_cnt, so_never, so_raise, so_try, so_ite, ret_bl, ret_int, ret_str, ret_non, mth_lst e2 (bt_lst e2).2.1, bm_pop e2, s1, setMany, kd_ty]
      have c1 : ∀ n : Nat, n ≤ 4000000 → n ≤ cap := fun n hn => hn
      have c2 : ∀ n : Nat, n < 4000000 → n < cap := fun n hn => hn
      have two : ∀ (q1 q2 : Kn), sz q = sz q1 + sz q2 + 1 → ht q = max (ht q1) (ht q2) + 1 → stD (r ++ [(q1, d + 1), (q2, d + 1)]) = stD r ++ [.tup [kd q1, .int ((d : Int) + 1)]] ++ [.tup [kd q2, .int ((d : Int) + 1)]] := fun q1 q2 _ _ => by simp [stD]
      cases q with
      | fn q1 q2 =>
        have es : sz (.fn q1 q2) = sz q1 + sz q2 + 1 := rfl
        have eh : ht (.fn q1 q2) = max (ht q1) (ht q2) + 1 := rfl
        have a1 : Mp.atI [D.str "fun", kd q1, kd q2] 1 = some (kd q1) := rfl
        have a2 : Mp.atI [D.str "fun", kd q1, kd q2] 2 = some (kd q2) := rfl
        simp only [isP, if_true, kd, ok_ok, ok_noex, ok_var, ok_lit, ok_prim, ok_nil, ok_cons, ok_call, ok_and, ok_or, ok_iteE, ok_chain, ok_meth, ok_attr, ok_join, ok_jnil, ok_jcons, p_not, p_add, p_sub, p_adds, p_muls, p_mulr, p_fdiv, p_mod, p_pow, p_eqi, p_eqs, p_eqb, p_nei, p_nes, p_neb, p_lt, p_le, p_gt, p_ge, p_is, p_isnot, p_lens, p_lent, p_lenk, p_int, p_bool, p_min, p_max, p_tup, p_lst, p_fmts, p_ixt, p_ixs, p_slse, p_slsu, p_isity, p_isigl, bm_rm, bm_st, tr_bl, tr_non, tr_int, tr_tup, tr_kls, tr_str, Mp.isNon, List.getElem?_cons_zero, List.getElem?_cons_succ, List.set_cons_zero, List.set_cons_succ, ity_non, ity_bl, ity_int, ity_str, ity_tup, ity_kls, kb_NoneType_NoneType, kb_NoneType_bool, kb_NoneType_int, kb_NoneType_str, kb_NoneType_tuple, kb_NoneType_list, kb_bool_NoneType, kb_bool_bool, kb_bool_int, kb_bool_str, kb_bool_tuple, kb_bool_list, kb_int_NoneType, kb_int_bool, kb_int_int, kb_int_str, kb_int_tuple, kb_int_list, kb_str_NoneType, kb_str_bool, kb_str_int, kb_str_str, kb_str_tuple, kb_str_list, kb_tuple_NoneType, kb_tuple_bool, kb_tuple_int, kb_tuple_str, kb_tuple_tuple, kb_tuple_list, kb_list_NoneType, kb_list_bool, kb_list_int, kb_list_str, kb_list_tuple, kb_list_list, c_kind_height, c_has_ground, c_opened, c_same_shape, c_as_precise, c_value_fits, c_use_fits, c__law_draws, c__law_draw, c__law_number, c__law_same, c__law_kind, c__law_tall, c__law_any_kind, c__law_agreeing, c__law_has, c__law_open, c__law_value, c__law_used, c__law_value_fits, c__law_use_fits, c__law_changed, c_law, c_Kind, so_seq, so_nil, so_set, so_expr, so_ret, so_retN, so_pass, so_brk, so_cnt, so_never, so_raise, so_try, so_ite, ret_bl, ret_int, ret_str, ret_non, mth_lst (e3 _) (bt_lst (e3 _)).1, a1, a2, bm_append (e3 _), s2, lr]
        refine ⟨(by decide : 2 ≤ cap), c2 _ (by omega), (by decide : 2 ≤ cap), c2 _ (by rw [List.length_append, lr]; show r.length + 1 < _; omega), stS r + sz q1 + sz q2, by omega, r ++ [(q1, d + 1), (q2, d + 1)], hi, _, _, rfl, by rw [two q1 q2 es eh], ?_, ?_, by omega⟩
        · have : stH [(q1, d + 1), (q2, d + 1)] = max (d + 1 + ht q1) (max (d + 1 + ht q2) 0) := rfl
          rw [stH_app, this]
          rw [eh] at hm
          omega
        · rw [stS_app]
          show stS r + (sz q1 + (sz q2 + 0)) = _
          omega
      | pr q1 q2 =>
        have es : sz (.pr q1 q2) = sz q1 + sz q2 + 1 := rfl
        have eh : ht (.pr q1 q2) = max (ht q1) (ht q2) + 1 := rfl
        have a1 : Mp.atI [D.str "pair", kd q1, kd q2] 1 = some (kd q1) := rfl
        have a2 : Mp.atI [D.str "pair", kd q1, kd q2] 2 = some (kd q2) := rfl
        simp only [isP, if_true, kd, ok_ok, ok_noex, ok_var, ok_lit, ok_prim, ok_nil, ok_cons, ok_call, ok_and, ok_or, ok_iteE, ok_chain, ok_meth, ok_attr, ok_join, ok_jnil, ok_jcons, p_not, p_add, p_sub, p_adds, p_muls, p_mulr, p_fdiv, p_mod, p_pow, p_eqi, p_eqs, p_eqb, p_nei, p_nes, p_neb, p_lt, p_le, p_gt, p_ge, p_is, p_isnot, p_lens, p_lent, p_lenk, p_int, p_bool, p_min, p_max, p_tup, p_lst, p_fmts, p_ixt, p_ixs, p_slse, p_slsu, p_isity, p_isigl, bm_rm, bm_st, tr_bl, tr_non, tr_int, tr_tup, tr_kls, tr_str, Mp.isNon, List.getElem?_cons_zero, List.getElem?_cons_succ, List.set_cons_zero, List.set_cons_succ, ity_non, ity_bl, ity_int, ity_str, ity_tup, ity_kls, kb_NoneType_NoneType, kb_NoneType_bool, kb_NoneType_int, kb_NoneType_str, kb_NoneType_tuple, kb_NoneType_list, kb_bool_NoneType, kb_bool_bool, kb_bool_int, kb_bool_str, kb_bool_tuple, kb_bool_list, kb_int_NoneType, kb_int_bool, kb_int_int, kb_int_str, kb_int_tuple, kb_int_list, kb_str_NoneType, kb_str_bool, kb_str_int, kb_str_str, kb_str_tuple, kb_str_list, kb_tuple_NoneType, kb_tuple_bool, kb_tuple_int, kb_tuple_str, kb_tuple_tuple, kb_tuple_list, kb_list_NoneType, kb_list_bool, kb_list_int, kb_list_str, kb_list_tuple, kb_list_list, c_kind_height, c_has_ground, c_opened, c_same_shape, c_as_precise, c_value_fits, c_use_fits, c__law_draws, c__law_draw, c__law_number, c__law_same, c__law_kind, c__law_tall, c__law_any_kind, c__law_agreeing, c__law_has, c__law_open, c__law_value, c__law_used, c__law_value_fits, c__law_use_fits, c__law_changed, c_law, c_Kind, so_seq, so_nil, so_set, so_expr, so_ret, so_retN, so_pass, so_brk, so_cnt, so_never, so_raise, so_try, so_ite, ret_bl, ret_int, ret_str, ret_non, mth_lst (e3 _) (bt_lst (e3 _)).1, a1, a2, bm_append (e3 _), s2, lr]
        refine ⟨(by decide : 2 ≤ cap), c2 _ (by omega), (by decide : 2 ≤ cap), c2 _ (by rw [List.length_append, lr]; show r.length + 1 < _; omega), stS r + sz q1 + sz q2, by omega, r ++ [(q1, d + 1), (q2, d + 1)], hi, _, _, rfl, by rw [two q1 q2 es eh], ?_, ?_, by omega⟩
        · have : stH [(q1, d + 1), (q2, d + 1)] = max (d + 1 + ht q1) (max (d + 1 + ht q2) 0) := rfl
          rw [stH_app, this]
          rw [eh] at hm
          omega
        · rw [stS_app]
          show stS r + (sz q1 + (sz q2 + 0)) = _
          omega
      | _ =>
        simp only [isP, Bool.false_eq_true, if_false, ok_ok, ok_noex, ok_var, ok_lit, ok_prim, ok_nil, ok_cons, ok_call, ok_and, ok_or, ok_iteE, ok_chain, ok_meth, ok_attr, ok_join, ok_jnil, ok_jcons, p_not, p_add, p_sub, p_adds, p_muls, p_mulr, p_fdiv, p_mod, p_pow, p_eqi, p_eqs, p_eqb, p_nei, p_nes, p_neb, p_lt, p_le, p_gt, p_ge, p_is, p_isnot, p_lens, p_lent, p_lenk, p_int, p_bool, p_min, p_max, p_tup, p_lst, p_fmts, p_ixt, p_ixs, p_slse, p_slsu, p_isity, p_isigl, bm_rm, bm_st, tr_bl, tr_non, tr_int, tr_tup, tr_kls, tr_str, Mp.isNon, List.getElem?_cons_zero, List.getElem?_cons_succ, List.set_cons_zero, List.set_cons_succ, ity_non, ity_bl, ity_int, ity_str, ity_tup, ity_kls, kb_NoneType_NoneType, kb_NoneType_bool, kb_NoneType_int, kb_NoneType_str, kb_NoneType_tuple, kb_NoneType_list, kb_bool_NoneType, kb_bool_bool, kb_bool_int, kb_bool_str, kb_bool_tuple, kb_bool_list, kb_int_NoneType, kb_int_bool, kb_int_int, kb_int_str, kb_int_tuple, kb_int_list, kb_str_NoneType, kb_str_bool, kb_str_int, kb_str_str, kb_str_tuple, kb_str_list, kb_tuple_NoneType, kb_tuple_bool, kb_tuple_int, kb_tuple_str, kb_tuple_tuple, kb_tuple_list, kb_list_NoneType, kb_list_bool, kb_list_int, kb_list_str, kb_list_tuple, kb_list_list, c_kind_height, c_has_ground, c_opened, c_same_shape, c_as_precise, c_value_fits, c_use_fits, c__law_draws, c__law_draw, c__law_number, c__law_same, c__law_kind, c__law_tall, c__law_any_kind, c__law_agreeing, c__law_has, c__law_open, c__law_value, c__law_used, c__law_value_fits, c__law_use_fits, c__law_changed, c_law, c_Kind, so_seq, so_nil, so_set, so_expr, so_ret, so_retN, so_pass, so_brk, so_cnt, so_never, so_raise, so_try, so_ite, ret_bl, ret_int, ret_str, ret_non]
        have hm' : max hi (max (stH r) (d + 0)) = ht a := hm
        by_cases hd : (hi : Int) < (d : Int)
        · simp only [hd, decide_true, if_true]
          exact ⟨stS r, by omega, r, d, _, _, rfl, rfl, by omega, rfl, by omega⟩
        · simp only [hd, decide_false, Bool.false_eq_true, if_false]
          exact ⟨stS r, by omega, r, hi, _, _, rfl, rfl, by omega, rfl, by omega⟩
  · exact Nat.lt_of_le_of_lt (show sz a ≤ 2 ^ 17 from Nat.le_trans (Nat.le_of_succ_le (sz_le a)) (Nat.pow_le_pow_right (by decide) (by omega))) (by decide)
  · refine ⟨[(a, 0)], 0, _, _, rfl, rfl, by simp [stH], by simp [stS], ?_⟩
    have := sz_le a
    have h2 : 2 ^ (ht a + 1) ≤ 2 ^ 17 := Nat.pow_le_pow_right (by decide) (by omega)
    have : 2 ^ 17 = 131072 := rfl
    omega
theorem height (k : Nat) (h : HD) (a : Kn) (h8 : ht a ≤ 8) : run tb.prog (k + 1) "kind_height" [kd a] h = .ok (.int (ht a)) h := height16 k h a (by omega)
abbrev ko (a : Kn) : O := .ins "Kind" [("tree", kd a)]
theorem ko_tree {C : Cal} {h : HD} {Q : D → HD → Prop} {i : Nat} {a : Kn} (e : h[i]? = some (ko a)) : atr tb.gi C (.ref i) "tree" h Q = Q (kd a) h := atr_fld e o_Kind a_Kind_tree (by rfl)
theorem mk (k : Nat) (h : HD) (a : Kn) (h8 : ht a ≤ 8) {Q : D → HD → Prop} : okx (fun _ _ => False) (mkD tb.gi (run tb.prog (k + 2)) "Kind" [kd a] h) Q = Q (.ref h.length) (h ++ [ko a]) := by
  rw [ok_mk "Kind.__init__" i_Kind]
  have e1 : (h ++ [O.ins "Kind" []])[h.length]? = some (.ins "Kind" []) := by simp
  have e4 : (h ++ [O.ins "Kind" []]).set h.length (ko a) = h ++ [ko a] := by simp
  have p1 : putF "tree" (kd a) [] = ([("tree", kd a)] : List (Str × D)) := rfl
  have n8 : decide ((8 : Int) < (ht a : Int)) = false := decide_eq_false (by omega)
  have g : ∀ Q : D → HD → Prop, RetQ (h ++ [O.ins "Kind" []]) Q .non (h ++ [ko a]) = Q .non (h ++ [ko a]) := fun Q => by
    unfold RetQ
    have c : (ko a).cl (h ++ [O.ins "Kind" []]).length = true := by
      show ((kd a).cl _ && true) = true
      rw [kd_cl]; rfl
    rw [gc_set (i := h.length) (o := ko a) rfl (by simp) c (by simp) (fun j _ => by rw [e4]), e4]
  simp only [r_Kind___init__, F_Kind___init__, so_setAt, ok_ok, ok_noex, ok_var, ok_lit, ok_prim, ok_nil, ok_cons, ok_call, ok_and, ok_or, ok_iteE, ok_chain, ok_meth, ok_attr, ok_join, ok_jnil, ok_jcons, p_not, p_add, p_sub, p_adds, p_muls, p_mulr, p_fdiv, p_mod, p_pow, p_eqi, p_eqs, p_eqb, p_nei, p_nes, p_neb, p_lt, p_le, p_gt, p_ge, p_is, p_isnot, p_lens, p_lent, p_lenk, p_int, p_bool, p_min, p_max, p_tup, p_lst, p_fmts, p_ixt, p_ixs, p_slse, p_slsu, p_isity, p_isigl, bm_rm, bm_st, tr_bl, tr_non, tr_int, tr_tup, tr_kls, tr_str, Mp.isNon, List.getElem?_cons_zero, List.getElem?_cons_succ, List.set_cons_zero, List.set_cons_succ, ity_non, ity_bl, ity_int, ity_str, ity_tup, ity_kls, kb_NoneType_NoneType, kb_NoneType_bool, kb_NoneType_int, kb_NoneType_str, kb_NoneType_tuple, kb_NoneType_list, kb_bool_NoneType, kb_bool_bool, kb_bool_int, kb_bool_str, kb_bool_tuple, kb_bool_list, kb_int_NoneType, kb_int_bool, kb_int_int, kb_int_str, kb_int_tuple, kb_int_list, kb_str_NoneType, kb_str_bool, kb_str_int, kb_str_str, kb_str_tuple, kb_str_list, kb_tuple_NoneType, kb_tuple_bool, kb_tuple_int, kb_tuple_str, kb_tuple_tuple, kb_tuple_list, kb_list_NoneType, kb_list_bool, kb_list_int, kb_list_str, kb_list_tuple, kb_list_list, c_kind_height, c_has_ground, c_opened, c_same_shape, c_as_precise, c_value_fits, c_use_fits, c__law_draws, c__law_draw, c__law_number, c__law_same, c__law_kind, c__law_tall, c__law_any_kind, c__law_agreeing, c__law_has, c__law_open, c__law_value, c__law_used, c__law_value_fits, c__law_use_fits, c__law_changed, c_law, c_Kind, so_seq, so_nil, so_set, so_expr, so_ret, so_retN, so_pass, so_brk, so_cnt, so_never, so_raise, so_try, so_ite, ret_bl, ret_int, ret_str, ret_non, height k _ a h8, atr_con (.int 8) e1 o_Kind a_Kind_LIMIT (by rfl), n8, Bool.false_eq_true, if_false, e1, o_Kind, if_true, a_Kind_tree, p1, e4, g, true_and]
  simp
theorem same_s (k : Nat) (a b : Str) (h : HD) : run tb.prog (k + 1) "_law_same" [.str a, .str b] h = .ok (.bl (decide (a = b))) h := by
  apply of_ok
  simp only [r__law_same, F__law_same, ok_ok, ok_noex, ok_var, ok_lit, ok_prim, ok_nil, ok_cons, ok_call, ok_and, ok_or, ok_iteE, ok_chain, ok_meth, ok_attr, ok_join, ok_jnil, ok_jcons, p_not, p_add, p_sub, p_adds, p_muls, p_mulr, p_fdiv, p_mod, p_pow, p_eqi, p_eqs, p_eqb, p_nei, p_nes, p_neb, p_lt, p_le, p_gt, p_ge, p_is, p_isnot, p_lens, p_lent, p_lenk, p_int, p_bool, p_min, p_max, p_tup, p_lst, p_fmts, p_ixt, p_ixs, p_slse, p_slsu, p_isity, p_isigl, bm_rm, bm_st, tr_bl, tr_non, tr_int, tr_tup, tr_kls, tr_str, Mp.isNon, List.getElem?_cons_zero, List.getElem?_cons_succ, List.set_cons_zero, List.set_cons_succ, ity_non, ity_bl, ity_int, ity_str, ity_tup, ity_kls, kb_NoneType_NoneType, kb_NoneType_bool, kb_NoneType_int, kb_NoneType_str, kb_NoneType_tuple, kb_NoneType_list, kb_bool_NoneType, kb_bool_bool, kb_bool_int, kb_bool_str, kb_bool_tuple, kb_bool_list, kb_int_NoneType, kb_int_bool, kb_int_int, kb_int_str, kb_int_tuple, kb_int_list, kb_str_NoneType, kb_str_bool, kb_str_int, kb_str_str, kb_str_tuple, kb_str_list, kb_tuple_NoneType, kb_tuple_bool, kb_tuple_int, kb_tuple_str, kb_tuple_tuple, kb_tuple_list, kb_list_NoneType, kb_list_bool, kb_list_int, kb_list_str, kb_list_tuple, kb_list_list, c_kind_height, c_has_ground, c_opened, c_same_shape, c_as_precise, c_value_fits, c_use_fits, c__law_draws, c__law_draw, c__law_number, c__law_same, c__law_kind, c__law_tall, c__law_any_kind, c__law_agreeing, c__law_has, c__law_open, c__law_value, c__law_used, c__law_value_fits, c__law_use_fits, c__law_changed, c_law, c_Kind, so_seq, so_nil, so_set, so_expr, so_ret, so_retN, so_pass, so_brk, so_cnt, so_never, so_raise, so_try, so_ite, ret_bl, ret_int, ret_str, ret_non, Bool.false_eq_true, if_false, if_true]
  exact ⟨trivial, trivial⟩
theorem same_k (h : HD) : ∀ (a : Kn) (k : Nat), ht a + 1 ≤ k → run tb.prog k "_law_same" [kd a, kd a] h = .ok (.bl true) h := by
  have at_ : ∀ (x : Str) (k : Nat), 1 ≤ k → run tb.prog k "_law_same" [.str x, .str x] h = .ok (.bl true) h := fun x k hk => by
    obtain ⟨k, rfl⟩ : ∃ j, k = j + 1 := ⟨k - 1, by omega⟩
    rw [same_s, decide_eq_true rfl]
  have tup : ∀ (w : Str) (a b : Kn) (k : Nat), (∀ k, 1 ≤ k → run tb.prog k "_law_same" [.str w, .str w] h = .ok (.bl true) h) → (1 ≤ k) → run tb.prog k "_law_same" [kd a, kd a] h = .ok (.bl true) h → run tb.prog k "_law_same" [kd b, kd b] h = .ok (.bl true) h →
      run tb.prog (k + 1) "_law_same" [.tup [.str w, kd a, kd b], .tup [.str w, kd a, kd b]] h = .ok (.bl true) h := fun w a b k hw hk ea eb => by
    apply of_ok
    rw [r__law_same]
    simp only [F__law_same, ok_ok, ok_noex, ok_var, ok_lit, ok_prim, ok_nil, ok_cons, ok_call, ok_and, ok_or, ok_iteE, ok_chain, ok_meth, ok_attr, ok_join, ok_jnil, ok_jcons, p_not, p_add, p_sub, p_adds, p_muls, p_mulr, p_fdiv, p_mod, p_pow, p_eqi, p_eqs, p_eqb, p_nei, p_nes, p_neb, p_lt, p_le, p_gt, p_ge, p_is, p_isnot, p_lens, p_lent, p_lenk, p_int, p_bool, p_min, p_max, p_tup, p_lst, p_fmts, p_ixt, p_ixs, p_slse, p_slsu, p_isity, p_isigl, bm_rm, bm_st, tr_bl, tr_non, tr_int, tr_tup, tr_kls, tr_str, Mp.isNon, List.getElem?_cons_zero, List.getElem?_cons_succ, List.set_cons_zero, List.set_cons_succ, ity_non, ity_bl, ity_int, ity_str, ity_tup, ity_kls, kb_NoneType_NoneType, kb_NoneType_bool, kb_NoneType_int, kb_NoneType_str, kb_NoneType_tuple, kb_NoneType_list, kb_bool_NoneType, kb_bool_bool, kb_bool_int, kb_bool_str, kb_bool_tuple, kb_bool_list, kb_int_NoneType, kb_int_bool, kb_int_int, kb_int_str, kb_int_tuple, kb_int_list, kb_str_NoneType, kb_str_bool, kb_str_int, kb_str_str, kb_str_tuple, kb_str_list, kb_tuple_NoneType, kb_tuple_bool, kb_tuple_int, kb_tuple_str, kb_tuple_tuple, kb_tuple_list, kb_list_NoneType, kb_list_bool, kb_list_int, kb_list_str, kb_list_tuple, kb_list_list, c_kind_height, c_has_ground, c_opened, c_same_shape, c_as_precise, c_value_fits, c_use_fits, c__law_draws, c__law_draw, c__law_number, c__law_same, c__law_kind, c__law_tall, c__law_any_kind, c__law_agreeing, c__law_has, c__law_open, c__law_value, c__law_used, c__law_value_fits, c__law_use_fits, c__law_changed, c_law, c_Kind, so_seq, so_nil, so_set, so_expr, so_ret, so_retN, so_pass, so_brk, so_cnt, so_never, so_raise, so_try, so_ite, ret_bl, ret_int, ret_str, ret_non, Bool.false_eq_true, if_false, if_true, so_for, ok_itrng1, Bool.not_true, List.length_cons, List.length_nil, decide_true]
    refine ⟨by decide, by decide, ?_⟩
    refine for_rng (t := .one 2) (I := fun i v h' => (∃ x, v = [some (.tup [.str w, kd a, kd b]), some (.tup [.str w, kd a, kd b]), x]) ∧ h' = h) ?_ ?_ ⟨⟨_, rfl⟩, rfl⟩
    · rintro i v h' hi ⟨⟨x, rfl⟩, rfl⟩
      have hi : i < 3 := hi
      have fin : ∀ d, Mp.atI [D.str w, kd a, kd b] (0 + (i : Int)) = some d → run tb.prog k "_law_same" [d, d] h' = .ok (.bl true) h' → sox (fun _ _ _ => False) (exB tb.gi (Mp.run tb.prog k) [
          .ite (.prim .not [(.call (.lit (.gl ("_law_same" : Str))) [(.prim .ix [(.var 0), (.var 2)]), (.prim .ix [(.var 1), (.var 2)])])]) [
            .ret (.lit (.bl false))] []] [some (.tup [.str w, kd a, kd b]), some (.tup [.str w, kd a, kd b]), some (.int (0 + (i : Int)))] h') (fun v h'_1 => (∃ x, v = [some (.tup [.str w, kd a, kd b]), some (.tup [.str w, kd a, kd b]), x]) ∧ h'_1 = h') (fun d h'_1 => RetQ h' (fun a b => a = .bl true ∧ b = h') d h'_1) (fun v h_1 => RetQ h' (fun a b => a = .bl true ∧ b = h') (.bl true) h_1) (fun v h'_1 => (∃ x, v = [some (.tup [.str w, kd a, kd b]), some (.tup [.str w, kd a, kd b]), x]) ∧ h'_1 = h') := fun d e1 e2 => by
        simp only [ok_ok, ok_noex, ok_var, ok_lit, ok_prim, ok_nil, ok_cons, ok_call, ok_and, ok_or, ok_iteE, ok_chain, ok_meth, ok_attr, ok_join, ok_jnil, ok_jcons, p_not, p_add, p_sub, p_adds, p_muls, p_mulr, p_fdiv, p_mod, p_pow, p_eqi, p_eqs, p_eqb, p_nei, p_nes, p_neb, p_lt, p_le, p_gt, p_ge, p_is, p_isnot, p_lens, p_lent, p_lenk, p_int, p_bool, p_min, p_max, p_tup, p_lst, p_fmts, p_ixt, p_ixs, p_slse, p_slsu, p_isity, p_isigl, bm_rm, bm_st, tr_bl, tr_non, tr_int, tr_tup, tr_kls, tr_str, Mp.isNon, List.getElem?_cons_zero, List.getElem?_cons_succ, List.set_cons_zero, List.set_cons_succ, ity_non, ity_bl, ity_int, ity_str, ity_tup, ity_kls, kb_NoneType_NoneType, kb_NoneType_bool, kb_NoneType_int, kb_NoneType_str, kb_NoneType_tuple, kb_NoneType_list, kb_bool_NoneType, kb_bool_bool, kb_bool_int, kb_bool_str, kb_bool_tuple, kb_bool_list, kb_int_NoneType, kb_int_bool, kb_int_int, kb_int_str, kb_int_tuple, kb_int_list, kb_str_NoneType, kb_str_bool, kb_str_int, kb_str_str, kb_str_tuple, kb_str_list, kb_tuple_NoneType, kb_tuple_bool, kb_tuple_int, kb_tuple_str, kb_tuple_tuple, kb_tuple_list, kb_list_NoneType, kb_list_bool, kb_list_int, kb_list_str, kb_list_tuple, kb_list_list, c_kind_height, c_has_ground, c_opened, c_same_shape, c_as_precise, c_value_fits, c_use_fits, c__law_draws, c__law_draw, c__law_number, c__law_same, c__law_kind, c__law_tall, c__law_any_kind, c__law_agreeing, c__law_has, c__law_open, c__law_value, c__law_used, c__law_value_fits, c__law_use_fits, c__law_changed, c_law, c_Kind, so_seq, so_nil, so_set, so_expr, so_ret, so_retN, so_pass, so_brk, so_cnt, so_never, so_raise, so_try, so_ite, ret_bl, ret_int, ret_str, ret_non, e1, e2, Bool.not_true, Bool.false_eq_true, if_false]
        exact ⟨⟨_, rfl⟩, trivial⟩
      simp only [tgt, List.set_cons_succ, List.set_cons_zero]
      match i, hi with
      | 0, _ => exact fin _ (by rfl) (hw k hk)
      | 1, _ => exact fin _ (by rfl) ea
      | 2, _ => exact fin _ (by rfl) eb
    · rintro v h' ⟨⟨x, rfl⟩, rfl⟩
      exact ⟨rfl, gc_id rfl⟩
  intro a
  induction a with
  | fn a b iha ihb =>
    intro k hk
    have hk : max (ht a) (ht b) + 1 + 1 ≤ k := hk
    obtain ⟨k, rfl⟩ : ∃ j, k = j + 1 := ⟨k - 1, by omega⟩
    exact tup _ a b k (at_ _) (by omega) (iha k (by omega)) (ihb k (by omega))
  | pr a b iha ihb =>
    intro k hk
    have hk : max (ht a) (ht b) + 1 + 1 ≤ k := hk
    obtain ⟨k, rfl⟩ : ∃ j, k = j + 1 := ⟨k - 1, by omega⟩
    exact tup _ a b k (at_ _) (by omega) (iha k (by omega)) (ihb k (by omega))
  | _ => intro k hk; exact at_ _ k (by have := hk; omega)
/-! ### drawn kinds -/
abbrev l6 : List D := [.str "?", .str "int", .str "bool", .str "unit", .str "?", .str "int"]
theorem l6_at {i : Int} (h0 : 0 ≤ i) (h1 : i < 6) : ∃ a : Kn, ht a = 0 ∧ Mp.atI l6 i = some (kd a) := by
  obtain ⟨c, hc, e⟩ := atI_lt (l := l6) (n := 6) h0 h1 (by decide)
  have hc : c ∈ l6 := List.mem_of_mem_take hc
  simp only [List.mem_cons, List.not_mem_nil, or_false] at hc
  rcases hc with rfl | rfl | rfl | rfl | rfl | rfl
  · exact ⟨.unk, rfl, e⟩
  · exact ⟨.int, rfl, e⟩
  · exact ⟨.bool, rfl, e⟩
  · exact ⟨.unit, rfl, e⟩
  · exact ⟨.unk, rfl, e⟩
  · exact ⟨.int, rfl, e⟩
abbrev l2 : List D := [.str "fun", .str "pair"]
theorem l2_at {i : Int} (h0 : 0 ≤ i) (h1 : i < 2) : ∃ w : Bool, Mp.atI l2 i = some (.str (if w then "fun" else "pair")) := by
  obtain ⟨c, hc, e⟩ := atI_lt (l := l2) (n := 2) h0 h1 (by decide)
  have hc : c ∈ l2 := List.mem_of_mem_take hc
  simp only [List.mem_cons, List.not_mem_nil, or_false] at hc
  rcases hc with rfl | rfl
  · exact ⟨true, e⟩
  · exact ⟨false, e⟩
def tw (w : Bool) (a b : Kn) : Kn := if w then .fn a b else .pr a b
theorem tw_kd (w : Bool) (a b : Kn) : kd (tw w a b) = .tup [.str (if w then "fun" else "pair"), kd a, kd b] := by cases w <;> rfl
theorem tw_ht (w : Bool) (a b : Kn) : ht (tw w a b) = max (ht a) (ht b) + 1 := by cases w <;> rfl
theorem c3 (x y z : D) : [x, y, z].length ≤ cap := (by decide : 3 ≤ cap)
theorem kindE : ∀ (n : Nat) (k : Nat) (ds : List Int) (t : HD) {Q : D → HD → Prop}, (∀ a ds', ht a ≤ n → Q (kd a) (li ds' :: t)) → okx (fun _ _ => False) (run tb.prog (k + n + 2) "_law_kind" [.ref 0, .int (n : Int)] (li ds :: t)) Q
  | 0, k, ds, t, Q, q => by
    rw [r__law_kind]
    simp only [F__law_kind, ok_ok, ok_noex, ok_var, ok_lit, ok_prim, ok_nil, ok_cons, ok_call, ok_and, ok_or, ok_iteE, ok_chain, ok_meth, ok_attr, ok_join, ok_jnil, ok_jcons, p_not, p_add, p_sub, p_adds, p_muls, p_mulr, p_fdiv, p_mod, p_pow, p_eqi, p_eqs, p_eqb, p_nei, p_nes, p_neb, p_lt, p_le, p_gt, p_ge, p_is, p_isnot, p_lens, p_lent, p_lenk, p_int, p_bool, p_min, p_max, p_tup, p_lst, p_fmts, p_ixt, p_ixs, p_slse, p_slsu, p_isity, p_isigl, bm_rm, bm_st, tr_bl, tr_non, tr_int, tr_tup, tr_kls, tr_str, Mp.isNon, List.getElem?_cons_zero, List.getElem?_cons_succ, List.set_cons_zero, List.set_cons_succ, ity_non, ity_bl, ity_int, ity_str, ity_tup, ity_kls, kb_NoneType_NoneType, kb_NoneType_bool, kb_NoneType_int, kb_NoneType_str, kb_NoneType_tuple, kb_NoneType_list, kb_bool_NoneType, kb_bool_bool, kb_bool_int, kb_bool_str, kb_bool_tuple, kb_bool_list, kb_int_NoneType, kb_int_bool, kb_int_int, kb_int_str, kb_int_tuple, kb_int_list, kb_str_NoneType, kb_str_bool, kb_str_int, kb_str_str, kb_str_tuple, kb_str_list, kb_tuple_NoneType, kb_tuple_bool, kb_tuple_int, kb_tuple_str, kb_tuple_tuple, kb_tuple_list, kb_list_NoneType, kb_list_bool, kb_list_int, kb_list_str, kb_list_tuple, kb_list_list, c_kind_height, c_has_ground, c_opened, c_same_shape, c_as_precise, c_value_fits, c_use_fits, c__law_draws, c__law_draw, c__law_number, c__law_same, c__law_kind, c__law_tall, c__law_any_kind, c__law_agreeing, c__law_has, c__law_open, c__law_value, c__law_used, c__law_value_fits, c__law_use_fits, c__law_changed, c_law, c_Kind, so_seq, so_nil, so_set, so_expr, so_ret, so_retN, so_pass, so_brk, so_cnt, so_never, so_raise, so_try, so_ite, ret_bl, ret_int, ret_str, ret_non]
    refine draw (k + 0) ds t 9 (by decide) fun way d1 w0 w1 => ?_
    simp only [ok_ok, ok_noex, ok_var, ok_lit, ok_prim, ok_nil, ok_cons, ok_call, ok_and, ok_or, ok_iteE, ok_chain, ok_meth, ok_attr, ok_join, ok_jnil, ok_jcons, p_not, p_add, p_sub, p_adds, p_muls, p_mulr, p_fdiv, p_mod, p_pow, p_eqi, p_eqs, p_eqb, p_nei, p_nes, p_neb, p_lt, p_le, p_gt, p_ge, p_is, p_isnot, p_lens, p_lent, p_lenk, p_int, p_bool, p_min, p_max, p_tup, p_lst, p_fmts, p_ixt, p_ixs, p_slse, p_slsu, p_isity, p_isigl, bm_rm, bm_st, tr_bl, tr_non, tr_int, tr_tup, tr_kls, tr_str, Mp.isNon, List.getElem?_cons_zero, List.getElem?_cons_succ, List.set_cons_zero, List.set_cons_succ, ity_non, ity_bl, ity_int, ity_str, ity_tup, ity_kls, kb_NoneType_NoneType, kb_NoneType_bool, kb_NoneType_int, kb_NoneType_str, kb_NoneType_tuple, kb_NoneType_list, kb_bool_NoneType, kb_bool_bool, kb_bool_int, kb_bool_str, kb_bool_tuple, kb_bool_list, kb_int_NoneType, kb_int_bool, kb_int_int, kb_int_str, kb_int_tuple, kb_int_list, kb_str_NoneType, kb_str_bool, kb_str_int, kb_str_str, kb_str_tuple, kb_str_list, kb_tuple_NoneType, kb_tuple_bool, kb_tuple_int, kb_tuple_str, kb_tuple_tuple, kb_tuple_list, kb_list_NoneType, kb_list_bool, kb_list_int, kb_list_str, kb_list_tuple, kb_list_list, c_kind_height, c_has_ground, c_opened, c_same_shape, c_as_precise, c_value_fits, c_use_fits, c__law_draws, c__law_draw, c__law_number, c__law_same, c__law_kind, c__law_tall, c__law_any_kind, c__law_agreeing, c__law_has, c__law_open, c__law_value, c__law_used, c__law_value_fits, c__law_use_fits, c__law_changed, c_law, c_Kind, so_seq, so_nil, so_set, so_expr, so_ret, so_retN, so_pass, so_brk, so_cnt, so_never, so_raise, so_try, so_ite, ret_bl, ret_int, ret_str, ret_non]
    rw [show decide ((0 : Int) < ((0 : Nat) : Int)) = false from rfl]
    simp only [ok_ok, ok_noex, ok_var, ok_lit, ok_prim, ok_nil, ok_cons, ok_call, ok_and, ok_or, ok_iteE, ok_chain, ok_meth, ok_attr, ok_join, ok_jnil, ok_jcons, p_not, p_add, p_sub, p_adds, p_muls, p_mulr, p_fdiv, p_mod, p_pow, p_eqi, p_eqs, p_eqb, p_nei, p_nes, p_neb, p_lt, p_le, p_gt, p_ge, p_is, p_isnot, p_lens, p_lent, p_lenk, p_int, p_bool, p_min, p_max, p_tup, p_lst, p_fmts, p_ixt, p_ixs, p_slse, p_slsu, p_isity, p_isigl, bm_rm, bm_st, tr_bl, tr_non, tr_int, tr_tup, tr_kls, tr_str, Mp.isNon, List.getElem?_cons_zero, List.getElem?_cons_succ, List.set_cons_zero, List.set_cons_succ, ity_non, ity_bl, ity_int, ity_str, ity_tup, ity_kls, kb_NoneType_NoneType, kb_NoneType_bool, kb_NoneType_int, kb_NoneType_str, kb_NoneType_tuple, kb_NoneType_list, kb_bool_NoneType, kb_bool_bool, kb_bool_int, kb_bool_str, kb_bool_tuple, kb_bool_list, kb_int_NoneType, kb_int_bool, kb_int_int, kb_int_str, kb_int_tuple, kb_int_list, kb_str_NoneType, kb_str_bool, kb_str_int, kb_str_str, kb_str_tuple, kb_str_list, kb_tuple_NoneType, kb_tuple_bool, kb_tuple_int, kb_tuple_str, kb_tuple_tuple, kb_tuple_list, kb_list_NoneType, kb_list_bool, kb_list_int, kb_list_str, kb_list_tuple, kb_list_list, c_kind_height, c_has_ground, c_opened, c_same_shape, c_as_precise, c_value_fits, c_use_fits, c__law_draws, c__law_draw, c__law_number, c__law_same, c__law_kind, c__law_tall, c__law_any_kind, c__law_agreeing, c__law_has, c__law_open, c__law_value, c__law_used, c__law_value_fits, c__law_use_fits, c__law_changed, c_law, c_Kind, so_seq, so_nil, so_set, so_expr, so_ret, so_retN, so_pass, so_brk, so_cnt, so_never, so_raise, so_try, so_ite, ret_bl, ret_int, ret_str, ret_non, Bool.false_eq_true, if_false]
    refine ⟨(by decide : 6 ≤ cap), ?_⟩
    rw [p_mod _ _ (by decide), p_ixl _ (lst_at (li d1 :: t) _)]
    obtain ⟨a, ha, e⟩ := l6_at (Int.fmod_nonneg_of_pos way (by decide : (0 : Int) < 6)) (Int.fmod_lt_of_pos way (by decide : (0 : Int) < 6))
    rw [e]
    show RetQ _ _ (kd a) (li d1 :: (t ++ [_]))
    rw [ret_li2 (kd_cl _ _)]
    exact q a d1 (Nat.le_of_eq ha)
  | n + 1, k, ds, t, Q, q => by
    rw [r__law_kind]
    simp only [F__law_kind, ok_ok, ok_noex, ok_var, ok_lit, ok_prim, ok_nil, ok_cons, ok_call, ok_and, ok_or, ok_iteE, ok_chain, ok_meth, ok_attr, ok_join, ok_jnil, ok_jcons, p_not, p_add, p_sub, p_adds, p_muls, p_mulr, p_fdiv, p_mod, p_pow, p_eqi, p_eqs, p_eqb, p_nei, p_nes, p_neb, p_lt, p_le, p_gt, p_ge, p_is, p_isnot, p_lens, p_lent, p_lenk, p_int, p_bool, p_min, p_max, p_tup, p_lst, p_fmts, p_ixt, p_ixs, p_slse, p_slsu, p_isity, p_isigl, bm_rm, bm_st, tr_bl, tr_non, tr_int, tr_tup, tr_kls, tr_str, Mp.isNon, List.getElem?_cons_zero, List.getElem?_cons_succ, List.set_cons_zero, List.set_cons_succ, ity_non, ity_bl, ity_int, ity_str, ity_tup, ity_kls, kb_NoneType_NoneType, kb_NoneType_bool, kb_NoneType_int, kb_NoneType_str, kb_NoneType_tuple, kb_NoneType_list, kb_bool_NoneType, kb_bool_bool, kb_bool_int, kb_bool_str, kb_bool_tuple, kb_bool_list, kb_int_NoneType, kb_int_bool, kb_int_int, kb_int_str, kb_int_tuple, kb_int_list, kb_str_NoneType, kb_str_bool, kb_str_int, kb_str_str, kb_str_tuple, kb_str_list, kb_tuple_NoneType, kb_tuple_bool, kb_tuple_int, kb_tuple_str, kb_tuple_tuple, kb_tuple_list, kb_list_NoneType, kb_list_bool, kb_list_int, kb_list_str, kb_list_tuple, kb_list_list, c_kind_height, c_has_ground, c_opened, c_same_shape, c_as_precise, c_value_fits, c_use_fits, c__law_draws, c__law_draw, c__law_number, c__law_same, c__law_kind, c__law_tall, c__law_any_kind, c__law_agreeing, c__law_has, c__law_open, c__law_value, c__law_used, c__law_value_fits, c__law_use_fits, c__law_changed, c_law, c_Kind, so_seq, so_nil, so_set, so_expr, so_ret, so_retN, so_pass, so_brk, so_cnt, so_never, so_raise, so_try, so_ite, ret_bl, ret_int, ret_str, ret_non]
    refine draw (k + (n + 1)) ds t 9 (by decide) fun way d1 w0 w1 => ?_
    simp only [ok_ok, ok_noex, ok_var, ok_lit, ok_prim, ok_nil, ok_cons, ok_call, ok_and, ok_or, ok_iteE, ok_chain, ok_meth, ok_attr, ok_join, ok_jnil, ok_jcons, p_not, p_add, p_sub, p_adds, p_muls, p_mulr, p_fdiv, p_mod, p_pow, p_eqi, p_eqs, p_eqb, p_nei, p_nes, p_neb, p_lt, p_le, p_gt, p_ge, p_is, p_isnot, p_lens, p_lent, p_lenk, p_int, p_bool, p_min, p_max, p_tup, p_lst, p_fmts, p_ixt, p_ixs, p_slse, p_slsu, p_isity, p_isigl, bm_rm, bm_st, tr_bl, tr_non, tr_int, tr_tup, tr_kls, tr_str, Mp.isNon, List.getElem?_cons_zero, List.getElem?_cons_succ, List.set_cons_zero, List.set_cons_succ, ity_non, ity_bl, ity_int, ity_str, ity_tup, ity_kls, kb_NoneType_NoneType, kb_NoneType_bool, kb_NoneType_int, kb_NoneType_str, kb_NoneType_tuple, kb_NoneType_list, kb_bool_NoneType, kb_bool_bool, kb_bool_int, kb_bool_str, kb_bool_tuple, kb_bool_list, kb_int_NoneType, kb_int_bool, kb_int_int, kb_int_str, kb_int_tuple, kb_int_list, kb_str_NoneType, kb_str_bool, kb_str_int, kb_str_str, kb_str_tuple, kb_str_list, kb_tuple_NoneType, kb_tuple_bool, kb_tuple_int, kb_tuple_str, kb_tuple_tuple, kb_tuple_list, kb_list_NoneType, kb_list_bool, kb_list_int, kb_list_str, kb_list_tuple, kb_list_list, c_kind_height, c_has_ground, c_opened, c_same_shape, c_as_precise, c_value_fits, c_use_fits, c__law_draws, c__law_draw, c__law_number, c__law_same, c__law_kind, c__law_tall, c__law_any_kind, c__law_agreeing, c__law_has, c__law_open, c__law_value, c__law_used, c__law_value_fits, c__law_use_fits, c__law_changed, c_law, c_Kind, so_seq, so_nil, so_set, so_expr, so_ret, so_retN, so_pass, so_brk, so_cnt, so_never, so_raise, so_try, so_ite, ret_bl, ret_int, ret_str, ret_non]
    rw [show decide ((0 : Int) < ((n + 1 : Nat) : Int)) = true from decide_eq_true (by omega)]
    simp only [ok_ok, ok_noex, ok_var, ok_lit, ok_prim, ok_nil, ok_cons, ok_call, ok_and, ok_or, ok_iteE, ok_chain, ok_meth, ok_attr, ok_join, ok_jnil, ok_jcons, p_not, p_add, p_sub, p_adds, p_muls, p_mulr, p_fdiv, p_mod, p_pow, p_eqi, p_eqs, p_eqb, p_nei, p_nes, p_neb, p_lt, p_le, p_gt, p_ge, p_is, p_isnot, p_lens, p_lent, p_lenk, p_int, p_bool, p_min, p_max, p_tup, p_lst, p_fmts, p_ixt, p_ixs, p_slse, p_slsu, p_isity, p_isigl, bm_rm, bm_st, tr_bl, tr_non, tr_int, tr_tup, tr_kls, tr_str, Mp.isNon, List.getElem?_cons_zero, List.getElem?_cons_succ, List.set_cons_zero, List.set_cons_succ, ity_non, ity_bl, ity_int, ity_str, ity_tup, ity_kls, kb_NoneType_NoneType, kb_NoneType_bool, kb_NoneType_int, kb_NoneType_str, kb_NoneType_tuple, kb_NoneType_list, kb_bool_NoneType, kb_bool_bool, kb_bool_int, kb_bool_str, kb_bool_tuple, kb_bool_list, kb_int_NoneType, kb_int_bool, kb_int_int, kb_int_str, kb_int_tuple, kb_int_list, kb_str_NoneType, kb_str_bool, kb_str_int, kb_str_str, kb_str_tuple, kb_str_list, kb_tuple_NoneType, kb_tuple_bool, kb_tuple_int, kb_tuple_str, kb_tuple_tuple, kb_tuple_list, kb_list_NoneType, kb_list_bool, kb_list_int, kb_list_str, kb_list_tuple, kb_list_list, c_kind_height, c_has_ground, c_opened, c_same_shape, c_as_precise, c_value_fits, c_use_fits, c__law_draws, c__law_draw, c__law_number, c__law_same, c__law_kind, c__law_tall, c__law_any_kind, c__law_agreeing, c__law_has, c__law_open, c__law_value, c__law_used, c__law_value_fits, c__law_use_fits, c__law_changed, c_law, c_Kind, so_seq, so_nil, so_set, so_expr, so_ret, so_retN, so_pass, so_brk, so_cnt, so_never, so_raise, so_try, so_ite, ret_bl, ret_int, ret_str, ret_non, if_true]
    have e1 : (((n + 1 : Nat) : Int) - 1) = (n : Int) := by omega
    by_cases h6 : 6 ≤ way
    · simp only [h6, decide_true, if_true, ok_ok, ok_noex, ok_var, ok_lit, ok_prim, ok_nil, ok_cons, ok_call, ok_and, ok_or, ok_iteE, ok_chain, ok_meth, ok_attr, ok_join, ok_jnil, ok_jcons, p_not, p_add, p_sub, p_adds, p_muls, p_mulr, p_fdiv, p_mod, p_pow, p_eqi, p_eqs, p_eqb, p_nei, p_nes, p_neb, p_lt, p_le, p_gt, p_ge, p_is, p_isnot, p_lens, p_lent, p_lenk, p_int, p_bool, p_min, p_max, p_tup, p_lst, p_fmts, p_ixt, p_ixs, p_slse, p_slsu, p_isity, p_isigl, bm_rm, bm_st, tr_bl, tr_non, tr_int, tr_tup, tr_kls, tr_str, Mp.isNon, List.getElem?_cons_zero, List.getElem?_cons_succ, List.set_cons_zero, List.set_cons_succ, ity_non, ity_bl, ity_int, ity_str, ity_tup, ity_kls, kb_NoneType_NoneType, kb_NoneType_bool, kb_NoneType_int, kb_NoneType_str, kb_NoneType_tuple, kb_NoneType_list, kb_bool_NoneType, kb_bool_bool, kb_bool_int, kb_bool_str, kb_bool_tuple, kb_bool_list, kb_int_NoneType, kb_int_bool, kb_int_int, kb_int_str, kb_int_tuple, kb_int_list, kb_str_NoneType, kb_str_bool, kb_str_int, kb_str_str, kb_str_tuple, kb_str_list, kb_tuple_NoneType, kb_tuple_bool, kb_tuple_int, kb_tuple_str, kb_tuple_tuple, kb_tuple_list, kb_list_NoneType, kb_list_bool, kb_list_int, kb_list_str, kb_list_tuple, kb_list_list, c_kind_height, c_has_ground, c_opened, c_same_shape, c_as_precise, c_value_fits, c_use_fits, c__law_draws, c__law_draw, c__law_number, c__law_same, c__law_kind, c__law_tall, c__law_any_kind, c__law_agreeing, c__law_has, c__law_open, c__law_value, c__law_used, c__law_value_fits, c__law_use_fits, c__law_changed, c_law, c_Kind, so_seq, so_nil, so_set, so_expr, so_ret, so_retN, so_pass, so_brk, so_cnt, so_never, so_raise, so_try, so_ite, ret_bl, ret_int, ret_str, ret_non, e1]
      refine kindE n k d1 t fun a d2 ha => ?_
      refine kindE n k d2 t fun b d3 hb => ?_
      by_cases h8 : way = 8
      · simp only [h8, decide_true, if_true, c3, true_and]
        refine ofE (ret_li (d := kd (.pr a b)) (kd_cl _ _)) (q (.pr a b) d3 ?_)
        show max (ht a) (ht b) + 1 ≤ n + 1
        omega
      · simp only [h8, decide_false, Bool.false_eq_true, if_false, c3, true_and]
        refine ofE (ret_li (d := kd (.fn a b)) (kd_cl _ _)) (q (.fn a b) d3 ?_)
        show max (ht a) (ht b) + 1 ≤ n + 1
        omega
    · simp only [h6, decide_false, Bool.false_eq_true, if_false, ok_ok, ok_noex, ok_var, ok_lit, ok_prim, ok_nil, ok_cons, ok_call, ok_and, ok_or, ok_iteE, ok_chain, ok_meth, ok_attr, ok_join, ok_jnil, ok_jcons, p_not, p_add, p_sub, p_adds, p_muls, p_mulr, p_fdiv, p_mod, p_pow, p_eqi, p_eqs, p_eqb, p_nei, p_nes, p_neb, p_lt, p_le, p_gt, p_ge, p_is, p_isnot, p_lens, p_lent, p_lenk, p_int, p_bool, p_min, p_max, p_tup, p_lst, p_fmts, p_ixt, p_ixs, p_slse, p_slsu, p_isity, p_isigl, bm_rm, bm_st, tr_bl, tr_non, tr_int, tr_tup, tr_kls, tr_str, Mp.isNon, List.getElem?_cons_zero, List.getElem?_cons_succ, List.set_cons_zero, List.set_cons_succ, ity_non, ity_bl, ity_int, ity_str, ity_tup, ity_kls, kb_NoneType_NoneType, kb_NoneType_bool, kb_NoneType_int, kb_NoneType_str, kb_NoneType_tuple, kb_NoneType_list, kb_bool_NoneType, kb_bool_bool, kb_bool_int, kb_bool_str, kb_bool_tuple, kb_bool_list, kb_int_NoneType, kb_int_bool, kb_int_int, kb_int_str, kb_int_tuple, kb_int_list, kb_str_NoneType, kb_str_bool, kb_str_int, kb_str_str, kb_str_tuple, kb_str_list, kb_tuple_NoneType, kb_tuple_bool, kb_tuple_int, kb_tuple_str, kb_tuple_tuple, kb_tuple_list, kb_list_NoneType, kb_list_bool, kb_list_int, kb_list_str, kb_list_tuple, kb_list_list, c_kind_height, c_has_ground, c_opened, c_same_shape, c_as_precise, c_value_fits, c_use_fits, c__law_draws, c__law_draw, c__law_number, c__law_same, c__law_kind, c__law_tall, c__law_any_kind, c__law_agreeing, c__law_has, c__law_open, c__law_value, c__law_used, c__law_value_fits, c__law_use_fits, c__law_changed, c_law, c_Kind, so_seq, so_nil, so_set, so_expr, so_ret, so_retN, so_pass, so_brk, so_cnt, so_never, so_raise, so_try, so_ite, ret_bl, ret_int, ret_str, ret_non]
      refine ⟨(by decide : 6 ≤ cap), ?_⟩
      rw [p_mod _ _ (by decide), p_ixl _ (lst_at (li d1 :: t) _)]
      obtain ⟨a, ha, e⟩ := l6_at (Int.fmod_nonneg_of_pos way (by decide : (0 : Int) < 6)) (Int.fmod_lt_of_pos way (by decide : (0 : Int) < 6))
      rw [e]
      show RetQ _ _ (kd a) (li d1 :: (t ++ [_]))
      rw [ret_li2 (kd_cl _ _)]
      exact q a d1 (by omega)
theorem tall (k : Nat) (ds : List Int) (t : HD) {Q : D → HD → Prop} (q : ∀ a ds', ht a ≤ 8 → Q (kd a) (li ds' :: t)) : okx (fun _ _ => False) (run tb.prog (k + 3) "_law_tall" [.ref 0] (li ds :: t)) Q := by
  rw [r__law_tall]
  simp only [F__law_tall, ok_ok, ok_noex, ok_var, ok_lit, ok_prim, ok_nil, ok_cons, ok_call, ok_and, ok_or, ok_iteE, ok_chain, ok_meth, ok_attr, ok_join, ok_jnil, ok_jcons, p_not, p_add, p_sub, p_adds, p_muls, p_mulr, p_fdiv, p_mod, p_pow, p_eqi, p_eqs, p_eqb, p_nei, p_nes, p_neb, p_lt, p_le, p_gt, p_ge, p_is, p_isnot, p_lens, p_lent, p_lenk, p_int, p_bool, p_min, p_max, p_tup, p_lst, p_fmts, p_ixt, p_ixs, p_slse, p_slsu, p_isity, p_isigl, bm_rm, bm_st, tr_bl, tr_non, tr_int, tr_tup, tr_kls, tr_str, Mp.isNon, List.getElem?_cons_zero, List.getElem?_cons_succ, List.set_cons_zero, List.set_cons_succ, ity_non, ity_bl, ity_int, ity_str, ity_tup, ity_kls, kb_NoneType_NoneType, kb_NoneType_bool, kb_NoneType_int, kb_NoneType_str, kb_NoneType_tuple, kb_NoneType_list, kb_bool_NoneType, kb_bool_bool, kb_bool_int, kb_bool_str, kb_bool_tuple, kb_bool_list, kb_int_NoneType, kb_int_bool, kb_int_int, kb_int_str, kb_int_tuple, kb_int_list, kb_str_NoneType, kb_str_bool, kb_str_int, kb_str_str, kb_str_tuple, kb_str_list, kb_tuple_NoneType, kb_tuple_bool, kb_tuple_int, kb_tuple_str, kb_tuple_tuple, kb_tuple_list, kb_list_NoneType, kb_list_bool, kb_list_int, kb_list_str, kb_list_tuple, kb_list_list, c_kind_height, c_has_ground, c_opened, c_same_shape, c_as_precise, c_value_fits, c_use_fits, c__law_draws, c__law_draw, c__law_number, c__law_same, c__law_kind, c__law_tall, c__law_any_kind, c__law_agreeing, c__law_has, c__law_open, c__law_value, c__law_used, c__law_value_fits, c__law_use_fits, c__law_changed, c_law, c_Kind, so_seq, so_nil, so_set, so_expr, so_ret, so_retN, so_pass, so_brk, so_cnt, so_never, so_raise, so_try, so_ite, ret_bl, ret_int, ret_str, ret_non, so_for, ok_itrng1]
  refine kindE 0 k ds t fun a d1 ha => ?_
  refine draw (k + 1) d1 t 9 (by decide) fun n d2 n0 n1 => ?_
  simp only [ok_ok, ok_noex, ok_var, ok_lit, ok_prim, ok_nil, ok_cons, ok_call, ok_and, ok_or, ok_iteE, ok_chain, ok_meth, ok_attr, ok_join, ok_jnil, ok_jcons, p_not, p_add, p_sub, p_adds, p_muls, p_mulr, p_fdiv, p_mod, p_pow, p_eqi, p_eqs, p_eqb, p_nei, p_nes, p_neb, p_lt, p_le, p_gt, p_ge, p_is, p_isnot, p_lens, p_lent, p_lenk, p_int, p_bool, p_min, p_max, p_tup, p_lst, p_fmts, p_ixt, p_ixs, p_slse, p_slsu, p_isity, p_isigl, bm_rm, bm_st, tr_bl, tr_non, tr_int, tr_tup, tr_kls, tr_str, Mp.isNon, List.getElem?_cons_zero, List.getElem?_cons_succ, List.set_cons_zero, List.set_cons_succ, ity_non, ity_bl, ity_int, ity_str, ity_tup, ity_kls, kb_NoneType_NoneType, kb_NoneType_bool, kb_NoneType_int, kb_NoneType_str, kb_NoneType_tuple, kb_NoneType_list, kb_bool_NoneType, kb_bool_bool, kb_bool_int, kb_bool_str, kb_bool_tuple, kb_bool_list, kb_int_NoneType, kb_int_bool, kb_int_int, kb_int_str, kb_int_tuple, kb_int_list, kb_str_NoneType, kb_str_bool, kb_str_int, kb_str_str, kb_str_tuple, kb_str_list, kb_tuple_NoneType, kb_tuple_bool, kb_tuple_int, kb_tuple_str, kb_tuple_tuple, kb_tuple_list, kb_list_NoneType, kb_list_bool, kb_list_int, kb_list_str, kb_list_tuple, kb_list_list, c_kind_height, c_has_ground, c_opened, c_same_shape, c_as_precise, c_value_fits, c_use_fits, c__law_draws, c__law_draw, c__law_number, c__law_same, c__law_kind, c__law_tall, c__law_any_kind, c__law_agreeing, c__law_has, c__law_open, c__law_value, c__law_used, c__law_value_fits, c__law_use_fits, c__law_changed, c_law, c_Kind, so_seq, so_nil, so_set, so_expr, so_ret, so_retN, so_pass, so_brk, so_cnt, so_never, so_raise, so_try, so_ite, ret_bl, ret_int, ret_str, ret_non]
  refine ⟨by unfold big; omega, by unfold big; omega, ?_⟩
  refine for_rng (t := .one 2) (I := fun i v h => ∃ a ds' x y z, v = [some (.ref 0), some (kd a), x, y, z] ∧ h = li ds' :: t ∧ ht a ≤ i) ?_ ?_ ?_
  · rintro i v h hi ⟨a, d3, x, y, z, rfl, rfl, ha⟩
    simp only [tgt, ok_ok, ok_noex, ok_var, ok_lit, ok_prim, ok_nil, ok_cons, ok_call, ok_and, ok_or, ok_iteE, ok_chain, ok_meth, ok_attr, ok_join, ok_jnil, ok_jcons, p_not, p_add, p_sub, p_adds, p_muls, p_mulr, p_fdiv, p_mod, p_pow, p_eqi, p_eqs, p_eqb, p_nei, p_nes, p_neb, p_lt, p_le, p_gt, p_ge, p_is, p_isnot, p_lens, p_lent, p_lenk, p_int, p_bool, p_min, p_max, p_tup, p_lst, p_fmts, p_ixt, p_ixs, p_slse, p_slsu, p_isity, p_isigl, bm_rm, bm_st, tr_bl, tr_non, tr_int, tr_tup, tr_kls, tr_str, Mp.isNon, List.getElem?_cons_zero, List.getElem?_cons_succ, List.set_cons_zero, List.set_cons_succ, ity_non, ity_bl, ity_int, ity_str, ity_tup, ity_kls, kb_NoneType_NoneType, kb_NoneType_bool, kb_NoneType_int, kb_NoneType_str, kb_NoneType_tuple, kb_NoneType_list, kb_bool_NoneType, kb_bool_bool, kb_bool_int, kb_bool_str, kb_bool_tuple, kb_bool_list, kb_int_NoneType, kb_int_bool, kb_int_int, kb_int_str, kb_int_tuple, kb_int_list, kb_str_NoneType, kb_str_bool, kb_str_int, kb_str_str, kb_str_tuple, kb_str_list, kb_tuple_NoneType, kb_tuple_bool, kb_tuple_int, kb_tuple_str, kb_tuple_tuple, kb_tuple_list, kb_list_NoneType, kb_list_bool, kb_list_int, kb_list_str, kb_list_tuple, kb_list_list, c_kind_height, c_has_ground, c_opened, c_same_shape, c_as_precise, c_value_fits, c_use_fits, c__law_draws, c__law_draw, c__law_number, c__law_same, c__law_kind, c__law_tall, c__law_any_kind, c__law_agreeing, c__law_has, c__law_open, c__law_value, c__law_used, c__law_value_fits, c__law_use_fits, c__law_changed, c_law, c_Kind, so_seq, so_nil, so_set, so_expr, so_ret, so_retN, so_pass, so_brk, so_cnt, so_never, so_raise, so_try, so_ite, ret_bl, ret_int, ret_str, ret_non]
    refine kindE 0 k d3 t fun b d4 hb => ?_
    refine draw (k + 1) d4 t 4 (by decide) fun w d5 w0 w1 => ?_
    have s1 : ht (.fn a b) ≤ i + 1 := by show max (ht a) (ht b) + 1 ≤ _; omega
    have s2 : ht (.fn b a) ≤ i + 1 := by show max (ht b) (ht a) + 1 ≤ _; omega
    have s3 : ht (.pr a b) ≤ i + 1 := by show max (ht a) (ht b) + 1 ≤ _; omega
    have s4 : ht (.pr b a) ≤ i + 1 := by show max (ht b) (ht a) + 1 ≤ _; omega
    simp only [ok_ok, ok_noex, ok_var, ok_lit, ok_prim, ok_nil, ok_cons, ok_call, ok_and, ok_or, ok_iteE, ok_chain, ok_meth, ok_attr, ok_join, ok_jnil, ok_jcons, p_not, p_add, p_sub, p_adds, p_muls, p_mulr, p_fdiv, p_mod, p_pow, p_eqi, p_eqs, p_eqb, p_nei, p_nes, p_neb, p_lt, p_le, p_gt, p_ge, p_is, p_isnot, p_lens, p_lent, p_lenk, p_int, p_bool, p_min, p_max, p_tup, p_lst, p_fmts, p_ixt, p_ixs, p_slse, p_slsu, p_isity, p_isigl, bm_rm, bm_st, tr_bl, tr_non, tr_int, tr_tup, tr_kls, tr_str, Mp.isNon, List.getElem?_cons_zero, List.getElem?_cons_succ, List.set_cons_zero, List.set_cons_succ, ity_non, ity_bl, ity_int, ity_str, ity_tup, ity_kls, kb_NoneType_NoneType, kb_NoneType_bool, kb_NoneType_int, kb_NoneType_str, kb_NoneType_tuple, kb_NoneType_list, kb_bool_NoneType, kb_bool_bool, kb_bool_int, kb_bool_str, kb_bool_tuple, kb_bool_list, kb_int_NoneType, kb_int_bool, kb_int_int, kb_int_str, kb_int_tuple, kb_int_list, kb_str_NoneType, kb_str_bool, kb_str_int, kb_str_str, kb_str_tuple, kb_str_list, kb_tuple_NoneType, kb_tuple_bool, kb_tuple_int, kb_tuple_str, kb_tuple_tuple, kb_tuple_list, kb_list_NoneType, kb_list_bool, kb_list_int, kb_list_str, kb_list_tuple, kb_list_list, c_kind_height, c_has_ground, c_opened, c_same_shape, c_as_precise, c_value_fits, c_use_fits, c__law_draws, c__law_draw, c__law_number, c__law_same, c__law_kind, c__law_tall, c__law_any_kind, c__law_agreeing, c__law_has, c__law_open, c__law_value, c__law_used, c__law_value_fits, c__law_use_fits, c__law_changed, c_law, c_Kind, so_seq, so_nil, so_set, so_expr, so_ret, so_retN, so_pass, so_brk, so_cnt, so_never, so_raise, so_try, so_ite, ret_bl, ret_int, ret_str, ret_non, c3, true_and]
    by_cases h0 : w = 0
    · simp only [h0, decide_true, if_true]
      exact ⟨.fn a b, _, _, _, _, rfl, rfl, s1⟩
    · simp only [h0, decide_false, Bool.false_eq_true, if_false]
      by_cases h1 : w = 1
      · simp only [h1, decide_true, if_true]
        exact ⟨.fn b a, _, _, _, _, rfl, rfl, s2⟩
      · simp only [h1, decide_false, Bool.false_eq_true, if_false]
        by_cases h2 : w = 2
        · simp only [h2, decide_true, if_true]
          exact ⟨.pr a b, _, _, _, _, rfl, rfl, s3⟩
        · simp only [h2, decide_false, Bool.false_eq_true, if_false]
          exact ⟨.pr b a, _, _, _, _, rfl, rfl, s4⟩
  · rintro v h ⟨a, d3, x, y, z, rfl, rfl, ha⟩
    simp only [ok_ok, ok_noex, ok_var, ok_lit, ok_prim, ok_nil, ok_cons, ok_call, ok_and, ok_or, ok_iteE, ok_chain, ok_meth, ok_attr, ok_join, ok_jnil, ok_jcons, p_not, p_add, p_sub, p_adds, p_muls, p_mulr, p_fdiv, p_mod, p_pow, p_eqi, p_eqs, p_eqb, p_nei, p_nes, p_neb, p_lt, p_le, p_gt, p_ge, p_is, p_isnot, p_lens, p_lent, p_lenk, p_int, p_bool, p_min, p_max, p_tup, p_lst, p_fmts, p_ixt, p_ixs, p_slse, p_slsu, p_isity, p_isigl, bm_rm, bm_st, tr_bl, tr_non, tr_int, tr_tup, tr_kls, tr_str, Mp.isNon, List.getElem?_cons_zero, List.getElem?_cons_succ, List.set_cons_zero, List.set_cons_succ, ity_non, ity_bl, ity_int, ity_str, ity_tup, ity_kls, kb_NoneType_NoneType, kb_NoneType_bool, kb_NoneType_int, kb_NoneType_str, kb_NoneType_tuple, kb_NoneType_list, kb_bool_NoneType, kb_bool_bool, kb_bool_int, kb_bool_str, kb_bool_tuple, kb_bool_list, kb_int_NoneType, kb_int_bool, kb_int_int, kb_int_str, kb_int_tuple, kb_int_list, kb_str_NoneType, kb_str_bool, kb_str_int, kb_str_str, kb_str_tuple, kb_str_list, kb_tuple_NoneType, kb_tuple_bool, kb_tuple_int, kb_tuple_str, kb_tuple_tuple, kb_tuple_list, kb_list_NoneType, kb_list_bool, kb_list_int, kb_list_str, kb_list_tuple, kb_list_list, c_kind_height, c_has_ground, c_opened, c_same_shape, c_as_precise, c_value_fits, c_use_fits, c__law_draws, c__law_draw, c__law_number, c__law_same, c__law_kind, c__law_tall, c__law_any_kind, c__law_agreeing, c__law_has, c__law_open, c__law_value, c__law_used, c__law_value_fits, c__law_use_fits, c__law_changed, c_law, c_Kind, so_seq, so_nil, so_set, so_expr, so_ret, so_retN, so_pass, so_brk, so_cnt, so_never, so_raise, so_try, so_ite, ret_bl, ret_int, ret_str, ret_non]
    rw [ret_li (kd_cl _ _)]
    exact q a d3 (by omega)
  · exact ⟨a, d2, _, _, _, rfl, rfl, ha⟩
/-! ### == of kinds, agreement -/
theorem kd_pure : ∀ a : Kn, (kd a).pure = true
  | .unk => by decide +kernel
  | .int => by decide +kernel
  | .bool => by decide +kernel
  | .unit => by decide +kernel
  | .fn a b => by
    have e : strOkB "fun" = true := by decide +kernel
    show (strOkB "fun" && ((kd a).pure && ((kd b).pure && true))) = true
    rw [e, kd_pure a, kd_pure b]; rfl
  | .pr a b => by
    have e : strOkB "pair" = true := by decide +kernel
    show (strOkB "pair" && ((kd a).pure && ((kd b).pure && true))) = true
    rw [e, kd_pure a, kd_pure b]; rfl
theorem kd_dep : ∀ a : Kn, (kd a).dep = ht a
  | .unk => rfl
  | .int => rfl
  | .bool => rfl
  | .unit => rfl
  | .fn a b => by
    show max 0 (max (kd a).dep (max (kd b).dep 0)) + 1 = max (ht a) (ht b) + 1
    rw [kd_dep a, kd_dep b]; omega
  | .pr a b => by
    show max 0 (max (kd a).dep (max (kd b).dep 0)) + 1 = max (ht a) (ht b) + 1
    rw [kd_dep a, kd_dep b]; omega
def kq (a b : Kn) : Bool := deq (kd a) (kd b)
theorem kd_spec (m : Str) (a : Kn) (h : HD) : spec tb.gi m (kd a) h = none := by cases a <;> rfl
theorem p_eqk {C : Cal} {h : HD} {Q : D → HD → Prop} (a b : Kn) (h8 : ht a ≤ 64) : okx (fun _ _ => False) (Mp.prD tb.gi C (.cmp .Eq) [kd a, kd b] h) Q = Q (.bl (kq a b)) h := by
  have e : Mp.prD tb.gi C (.cmp .Eq) [kd a, kd b] h = cmpD .Eq (kd a) (kd b) h := by
    show (match spec tb.gi "__eq__" (kd a) h with
      | some q => _
      | none => cmpD .Eq (kd a) (kd b) h) = _
    rw [kd_spec]
  rw [e]
  show okx (fun _ _ => False) (if ((kd a).sc (kd b) || ((kd a).pure && (kd b).pure && decide (min (kd a).dep (kd b).dep ≤ 64))) = true then .ok (.bl (deq (kd a) (kd b))) h else .bad) Q = _
  rw [kd_pure, kd_pure, kd_dep, kd_dep, decide_eq_true (by omega : min (ht a) (ht b) ≤ 64), if_pos (by simp)]
  rfl
def isU : Kn → Bool
  | .unk => true
  | _ => false
theorem p_equ {C : Cal} {h : HD} {Q : D → HD → Prop} (a : Kn) (h8 : ht a ≤ 64) : okx (fun _ _ => False) (Mp.prD tb.gi C (.cmp .Eq) [kd a, .str "?"] h) Q = Q (.bl (isU a)) h := by
  have e := p_eqk (C := C) (h := h) (Q := Q) a .unk h8
  have e2 : kq a .unk = isU a := by cases a <;> first | rfl | decide +kernel
  rw [e2] at e
  exact e
def shp : Kn → Kn → Bool
  | .fn _ _, .fn _ _ => true
  | .pr _ _, .pr _ _ => true
  | _, _ => false
section
variable {C : Cal} {h : HD} {Q : D → HD → Prop}
theorem ixf1 (a b : Kn) : okx (fun _ _ => False) (Mp.prD tb.gi C .ix [kd (.fn a b), .int 1] h) Q = Q (kd a) h := rfl
theorem ixf2 (a b : Kn) : okx (fun _ _ => False) (Mp.prD tb.gi C .ix [kd (.fn a b), .int 2] h) Q = Q (kd b) h := rfl
theorem ixp1 (a b : Kn) : okx (fun _ _ => False) (Mp.prD tb.gi C .ix [kd (.pr a b), .int 1] h) Q = Q (kd a) h := rfl
theorem ixp2 (a b : Kn) : okx (fun _ _ => False) (Mp.prD tb.gi C .ix [kd (.pr a b), .int 2] h) Q = Q (kd b) h := rfl
end
theorem x_same_shape (k : Nat) (h : HD) (a b : Kn) : run tb.prog (k + 1) "same_shape" [kd a, kd b] h = .ok (.bl (shp a b)) h := by
  have f0 : ∀ x y : D, Mp.atI [D.str "fun", x, y] 0 = some (.str "fun") := fun _ _ => rfl
  have p0 : ∀ x y : D, Mp.atI [D.str "pair", x, y] 0 = some (.str "pair") := fun _ _ => rfl
  have n1 : decide (("fun" : Str) = "pair") = false := by decide +kernel
  have n2 : decide (("pair" : Str) = "fun") = false := by decide +kernel
  apply of_ok
  cases a <;> cases b <;> simp only [r_same_shape, F_same_shape, ok_ok, ok_noex, ok_var, ok_lit, ok_prim, ok_nil, ok_cons, ok_call, ok_and, ok_or, ok_iteE, ok_chain, ok_meth, ok_attr, ok_join, ok_jnil, ok_jcons, p_not, p_add, p_sub, p_adds, p_muls, p_mulr, p_fdiv, p_mod, p_pow, p_eqi, p_eqs, p_eqb, p_nei, p_nes, p_neb, p_lt, p_le, p_gt, p_ge, p_is, p_isnot, p_lens, p_lent, p_lenk, p_int, p_bool, p_min, p_max, p_tup, p_lst, p_fmts, p_ixt, p_ixs, p_slse, p_slsu, p_isity, p_isigl, bm_rm, bm_st, tr_bl, tr_non, tr_int, tr_tup, tr_kls, tr_str, Mp.isNon, List.getElem?_cons_zero, List.getElem?_cons_succ, List.set_cons_zero, List.set_cons_succ, ity_non, ity_bl, ity_int, ity_str, ity_tup, ity_kls, kb_NoneType_NoneType, kb_NoneType_bool, kb_NoneType_int, kb_NoneType_str, kb_NoneType_tuple, kb_NoneType_list, kb_bool_NoneType, kb_bool_bool, kb_bool_int, kb_bool_str, kb_bool_tuple, kb_bool_list, kb_int_NoneType, kb_int_bool, kb_int_int, kb_int_str, kb_int_tuple, kb_int_list, kb_str_NoneType, kb_str_bool, kb_str_int, kb_str_str, kb_str_tuple, kb_str_list, kb_tuple_NoneType, kb_tuple_bool, kb_tuple_int, kb_tuple_str, kb_tuple_tuple, kb_tuple_list, kb_list_NoneType, kb_list_bool, kb_list_int, kb_list_str, kb_list_tuple, kb_list_list, c_kind_height, c_has_ground, c_opened, c_same_shape, c_as_precise, c_value_fits, c_use_fits, c__law_draws, c__law_draw, c__law_number, c__law_same, c__law_kind, c__law_tall, c__law_any_kind, c__law_agreeing, c__law_has, c__law_open, c__law_value, c__law_used, c__law_value_fits, c__law_use_fits, c__law_changed, c_law, c_Kind, so_seq, so_nil, so_set, so_expr, so_ret, so_retN, so_pass, so_brk, so_cnt, so_never, so_raise, so_try, so_ite, ret_bl, ret_int, ret_str, ret_non, kd, f0, p0, decide_true, n1, n2, Bool.false_eq_true, if_false, if_true] <;> exact ⟨rfl, trivial⟩
section
variable {C : Cal} {h : HD} {Q : D → HD → Prop}
theorem ixf0 (a b : Kn) : okx (fun _ _ => False) (Mp.prD tb.gi C .ix [kd (.fn a b), .int 0] h) Q = Q (.str "fun") h := rfl
theorem ixp0 (a b : Kn) : okx (fun _ _ => False) (Mp.prD tb.gi C .ix [kd (.pr a b), .int 0] h) Q = Q (.str "pair") h := rfl
end
theorem same_b (k : Nat) (a b : Bool) (h : HD) : run tb.prog (k + 1) "_law_same" [.bl a, .bl b] h = .ok (.bl (a == b)) h := by
  apply of_ok
  simp only [r__law_same, F__law_same, ok_ok, ok_noex, ok_var, ok_lit, ok_prim, ok_nil, ok_cons, ok_call, ok_and, ok_or, ok_iteE, ok_chain, ok_meth, ok_attr, ok_join, ok_jnil, ok_jcons, p_not, p_add, p_sub, p_adds, p_muls, p_mulr, p_fdiv, p_mod, p_pow, p_eqi, p_eqs, p_eqb, p_nei, p_nes, p_neb, p_lt, p_le, p_gt, p_ge, p_is, p_isnot, p_lens, p_lent, p_lenk, p_int, p_bool, p_min, p_max, p_tup, p_lst, p_fmts, p_ixt, p_ixs, p_slse, p_slsu, p_isity, p_isigl, bm_rm, bm_st, tr_bl, tr_non, tr_int, tr_tup, tr_kls, tr_str, Mp.isNon, List.getElem?_cons_zero, List.getElem?_cons_succ, List.set_cons_zero, List.set_cons_succ, ity_non, ity_bl, ity_int, ity_str, ity_tup, ity_kls, kb_NoneType_NoneType, kb_NoneType_bool, kb_NoneType_int, kb_NoneType_str, kb_NoneType_tuple, kb_NoneType_list, kb_bool_NoneType, kb_bool_bool, kb_bool_int, kb_bool_str, kb_bool_tuple, kb_bool_list, kb_int_NoneType, kb_int_bool, kb_int_int, kb_int_str, kb_int_tuple, kb_int_list, kb_str_NoneType, kb_str_bool, kb_str_int, kb_str_str, kb_str_tuple, kb_str_list, kb_tuple_NoneType, kb_tuple_bool, kb_tuple_int, kb_tuple_str, kb_tuple_tuple, kb_tuple_list, kb_list_NoneType, kb_list_bool, kb_list_int, kb_list_str, kb_list_tuple, kb_list_list, c_kind_height, c_has_ground, c_opened, c_same_shape, c_as_precise, c_value_fits, c_use_fits, c__law_draws, c__law_draw, c__law_number, c__law_same, c__law_kind, c__law_tall, c__law_any_kind, c__law_agreeing, c__law_has, c__law_open, c__law_value, c__law_used, c__law_value_fits, c__law_use_fits, c__law_changed, c_law, c_Kind, so_seq, so_nil, so_set, so_expr, so_ret, so_retN, so_pass, so_brk, so_cnt, so_never, so_raise, so_try, so_ite, ret_bl, ret_int, ret_str, ret_non, Bool.false_eq_true, if_false, if_true]
  exact ⟨trivial, trivial⟩

end Lk25

set_option Elab.async false
set_option linter.all false
set_option maxRecDepth 100000
set_option maxHeartbeats 2000000
namespace Lk25
open PySem Mp
/-! ### values and uses -/
mutual
inductive Vl where
  | int (i : Int) | bool (b : Bool) | unit | pair (a b : Vl) | fn (u : Us) (b : Vl) | fnS (u : Us) (i : Int)
inductive Us where
  | look | call (v : Vl) (u : Us) | first (u : Us) | second (u : Us)
end
mutual
def vd : Vl → D
  | .int i => .tup [.str "int", .int i]
  | .bool b => .tup [.str "bool", .bl b]
  | .unit => .tup [.str "unit"]
  | .pair a b => .tup [.str "pair", vd a, vd b]
  | .fn u b => .tup [.str "fun", ud u, vd b]
  | .fnS u i => .tup [.str "fun", ud u, .tup [.str "stop", .int i]]
def ud : Us → D
  | .look => .tup [.str "look"]
  | .call v u => .tup [.str "call", vd v, ud u]
  | .first u => .tup [.str "first", ud u]
  | .second u => .tup [.str "second", ud u]
end
mutual
def vp : Vl → Nat
  | .pair a b => max (vp a) (vp b) + 1
  | .fn u b => max (up u) (vp b) + 1
  | .fnS u _ => up u + 1
  | _ => 0
def up : Us → Nat
  | .look => 0
  | .call v u => max (vp v) (up u) + 1
  | .first u => up u + 1
  | .second u => up u + 1
end
mutual
theorem vd_cl (n : Nat) : ∀ v : Vl, (vd v).cl n = true
  | .int _ => rfl
  | .bool _ => rfl
  | .unit => rfl
  | .pair a b => by
    show (true && ((vd a).cl n && ((vd b).cl n && true))) = true
    rw [vd_cl n a, vd_cl n b]; rfl
  | .fn u b => by
    show (true && ((ud u).cl n && ((vd b).cl n && true))) = true
    rw [ud_cl n u, vd_cl n b]; rfl
  | .fnS u i => by
    show (true && ((ud u).cl n && (true && true))) = true
    rw [ud_cl n u]; rfl
theorem ud_cl (n : Nat) : ∀ u : Us, (ud u).cl n = true
  | .look => rfl
  | .call v u => by
    show (true && ((vd v).cl n && ((ud u).cl n && true))) = true
    rw [vd_cl n v, ud_cl n u]; rfl
  | .first u => by
    show (true && ((ud u).cl n && true)) = true
    rw [ud_cl n u]; rfl
  | .second u => by
    show (true && ((ud u).cl n && true)) = true
    rw [ud_cl n u]; rfl
end
/-! ### grounds -/
def ks : Kn → Str
  | .unk => "?"
  | .int => "int"
  | .bool => "bool"
  | .unit => "unit"
  | .fn _ _ => "fun"
  | .pr _ _ => "pair"
def hg (a : Kn) (g : Str) : Bool := if isP a then decide (ks a = g) else isU a || decide (ks a = g)
theorem ix0k {C : Cal} {h : HD} {Q : D → HD → Prop} (a : Kn) (hp : isP a = true) : okx (fun _ _ => False) (Mp.prD tb.gi C .ix [kd a, .int 0] h) Q = Q (.str (ks a)) h := by
  cases a <;> first | (cases hp; done) | rfl
theorem eqks {C : Cal} {h : HD} {Q : D → HD → Prop} (a : Kn) (g : Str) (hp : isP a = false) : okx (fun _ _ => False) (Mp.prD tb.gi C (.cmp .Eq) [kd a, .str g] h) Q = Q (.bl (decide (ks a = g))) h := by
  cases a <;> first | (cases hp; done) | exact p_eqs _ _
theorem x_has (k : Nat) (h : HD) (a : Kn) (g : Str) (ha : ht a ≤ 64) : run tb.prog (k + 1) "has_ground" [kd a, .str g] h = .ok (.bl (hg a g)) h := by
  apply of_ok
  unfold hg
  simp only [r_has_ground, F_has_ground, ok_ok, ok_noex, ok_var, ok_lit, ok_prim, ok_nil, ok_cons, ok_call, ok_and, ok_or, ok_iteE, ok_chain, ok_meth, ok_attr, ok_join, ok_jnil, ok_jcons, p_not, p_add, p_sub, p_adds, p_muls, p_mulr, p_fdiv, p_mod, p_pow, p_eqi, p_eqs, p_eqb, p_nei, p_nes, p_neb, p_lt, p_le, p_gt, p_ge, p_is, p_isnot, p_lens, p_lent, p_lenk, p_int, p_bool, p_min, p_max, p_tup, p_lst, p_fmts, p_ixt, p_ixs, p_slse, p_slsu, p_isity, p_isigl, bm_rm, bm_st, tr_bl, tr_non, tr_int, tr_tup, tr_kls, tr_str, Mp.isNon, List.getElem?_cons_zero, List.getElem?_cons_succ, List.set_cons_zero, List.set_cons_succ, ity_non, ity_bl, ity_int, ity_str, ity_tup, ity_kls, kb_NoneType_NoneType, kb_NoneType_bool, kb_NoneType_int, kb_NoneType_str, kb_NoneType_tuple, kb_NoneType_list, kb_bool_NoneType, kb_bool_bool, kb_bool_int, kb_bool_str, kb_bool_tuple, kb_bool_list, kb_int_NoneType, kb_int_bool, kb_int_int, kb_int_str, kb_int_tuple, kb_int_list, kb_str_NoneType, kb_str_bool, kb_str_int, kb_str_str, kb_str_tuple, kb_str_list, kb_tuple_NoneType, kb_tuple_bool, kb_tuple_int, kb_tuple_str, kb_tuple_tuple, kb_tuple_list, kb_list_NoneType, kb_list_bool, kb_list_int, kb_list_str, kb_list_tuple, kb_list_list, c_kind_height, c_has_ground, c_opened, c_same_shape, c_as_precise, c_value_fits, c_use_fits, c__law_draws, c__law_draw, c__law_number, c__law_same, c__law_kind, c__law_tall, c__law_any_kind, c__law_agreeing, c__law_has, c__law_open, c__law_value, c__law_used, c__law_value_fits, c__law_use_fits, c__law_changed, c_law, c_Kind, so_seq, so_nil, so_set, so_expr, so_ret, so_retN, so_pass, so_brk, so_cnt, so_never, so_raise, so_try, so_ite, ret_bl, ret_int, ret_str, ret_non, kd_ty]
  by_cases hp : isP a = true
  · simp only [hp, if_true, ix0k a hp, ok_ok, ok_noex, ok_var, ok_lit, ok_prim, ok_nil, ok_cons, ok_call, ok_and, ok_or, ok_iteE, ok_chain, ok_meth, ok_attr, ok_join, ok_jnil, ok_jcons, p_not, p_add, p_sub, p_adds, p_muls, p_mulr, p_fdiv, p_mod, p_pow, p_eqi, p_eqs, p_eqb, p_nei, p_nes, p_neb, p_lt, p_le, p_gt, p_ge, p_is, p_isnot, p_lens, p_lent, p_lenk, p_int, p_bool, p_min, p_max, p_tup, p_lst, p_fmts, p_ixt, p_ixs, p_slse, p_slsu, p_isity, p_isigl, bm_rm, bm_st, tr_bl, tr_non, tr_int, tr_tup, tr_kls, tr_str, Mp.isNon, List.getElem?_cons_zero, List.getElem?_cons_succ, List.set_cons_zero, List.set_cons_succ, ity_non, ity_bl, ity_int, ity_str, ity_tup, ity_kls, kb_NoneType_NoneType, kb_NoneType_bool, kb_NoneType_int, kb_NoneType_str, kb_NoneType_tuple, kb_NoneType_list, kb_bool_NoneType, kb_bool_bool, kb_bool_int, kb_bool_str, kb_bool_tuple, kb_bool_list, kb_int_NoneType, kb_int_bool, kb_int_int, kb_int_str, kb_int_tuple, kb_int_list, kb_str_NoneType, kb_str_bool, kb_str_int, kb_str_str, kb_str_tuple, kb_str_list, kb_tuple_NoneType, kb_tuple_bool, kb_tuple_int, kb_tuple_str, kb_tuple_tuple, kb_tuple_list, kb_list_NoneType, kb_list_bool, kb_list_int, kb_list_str, kb_list_tuple, kb_list_list, c_kind_height, c_has_ground, c_opened, c_same_shape, c_as_precise, c_value_fits, c_use_fits, c__law_draws, c__law_draw, c__law_number, c__law_same, c__law_kind, c__law_tall, c__law_any_kind, c__law_agreeing, c__law_has, c__law_open, c__law_value, c__law_used, c__law_value_fits, c__law_use_fits, c__law_changed, c_law, c_Kind, so_seq, so_nil, so_set, so_expr, so_ret, so_retN, so_pass, so_brk, so_cnt, so_never, so_raise, so_try, so_ite, ret_bl, ret_int, ret_str, ret_non]
    exact ⟨trivial, trivial⟩
  · have hp : isP a = false := by simpa using hp
    simp only [hp, Bool.false_eq_true, if_false, p_equ a ha, eqks a g hp, ok_ok, ok_noex, ok_var, ok_lit, ok_prim, ok_nil, ok_cons, ok_call, ok_and, ok_or, ok_iteE, ok_chain, ok_meth, ok_attr, ok_join, ok_jnil, ok_jcons, p_not, p_add, p_sub, p_adds, p_muls, p_mulr, p_fdiv, p_mod, p_pow, p_eqi, p_eqs, p_eqb, p_nei, p_nes, p_neb, p_lt, p_le, p_gt, p_ge, p_is, p_isnot, p_lens, p_lent, p_lenk, p_int, p_bool, p_min, p_max, p_tup, p_lst, p_fmts, p_ixt, p_ixs, p_slse, p_slsu, p_isity, p_isigl, bm_rm, bm_st, tr_bl, tr_non, tr_int, tr_tup, tr_kls, tr_str, Mp.isNon, List.getElem?_cons_zero, List.getElem?_cons_succ, List.set_cons_zero, List.set_cons_succ, ity_non, ity_bl, ity_int, ity_str, ity_tup, ity_kls, kb_NoneType_NoneType, kb_NoneType_bool, kb_NoneType_int, kb_NoneType_str, kb_NoneType_tuple, kb_NoneType_list, kb_bool_NoneType, kb_bool_bool, kb_bool_int, kb_bool_str, kb_bool_tuple, kb_bool_list, kb_int_NoneType, kb_int_bool, kb_int_int, kb_int_str, kb_int_tuple, kb_int_list, kb_str_NoneType, kb_str_bool, kb_str_int, kb_str_str, kb_str_tuple, kb_str_list, kb_tuple_NoneType, kb_tuple_bool, kb_tuple_int, kb_tuple_str, kb_tuple_tuple, kb_tuple_list, kb_list_NoneType, kb_list_bool, kb_list_int, kb_list_str, kb_list_tuple, kb_list_list, c_kind_height, c_has_ground, c_opened, c_same_shape, c_as_precise, c_value_fits, c_use_fits, c__law_draws, c__law_draw, c__law_number, c__law_same, c__law_kind, c__law_tall, c__law_any_kind, c__law_agreeing, c__law_has, c__law_open, c__law_value, c__law_used, c__law_value_fits, c__law_use_fits, c__law_changed, c_law, c_Kind, so_seq, so_nil, so_set, so_expr, so_ret, so_retN, so_pass, so_brk, so_cnt, so_never, so_raise, so_try, so_ite, ret_bl, ret_int, ret_str, ret_non]
    cases isU a <;> exact ⟨rfl, trivial⟩
theorem x__law_has (k : Nat) (h : HD) (a : Kn) (g : Str) (ha : ht a ≤ 64) : run tb.prog (k + 1) "_law_has" [kd a, .str g] h = .ok (.bl (hg a g)) h := by
  apply of_ok
  unfold hg
  simp only [r__law_has, F__law_has, ok_ok, ok_noex, ok_var, ok_lit, ok_prim, ok_nil, ok_cons, ok_call, ok_and, ok_or, ok_iteE, ok_chain, ok_meth, ok_attr, ok_join, ok_jnil, ok_jcons, p_not, p_add, p_sub, p_adds, p_muls, p_mulr, p_fdiv, p_mod, p_pow, p_eqi, p_eqs, p_eqb, p_nei, p_nes, p_neb, p_lt, p_le, p_gt, p_ge, p_is, p_isnot, p_lens, p_lent, p_lenk, p_int, p_bool, p_min, p_max, p_tup, p_lst, p_fmts, p_ixt, p_ixs, p_slse, p_slsu, p_isity, p_isigl, bm_rm, bm_st, tr_bl, tr_non, tr_int, tr_tup, tr_kls, tr_str, Mp.isNon, List.getElem?_cons_zero, List.getElem?_cons_succ, List.set_cons_zero, List.set_cons_succ, ity_non, ity_bl, ity_int, ity_str, ity_tup, ity_kls, kb_NoneType_NoneType, kb_NoneType_bool, kb_NoneType_int, kb_NoneType_str, kb_NoneType_tuple, kb_NoneType_list, kb_bool_NoneType, kb_bool_bool, kb_bool_int, kb_bool_str, kb_bool_tuple, kb_bool_list, kb_int_NoneType, kb_int_bool, kb_int_int, kb_int_str, kb_int_tuple, kb_int_list, kb_str_NoneType, kb_str_bool, kb_str_int, kb_str_str, kb_str_tuple, kb_str_list, kb_tuple_NoneType, kb_tuple_bool, kb_tuple_int, kb_tuple_str, kb_tuple_tuple, kb_tuple_list, kb_list_NoneType, kb_list_bool, kb_list_int, kb_list_str, kb_list_tuple, kb_list_list, c_kind_height, c_has_ground, c_opened, c_same_shape, c_as_precise, c_value_fits, c_use_fits, c__law_draws, c__law_draw, c__law_number, c__law_same, c__law_kind, c__law_tall, c__law_any_kind, c__law_agreeing, c__law_has, c__law_open, c__law_value, c__law_used, c__law_value_fits, c__law_use_fits, c__law_changed, c_law, c_Kind, so_seq, so_nil, so_set, so_expr, so_ret, so_retN, so_pass, so_brk, so_cnt, so_never, so_raise, so_try, so_ite, ret_bl, ret_int, ret_str, ret_non, kd_ty]
  by_cases hp : isP a = true
  · simp only [hp, if_true, ix0k a hp, ok_ok, ok_noex, ok_var, ok_lit, ok_prim, ok_nil, ok_cons, ok_call, ok_and, ok_or, ok_iteE, ok_chain, ok_meth, ok_attr, ok_join, ok_jnil, ok_jcons, p_not, p_add, p_sub, p_adds, p_muls, p_mulr, p_fdiv, p_mod, p_pow, p_eqi, p_eqs, p_eqb, p_nei, p_nes, p_neb, p_lt, p_le, p_gt, p_ge, p_is, p_isnot, p_lens, p_lent, p_lenk, p_int, p_bool, p_min, p_max, p_tup, p_lst, p_fmts, p_ixt, p_ixs, p_slse, p_slsu, p_isity, p_isigl, bm_rm, bm_st, tr_bl, tr_non, tr_int, tr_tup, tr_kls, tr_str, Mp.isNon, List.getElem?_cons_zero, List.getElem?_cons_succ, List.set_cons_zero, List.set_cons_succ, ity_non, ity_bl, ity_int, ity_str, ity_tup, ity_kls, kb_NoneType_NoneType, kb_NoneType_bool, kb_NoneType_int, kb_NoneType_str, kb_NoneType_tuple, kb_NoneType_list, kb_bool_NoneType, kb_bool_bool, kb_bool_int, kb_bool_str, kb_bool_tuple, kb_bool_list, kb_int_NoneType, kb_int_bool, kb_int_int, kb_int_str, kb_int_tuple, kb_int_list, kb_str_NoneType, kb_str_bool, kb_str_int, kb_str_str, kb_str_tuple, kb_str_list, kb_tuple_NoneType, kb_tuple_bool, kb_tuple_int, kb_tuple_str, kb_tuple_tuple, kb_tuple_list, kb_list_NoneType, kb_list_bool, kb_list_int, kb_list_str, kb_list_tuple, kb_list_list, c_kind_height, c_has_ground, c_opened, c_same_shape, c_as_precise, c_value_fits, c_use_fits, c__law_draws, c__law_draw, c__law_number, c__law_same, c__law_kind, c__law_tall, c__law_any_kind, c__law_agreeing, c__law_has, c__law_open, c__law_value, c__law_used, c__law_value_fits, c__law_use_fits, c__law_changed, c_law, c_Kind, so_seq, so_nil, so_set, so_expr, so_ret, so_retN, so_pass, so_brk, so_cnt, so_never, so_raise, so_try, so_ite, ret_bl, ret_int, ret_str, ret_non]
    exact ⟨trivial, trivial⟩
  · have hp : isP a = false := by simpa using hp
    simp only [hp, Bool.false_eq_true, if_false, p_equ a ha, eqks a g hp, ok_ok, ok_noex, ok_var, ok_lit, ok_prim, ok_nil, ok_cons, ok_call, ok_and, ok_or, ok_iteE, ok_chain, ok_meth, ok_attr, ok_join, ok_jnil, ok_jcons, p_not, p_add, p_sub, p_adds, p_muls, p_mulr, p_fdiv, p_mod, p_pow, p_eqi, p_eqs, p_eqb, p_nei, p_nes, p_neb, p_lt, p_le, p_gt, p_ge, p_is, p_isnot, p_lens, p_lent, p_lenk, p_int, p_bool, p_min, p_max, p_tup, p_lst, p_fmts, p_ixt, p_ixs, p_slse, p_slsu, p_isity, p_isigl, bm_rm, bm_st, tr_bl, tr_non, tr_int, tr_tup, tr_kls, tr_str, Mp.isNon, List.getElem?_cons_zero, List.getElem?_cons_succ, List.set_cons_zero, List.set_cons_succ, ity_non, ity_bl, ity_int, ity_str, ity_tup, ity_kls, kb_NoneType_NoneType, kb_NoneType_bool, kb_NoneType_int, kb_NoneType_str, kb_NoneType_tuple, kb_NoneType_list, kb_bool_NoneType, kb_bool_bool, kb_bool_int, kb_bool_str, kb_bool_tuple, kb_bool_list, kb_int_NoneType, kb_int_bool, kb_int_int, kb_int_str, kb_int_tuple, kb_int_list, kb_str_NoneType, kb_str_bool, kb_str_int, kb_str_str, kb_str_tuple, kb_str_list, kb_tuple_NoneType, kb_tuple_bool, kb_tuple_int, kb_tuple_str, kb_tuple_tuple, kb_tuple_list, kb_list_NoneType, kb_list_bool, kb_list_int, kb_list_str, kb_list_tuple, kb_list_list, c_kind_height, c_has_ground, c_opened, c_same_shape, c_as_precise, c_value_fits, c_use_fits, c__law_draws, c__law_draw, c__law_number, c__law_same, c__law_kind, c__law_tall, c__law_any_kind, c__law_agreeing, c__law_has, c__law_open, c__law_value, c__law_used, c__law_value_fits, c__law_use_fits, c__law_changed, c_law, c_Kind, so_seq, so_nil, so_set, so_expr, so_ret, so_retN, so_pass, so_brk, so_cnt, so_never, so_raise, so_try, so_ite, ret_bl, ret_int, ret_str, ret_non]
    cases isU a <;> exact ⟨rfl, trivial⟩
/-- what is opened -/
theorem open_p (a : Kn) (m : Nat) (ha : ht a ≤ m + 1) (h8 : m ≤ 60) (e : hg a "pair" = true) : ∃ a1 a2, ht a1 ≤ m ∧ ht a2 ≤ m ∧ ∀ (k : Nat) (h : HD), run tb.prog (k + 1) "opened" [kd a, .str "pair"] h = .ok (kd (.pr a1 a2)) h ∧ run tb.prog (k + 1) "_law_open" [kd a, .str "pair"] h = .ok (kd (.pr a1 a2)) h := by
  cases a with
  | unk =>
    refine ⟨.unk, .unk, Nat.zero_le _, Nat.zero_le _, fun k h => ⟨of_ok ?_, of_ok ?_⟩⟩
    · simp only [r_opened, F_opened, ok_ok, ok_noex, ok_var, ok_lit, ok_prim, ok_nil, ok_cons, ok_call, ok_and, ok_or, ok_iteE, ok_chain, ok_meth, ok_attr, ok_join, ok_jnil, ok_jcons, p_not, p_add, p_sub, p_adds, p_muls, p_mulr, p_fdiv, p_mod, p_pow, p_eqi, p_eqs, p_eqb, p_nei, p_nes, p_neb, p_lt, p_le, p_gt, p_ge, p_is, p_isnot, p_lens, p_lent, p_lenk, p_int, p_bool, p_min, p_max, p_tup, p_lst, p_fmts, p_ixt, p_ixs, p_slse, p_slsu, p_isity, p_isigl, bm_rm, bm_st, tr_bl, tr_non, tr_int, tr_tup, tr_kls, tr_str, Mp.isNon, List.getElem?_cons_zero, List.getElem?_cons_succ, List.set_cons_zero, List.set_cons_succ, ity_non, ity_bl, ity_int, ity_str, ity_tup, ity_kls, kb_NoneType_NoneType, kb_NoneType_bool, kb_NoneType_int, kb_NoneType_str, kb_NoneType_tuple, kb_NoneType_list, kb_bool_NoneType, kb_bool_bool, kb_bool_int, kb_bool_str, kb_bool_tuple, kb_bool_list, kb_int_NoneType, kb_int_bool, kb_int_int, kb_int_str, kb_int_tuple, kb_int_list, kb_str_NoneType, kb_str_bool, kb_str_int, kb_str_str, kb_str_tuple, kb_str_list, kb_tuple_NoneType, kb_tuple_bool, kb_tuple_int, kb_tuple_str, kb_tuple_tuple, kb_tuple_list, kb_list_NoneType, kb_list_bool, kb_list_int, kb_list_str, kb_list_tuple, kb_list_list, c_kind_height, c_has_ground, c_opened, c_same_shape, c_as_precise, c_value_fits, c_use_fits, c__law_draws, c__law_draw, c__law_number, c__law_same, c__law_kind, c__law_tall, c__law_any_kind, c__law_agreeing, c__law_has, c__law_open, c__law_value, c__law_used, c__law_value_fits, c__law_use_fits, c__law_changed, c_law, c_Kind, so_seq, so_nil, so_set, so_expr, so_ret, so_retN, so_pass, so_brk, so_cnt, so_never, so_raise, so_try, so_ite, ret_bl, ret_int, ret_str, ret_non, p_equ .unk (by decide), isU, if_true, c3, true_and]
      exact ⟨rfl, gc_id rfl⟩
    · simp only [r__law_open, F__law_open, ok_ok, ok_noex, ok_var, ok_lit, ok_prim, ok_nil, ok_cons, ok_call, ok_and, ok_or, ok_iteE, ok_chain, ok_meth, ok_attr, ok_join, ok_jnil, ok_jcons, p_not, p_add, p_sub, p_adds, p_muls, p_mulr, p_fdiv, p_mod, p_pow, p_eqi, p_eqs, p_eqb, p_nei, p_nes, p_neb, p_lt, p_le, p_gt, p_ge, p_is, p_isnot, p_lens, p_lent, p_lenk, p_int, p_bool, p_min, p_max, p_tup, p_lst, p_fmts, p_ixt, p_ixs, p_slse, p_slsu, p_isity, p_isigl, bm_rm, bm_st, tr_bl, tr_non, tr_int, tr_tup, tr_kls, tr_str, Mp.isNon, List.getElem?_cons_zero, List.getElem?_cons_succ, List.set_cons_zero, List.set_cons_succ, ity_non, ity_bl, ity_int, ity_str, ity_tup, ity_kls, kb_NoneType_NoneType, kb_NoneType_bool, kb_NoneType_int, kb_NoneType_str, kb_NoneType_tuple, kb_NoneType_list, kb_bool_NoneType, kb_bool_bool, kb_bool_int, kb_bool_str, kb_bool_tuple, kb_bool_list, kb_int_NoneType, kb_int_bool, kb_int_int, kb_int_str, kb_int_tuple, kb_int_list, kb_str_NoneType, kb_str_bool, kb_str_int, kb_str_str, kb_str_tuple, kb_str_list, kb_tuple_NoneType, kb_tuple_bool, kb_tuple_int, kb_tuple_str, kb_tuple_tuple, kb_tuple_list, kb_list_NoneType, kb_list_bool, kb_list_int, kb_list_str, kb_list_tuple, kb_list_list, c_kind_height, c_has_ground, c_opened, c_same_shape, c_as_precise, c_value_fits, c_use_fits, c__law_draws, c__law_draw, c__law_number, c__law_same, c__law_kind, c__law_tall, c__law_any_kind, c__law_agreeing, c__law_has, c__law_open, c__law_value, c__law_used, c__law_value_fits, c__law_use_fits, c__law_changed, c_law, c_Kind, so_seq, so_nil, so_set, so_expr, so_ret, so_retN, so_pass, so_brk, so_cnt, so_never, so_raise, so_try, so_ite, ret_bl, ret_int, ret_str, ret_non, p_equ .unk (by decide), isU, if_true, c3, true_and]
      exact ⟨rfl, gc_id rfl⟩
  | pr a1 a2 =>
    have ha' : max (ht a1) (ht a2) + 1 ≤ m + 1 := ha
    refine ⟨a1, a2, by omega, by omega, fun k h => ⟨of_ok ?_, of_ok ?_⟩⟩
    · simp only [r_opened, F_opened, ok_ok, ok_noex, ok_var, ok_lit, ok_prim, ok_nil, ok_cons, ok_call, ok_and, ok_or, ok_iteE, ok_chain, ok_meth, ok_attr, ok_join, ok_jnil, ok_jcons, p_not, p_add, p_sub, p_adds, p_muls, p_mulr, p_fdiv, p_mod, p_pow, p_eqi, p_eqs, p_eqb, p_nei, p_nes, p_neb, p_lt, p_le, p_gt, p_ge, p_is, p_isnot, p_lens, p_lent, p_lenk, p_int, p_bool, p_min, p_max, p_tup, p_lst, p_fmts, p_ixt, p_ixs, p_slse, p_slsu, p_isity, p_isigl, bm_rm, bm_st, tr_bl, tr_non, tr_int, tr_tup, tr_kls, tr_str, Mp.isNon, List.getElem?_cons_zero, List.getElem?_cons_succ, List.set_cons_zero, List.set_cons_succ, ity_non, ity_bl, ity_int, ity_str, ity_tup, ity_kls, kb_NoneType_NoneType, kb_NoneType_bool, kb_NoneType_int, kb_NoneType_str, kb_NoneType_tuple, kb_NoneType_list, kb_bool_NoneType, kb_bool_bool, kb_bool_int, kb_bool_str, kb_bool_tuple, kb_bool_list, kb_int_NoneType, kb_int_bool, kb_int_int, kb_int_str, kb_int_tuple, kb_int_list, kb_str_NoneType, kb_str_bool, kb_str_int, kb_str_str, kb_str_tuple, kb_str_list, kb_tuple_NoneType, kb_tuple_bool, kb_tuple_int, kb_tuple_str, kb_tuple_tuple, kb_tuple_list, kb_list_NoneType, kb_list_bool, kb_list_int, kb_list_str, kb_list_tuple, kb_list_list, c_kind_height, c_has_ground, c_opened, c_same_shape, c_as_precise, c_value_fits, c_use_fits, c__law_draws, c__law_draw, c__law_number, c__law_same, c__law_kind, c__law_tall, c__law_any_kind, c__law_agreeing, c__law_has, c__law_open, c__law_value, c__law_used, c__law_value_fits, c__law_use_fits, c__law_changed, c_law, c_Kind, so_seq, so_nil, so_set, so_expr, so_ret, so_retN, so_pass, so_brk, so_cnt, so_never, so_raise, so_try, so_ite, ret_bl, ret_int, ret_str, ret_non, p_equ (.pr a1 a2) (by omega), isU, Bool.false_eq_true, if_false]
      exact ⟨rfl, gc_id (kd_cl _ _)⟩
    · simp only [r__law_open, F__law_open, ok_ok, ok_noex, ok_var, ok_lit, ok_prim, ok_nil, ok_cons, ok_call, ok_and, ok_or, ok_iteE, ok_chain, ok_meth, ok_attr, ok_join, ok_jnil, ok_jcons, p_not, p_add, p_sub, p_adds, p_muls, p_mulr, p_fdiv, p_mod, p_pow, p_eqi, p_eqs, p_eqb, p_nei, p_nes, p_neb, p_lt, p_le, p_gt, p_ge, p_is, p_isnot, p_lens, p_lent, p_lenk, p_int, p_bool, p_min, p_max, p_tup, p_lst, p_fmts, p_ixt, p_ixs, p_slse, p_slsu, p_isity, p_isigl, bm_rm, bm_st, tr_bl, tr_non, tr_int, tr_tup, tr_kls, tr_str, Mp.isNon, List.getElem?_cons_zero, List.getElem?_cons_succ, List.set_cons_zero, List.set_cons_succ, ity_non, ity_bl, ity_int, ity_str, ity_tup, ity_kls, kb_NoneType_NoneType, kb_NoneType_bool, kb_NoneType_int, kb_NoneType_str, kb_NoneType_tuple, kb_NoneType_list, kb_bool_NoneType, kb_bool_bool, kb_bool_int, kb_bool_str, kb_bool_tuple, kb_bool_list, kb_int_NoneType, kb_int_bool, kb_int_int, kb_int_str, kb_int_tuple, kb_int_list, kb_str_NoneType, kb_str_bool, kb_str_int, kb_str_str, kb_str_tuple, kb_str_list, kb_tuple_NoneType, kb_tuple_bool, kb_tuple_int, kb_tuple_str, kb_tuple_tuple, kb_tuple_list, kb_list_NoneType, kb_list_bool, kb_list_int, kb_list_str, kb_list_tuple, kb_list_list, c_kind_height, c_has_ground, c_opened, c_same_shape, c_as_precise, c_value_fits, c_use_fits, c__law_draws, c__law_draw, c__law_number, c__law_same, c__law_kind, c__law_tall, c__law_any_kind, c__law_agreeing, c__law_has, c__law_open, c__law_value, c__law_used, c__law_value_fits, c__law_use_fits, c__law_changed, c_law, c_Kind, so_seq, so_nil, so_set, so_expr, so_ret, so_retN, so_pass, so_brk, so_cnt, so_never, so_raise, so_try, so_ite, ret_bl, ret_int, ret_str, ret_non, p_equ (.pr a1 a2) (by omega), isU, Bool.false_eq_true, if_false]
      exact ⟨rfl, gc_id (kd_cl _ _)⟩
  | fn _ _ => exact absurd (show decide (("fun" : Str) = "pair") = true from e) (by decide +kernel)
  | int => exact absurd e (by decide +kernel)
  | bool => exact absurd e (by decide +kernel)
  | unit => exact absurd e (by decide +kernel)
theorem open_f (a : Kn) (m : Nat) (ha : ht a ≤ m + 1) (h8 : m ≤ 60) (e : hg a "fun" = true) : ∃ a1 a2, ht a1 ≤ m ∧ ht a2 ≤ m ∧ ∀ (k : Nat) (h : HD), run tb.prog (k + 1) "opened" [kd a, .str "fun"] h = .ok (kd (.fn a1 a2)) h ∧ run tb.prog (k + 1) "_law_open" [kd a, .str "fun"] h = .ok (kd (.fn a1 a2)) h := by
  cases a with
  | unk =>
    refine ⟨.unk, .unk, Nat.zero_le _, Nat.zero_le _, fun k h => ⟨of_ok ?_, of_ok ?_⟩⟩
    · simp only [r_opened, F_opened, ok_ok, ok_noex, ok_var, ok_lit, ok_prim, ok_nil, ok_cons, ok_call, ok_and, ok_or, ok_iteE, ok_chain, ok_meth, ok_attr, ok_join, ok_jnil, ok_jcons, p_not, p_add, p_sub, p_adds, p_muls, p_mulr, p_fdiv, p_mod, p_pow, p_eqi, p_eqs, p_eqb, p_nei, p_nes, p_neb, p_lt, p_le, p_gt, p_ge, p_is, p_isnot, p_lens, p_lent, p_lenk, p_int, p_bool, p_min, p_max, p_tup, p_lst, p_fmts, p_ixt, p_ixs, p_slse, p_slsu, p_isity, p_isigl, bm_rm, bm_st, tr_bl, tr_non, tr_int, tr_tup, tr_kls, tr_str, Mp.isNon, List.getElem?_cons_zero, List.getElem?_cons_succ, List.set_cons_zero, List.set_cons_succ, ity_non, ity_bl, ity_int, ity_str, ity_tup, ity_kls, kb_NoneType_NoneType, kb_NoneType_bool, kb_NoneType_int, kb_NoneType_str, kb_NoneType_tuple, kb_NoneType_list, kb_bool_NoneType, kb_bool_bool, kb_bool_int, kb_bool_str, kb_bool_tuple, kb_bool_list, kb_int_NoneType, kb_int_bool, kb_int_int, kb_int_str, kb_int_tuple, kb_int_list, kb_str_NoneType, kb_str_bool, kb_str_int, kb_str_str, kb_str_tuple, kb_str_list, kb_tuple_NoneType, kb_tuple_bool, kb_tuple_int, kb_tuple_str, kb_tuple_tuple, kb_tuple_list, kb_list_NoneType, kb_list_bool, kb_list_int, kb_list_str, kb_list_tuple, kb_list_list, c_kind_height, c_has_ground, c_opened, c_same_shape, c_as_precise, c_value_fits, c_use_fits, c__law_draws, c__law_draw, c__law_number, c__law_same, c__law_kind, c__law_tall, c__law_any_kind, c__law_agreeing, c__law_has, c__law_open, c__law_value, c__law_used, c__law_value_fits, c__law_use_fits, c__law_changed, c_law, c_Kind, so_seq, so_nil, so_set, so_expr, so_ret, so_retN, so_pass, so_brk, so_cnt, so_never, so_raise, so_try, so_ite, ret_bl, ret_int, ret_str, ret_non, p_equ .unk (by decide), isU, if_true, c3, true_and]
      exact ⟨rfl, gc_id rfl⟩
    · simp only [r__law_open, F__law_open, ok_ok, ok_noex, ok_var, ok_lit, ok_prim, ok_nil, ok_cons, ok_call, ok_and, ok_or, ok_iteE, ok_chain, ok_meth, ok_attr, ok_join, ok_jnil, ok_jcons, p_not, p_add, p_sub, p_adds, p_muls, p_mulr, p_fdiv, p_mod, p_pow, p_eqi, p_eqs, p_eqb, p_nei, p_nes, p_neb, p_lt, p_le, p_gt, p_ge, p_is, p_isnot, p_lens, p_lent, p_lenk, p_int, p_bool, p_min, p_max, p_tup, p_lst, p_fmts, p_ixt, p_ixs, p_slse, p_slsu, p_isity, p_isigl, bm_rm, bm_st, tr_bl, tr_non, tr_int, tr_tup, tr_kls, tr_str, Mp.isNon, List.getElem?_cons_zero, List.getElem?_cons_succ, List.set_cons_zero, List.set_cons_succ, ity_non, ity_bl, ity_int, ity_str, ity_tup, ity_kls, kb_NoneType_NoneType, kb_NoneType_bool, kb_NoneType_int, kb_NoneType_str, kb_NoneType_tuple, kb_NoneType_list, kb_bool_NoneType, kb_bool_bool, kb_bool_int, kb_bool_str, kb_bool_tuple, kb_bool_list, kb_int_NoneType, kb_int_bool, kb_int_int, kb_int_str, kb_int_tuple, kb_int_list, kb_str_NoneType, kb_str_bool, kb_str_int, kb_str_str, kb_str_tuple, kb_str_list, kb_tuple_NoneType, kb_tuple_bool, kb_tuple_int, kb_tuple_str, kb_tuple_tuple, kb_tuple_list, kb_list_NoneType, kb_list_bool, kb_list_int, kb_list_str, kb_list_tuple, kb_list_list, c_kind_height, c_has_ground, c_opened, c_same_shape, c_as_precise, c_value_fits, c_use_fits, c__law_draws, c__law_draw, c__law_number, c__law_same, c__law_kind, c__law_tall, c__law_any_kind, c__law_agreeing, c__law_has, c__law_open, c__law_value, c__law_used, c__law_value_fits, c__law_use_fits, c__law_changed, c_law, c_Kind, so_seq, so_nil, so_set, so_expr, so_ret, so_retN, so_pass, so_brk, so_cnt, so_never, so_raise, so_try, so_ite, ret_bl, ret_int, ret_str, ret_non, p_equ .unk (by decide), isU, if_true, c3, true_and]
      exact ⟨rfl, gc_id rfl⟩
  | fn a1 a2 =>
    have ha' : max (ht a1) (ht a2) + 1 ≤ m + 1 := ha
    refine ⟨a1, a2, by omega, by omega, fun k h => ⟨of_ok ?_, of_ok ?_⟩⟩
    · simp only [r_opened, F_opened, ok_ok, ok_noex, ok_var, ok_lit, ok_prim, ok_nil, ok_cons, ok_call, ok_and, ok_or, ok_iteE, ok_chain, ok_meth, ok_attr, ok_join, ok_jnil, ok_jcons, p_not, p_add, p_sub, p_adds, p_muls, p_mulr, p_fdiv, p_mod, p_pow, p_eqi, p_eqs, p_eqb, p_nei, p_nes, p_neb, p_lt, p_le, p_gt, p_ge, p_is, p_isnot, p_lens, p_lent, p_lenk, p_int, p_bool, p_min, p_max, p_tup, p_lst, p_fmts, p_ixt, p_ixs, p_slse, p_slsu, p_isity, p_isigl, bm_rm, bm_st, tr_bl, tr_non, tr_int, tr_tup, tr_kls, tr_str, Mp.isNon, List.getElem?_cons_zero, List.getElem?_cons_succ, List.set_cons_zero, List.set_cons_succ, ity_non, ity_bl, ity_int, ity_str, ity_tup, ity_kls, kb_NoneType_NoneType, kb_NoneType_bool, kb_NoneType_int, kb_NoneType_str, kb_NoneType_tuple, kb_NoneType_list, kb_bool_NoneType, kb_bool_bool, kb_bool_int, kb_bool_str, kb_bool_tuple, kb_bool_list, kb_int_NoneType, kb_int_bool, kb_int_int, kb_int_str, kb_int_tuple, kb_int_list, kb_str_NoneType, kb_str_bool, kb_str_int, kb_str_str, kb_str_tuple, kb_str_list, kb_tuple_NoneType, kb_tuple_bool, kb_tuple_int, kb_tuple_str, kb_tuple_tuple, kb_tuple_list, kb_list_NoneType, kb_list_bool, kb_list_int, kb_list_str, kb_list_tuple, kb_list_list, c_kind_height, c_has_ground, c_opened, c_same_shape, c_as_precise, c_value_fits, c_use_fits, c__law_draws, c__law_draw, c__law_number, c__law_same, c__law_kind, c__law_tall, c__law_any_kind, c__law_agreeing, c__law_has, c__law_open, c__law_value, c__law_used, c__law_value_fits, c__law_use_fits, c__law_changed, c_law, c_Kind, so_seq, so_nil, so_set, so_expr, so_ret, so_retN, so_pass, so_brk, so_cnt, so_never, so_raise, so_try, so_ite, ret_bl, ret_int, ret_str, ret_non, p_equ (.fn a1 a2) (by omega), isU, Bool.false_eq_true, if_false]
      exact ⟨rfl, gc_id (kd_cl _ _)⟩
    · simp only [r__law_open, F__law_open, ok_ok, ok_noex, ok_var, ok_lit, ok_prim, ok_nil, ok_cons, ok_call, ok_and, ok_or, ok_iteE, ok_chain, ok_meth, ok_attr, ok_join, ok_jnil, ok_jcons, p_not, p_add, p_sub, p_adds, p_muls, p_mulr, p_fdiv, p_mod, p_pow, p_eqi, p_eqs, p_eqb, p_nei, p_nes, p_neb, p_lt, p_le, p_gt, p_ge, p_is, p_isnot, p_lens, p_lent, p_lenk, p_int, p_bool, p_min, p_max, p_tup, p_lst, p_fmts, p_ixt, p_ixs, p_slse, p_slsu, p_isity, p_isigl, bm_rm, bm_st, tr_bl, tr_non, tr_int, tr_tup, tr_kls, tr_str, Mp.isNon, List.getElem?_cons_zero, List.getElem?_cons_succ, List.set_cons_zero, List.set_cons_succ, ity_non, ity_bl, ity_int, ity_str, ity_tup, ity_kls, kb_NoneType_NoneType, kb_NoneType_bool, kb_NoneType_int, kb_NoneType_str, kb_NoneType_tuple, kb_NoneType_list, kb_bool_NoneType, kb_bool_bool, kb_bool_int, kb_bool_str, kb_bool_tuple, kb_bool_list, kb_int_NoneType, kb_int_bool, kb_int_int, kb_int_str, kb_int_tuple, kb_int_list, kb_str_NoneType, kb_str_bool, kb_str_int, kb_str_str, kb_str_tuple, kb_str_list, kb_tuple_NoneType, kb_tuple_bool, kb_tuple_int, kb_tuple_str, kb_tuple_tuple, kb_tuple_list, kb_list_NoneType, kb_list_bool, kb_list_int, kb_list_str, kb_list_tuple, kb_list_list, c_kind_height, c_has_ground, c_opened, c_same_shape, c_as_precise, c_value_fits, c_use_fits, c__law_draws, c__law_draw, c__law_number, c__law_same, c__law_kind, c__law_tall, c__law_any_kind, c__law_agreeing, c__law_has, c__law_open, c__law_value, c__law_used, c__law_value_fits, c__law_use_fits, c__law_changed, c_law, c_Kind, so_seq, so_nil, so_set, so_expr, so_ret, so_retN, so_pass, so_brk, so_cnt, so_never, so_raise, so_try, so_ite, ret_bl, ret_int, ret_str, ret_non, p_equ (.fn a1 a2) (by omega), isU, Bool.false_eq_true, if_false]
      exact ⟨rfl, gc_id (kd_cl _ _)⟩
  | pr _ _ => exact absurd (show decide (("pair" : Str) = "fun") = true from e) (by decide +kernel)
  | int => exact absurd e (by decide +kernel)
  | bool => exact absurd e (by decide +kernel)
  | unit => exact absurd e (by decide +kernel)
/-! ### the fits -/
def gr : Vl → Str
  | .int _ => "int"
  | .bool _ => "bool"
  | .unit => "unit"
  | .pair _ _ => "pair"
  | .fn _ _ => "fun"
  | .fnS _ _ => "fun"
theorem ix0v {C : Cal} {h : HD} {Q : D → HD → Prop} (v : Vl) : okx (fun _ _ => False) (Mp.prD tb.gi C .ix [vd v, .int 0] h) Q = Q (.str (gr v)) h := by
  cases v <;> rfl
theorem gr_stop (v : Vl) : decide (gr v = "stop") = false := by
  cases v with
  | int _ => show decide (("int" : Str) = "stop") = false; decide +kernel
  | bool _ => show decide (("bool" : Str) = "stop") = false; decide +kernel
  | unit => decide +kernel
  | pair _ _ => show decide (("pair" : Str) = "stop") = false; decide +kernel
  | fn _ _ => show decide (("fun" : Str) = "stop") = false; decide +kernel
  | fnS _ _ => show decide (("fun" : Str) = "stop") = false; decide +kernel
section
variable (x y : D)
theorem a1_0 : Mp.atI [x] 0 = some x := rfl
theorem a2_0 : Mp.atI [x, y] 0 = some x := rfl
theorem a2_1 : Mp.atI [x, y] 1 = some y := rfl
theorem a3_0 (z : D) : Mp.atI [x, y, z] 0 = some x := rfl
theorem a3_1 (z : D) : Mp.atI [x, y, z] 1 = some y := rfl
theorem a3_2 (z : D) : Mp.atI [x, y, z] 2 = some z := rfl
end
abbrev bt3 : List D := [.str "int", .str "bool", .str "unit"]
theorem inb_t (x : Str) (h : HD) (e : x = "int" ∨ x = "bool" ∨ x = "unit") : inD (.str x) (.tup bt3) h = some true := by
  rcases e with rfl | rfl | rfl <;> (show some _ = some true; decide +kernel)
theorem inb_f (x : Str) (h : HD) (e : x = "pair" ∨ x = "fun") : inD (.str x) (.tup bt3) h = some false := by
  rcases e with rfl | rfl <;> (show some _ = some false; decide +kernel)
theorem lk_t (x : Str) (e : x = "int" ∨ x = "bool" ∨ x = "unit") : (v_BASE_VALUES.lookup x).isSome = true := by
  rcases e with rfl | rfl | rfl <;> decide +kernel
theorem lk_f (x : Str) (e : x = "pair" ∨ x = "fun") : (v_BASE_VALUES.lookup x).isSome = false := by
  rcases e with rfl | rfl <;> decide +kernel
theorem ug_call : v_USED_GROUNDS.lookup ("call" : Str) = some (D.str "fun") := by rfl
theorem ug_first : v_USED_GROUNDS.lookup ("first" : Str) = some (D.str "pair") := by rfl
theorem ug_second : v_USED_GROUNDS.lookup ("second" : Str) = some (D.str "pair") := by rfl
theorem d1 : decide (("pair" : Str) = "pair") = true := by decide +kernel
theorem d2 : decide (("fun" : Str) = "pair") = false := by decide +kernel
theorem d3 : decide (("stop" : Str) = "stop") = true := by decide +kernel
theorem d4 : decide (("look" : Str) = "look") = true := by decide +kernel
theorem d5 : decide (("call" : Str) = "look") = false := by decide +kernel
theorem d6 : decide (("first" : Str) = "look") = false := by decide +kernel
theorem d7 : decide (("second" : Str) = "look") = false := by decide +kernel
theorem d8 : decide (("call" : Str) = "call") = true := by decide +kernel
theorem d9 : decide (("first" : Str) = "call") = false := by decide +kernel
theorem d10 : decide (("second" : Str) = "call") = false := by decide +kernel
theorem d11 : decide (("first" : Str) = "first") = true := by decide +kernel
theorem d12 : decide (("second" : Str) = "first") = false := by decide +kernel
/-- both answer alike -/
def FV (v : Vl) (a : Kn) : Prop := ∃ r, ∀ (k : Nat) (h : HD), vp v + 2 ≤ k → run tb.prog k "value_fits" [vd v, kd a] h = .ok (.bl r) h ∧ run tb.prog k "_law_value_fits" [vd v, kd a] h = .ok (.bl r) h
def FU (u : Us) (a : Kn) : Prop := ∃ r, ∀ (k : Nat) (h : HD), up u + 2 ≤ k → run tb.prog k "use_fits" [ud u, kd a] h = .ok (.bl r) h ∧ run tb.prog k "_law_use_fits" [ud u, kd a] h = .ok (.bl r) h
theorem leafV (a : Kn) (ha : ht a ≤ 60) (g : Str) (xs : List D) (hg3 : g = "int" ∨ g = "bool" ∨ g = "unit") (k : Nat) (h : HD) : run tb.prog (k + 2) "value_fits" [.tup (.str g :: xs), kd a] h = .ok (.bl (hg a g)) h ∧ run tb.prog (k + 2) "_law_value_fits" [.tup (.str g :: xs), kd a] h = .ok (.bl (hg a g)) h := by
  constructor
  · apply of_ok
    rw [r_value_fits]
    simp only [F_value_fits, ok_ok, ok_noex, ok_var, ok_lit, ok_prim, ok_nil, ok_cons, ok_call, ok_and, ok_or, ok_iteE, ok_chain, ok_meth, ok_attr, ok_join, ok_jnil, ok_jcons, p_not, p_add, p_sub, p_adds, p_muls, p_mulr, p_fdiv, p_mod, p_pow, p_eqi, p_eqs, p_eqb, p_nei, p_nes, p_neb, p_lt, p_le, p_gt, p_ge, p_is, p_isnot, p_lens, p_lent, p_lenk, p_int, p_bool, p_min, p_max, p_tup, p_lst, p_fmts, p_ixt, p_ixs, p_slse, p_slsu, p_isity, p_isigl, bm_rm, bm_st, tr_bl, tr_non, tr_int, tr_tup, tr_kls, tr_str, Mp.isNon, List.getElem?_cons_zero, List.getElem?_cons_succ, List.set_cons_zero, List.set_cons_succ, ity_non, ity_bl, ity_int, ity_str, ity_tup, ity_kls, kb_NoneType_NoneType, kb_NoneType_bool, kb_NoneType_int, kb_NoneType_str, kb_NoneType_tuple, kb_NoneType_list, kb_bool_NoneType, kb_bool_bool, kb_bool_int, kb_bool_str, kb_bool_tuple, kb_bool_list, kb_int_NoneType, kb_int_bool, kb_int_int, kb_int_str, kb_int_tuple, kb_int_list, kb_str_NoneType, kb_str_bool, kb_str_int, kb_str_str, kb_str_tuple, kb_str_list, kb_tuple_NoneType, kb_tuple_bool, kb_tuple_int, kb_tuple_str, kb_tuple_tuple, kb_tuple_list, kb_list_NoneType, kb_list_bool, kb_list_int, kb_list_str, kb_list_tuple, kb_list_list, c_kind_height, c_has_ground, c_opened, c_same_shape, c_as_precise, c_value_fits, c_use_fits, c__law_draws, c__law_draw, c__law_number, c__law_same, c__law_kind, c__law_tall, c__law_any_kind, c__law_agreeing, c__law_has, c__law_open, c__law_value, c__law_used, c__law_value_fits, c__law_use_fits, c__law_changed, c_law, c_Kind, so_seq, so_nil, so_set, so_expr, so_ret, so_retN, so_pass, so_brk, so_cnt, so_never, so_raise, so_try, so_ite, ret_bl, ret_int, ret_str, ret_non, atI_zero, x_has k _ a g (by omega)]
    cases hg a g with
    | false => exact ⟨rfl, trivial⟩
    | true =>
      simp only [Bool.not_true, Bool.false_eq_true, if_false, p_ind k_BASE_VALUES, lk_t g hg3, if_true, ok_ok, ok_noex, ok_var, ok_lit, ok_prim, ok_nil, ok_cons, ok_call, ok_and, ok_or, ok_iteE, ok_chain, ok_meth, ok_attr, ok_join, ok_jnil, ok_jcons, p_not, p_add, p_sub, p_adds, p_muls, p_mulr, p_fdiv, p_mod, p_pow, p_eqi, p_eqs, p_eqb, p_nei, p_nes, p_neb, p_lt, p_le, p_gt, p_ge, p_is, p_isnot, p_lens, p_lent, p_lenk, p_int, p_bool, p_min, p_max, p_tup, p_lst, p_fmts, p_ixt, p_ixs, p_slse, p_slsu, p_isity, p_isigl, bm_rm, bm_st, tr_bl, tr_non, tr_int, tr_tup, tr_kls, tr_str, Mp.isNon, List.getElem?_cons_zero, List.getElem?_cons_succ, List.set_cons_zero, List.set_cons_succ, ity_non, ity_bl, ity_int, ity_str, ity_tup, ity_kls, kb_NoneType_NoneType, kb_NoneType_bool, kb_NoneType_int, kb_NoneType_str, kb_NoneType_tuple, kb_NoneType_list, kb_bool_NoneType, kb_bool_bool, kb_bool_int, kb_bool_str, kb_bool_tuple, kb_bool_list, kb_int_NoneType, kb_int_bool, kb_int_int, kb_int_str, kb_int_tuple, kb_int_list, kb_str_NoneType, kb_str_bool, kb_str_int, kb_str_str, kb_str_tuple, kb_str_list, kb_tuple_NoneType, kb_tuple_bool, kb_tuple_int, kb_tuple_str, kb_tuple_tuple, kb_tuple_list, kb_list_NoneType, kb_list_bool, kb_list_int, kb_list_str, kb_list_tuple, kb_list_list, c_kind_height, c_has_ground, c_opened, c_same_shape, c_as_precise, c_value_fits, c_use_fits, c__law_draws, c__law_draw, c__law_number, c__law_same, c__law_kind, c__law_tall, c__law_any_kind, c__law_agreeing, c__law_has, c__law_open, c__law_value, c__law_used, c__law_value_fits, c__law_use_fits, c__law_changed, c_law, c_Kind, so_seq, so_nil, so_set, so_expr, so_ret, so_retN, so_pass, so_brk, so_cnt, so_never, so_raise, so_try, so_ite, ret_bl, ret_int, ret_str, ret_non]
      exact ⟨trivial, trivial⟩
  · apply of_ok
    rw [r__law_value_fits]
    simp only [F__law_value_fits, ok_ok, ok_noex, ok_var, ok_lit, ok_prim, ok_nil, ok_cons, ok_call, ok_and, ok_or, ok_iteE, ok_chain, ok_meth, ok_attr, ok_join, ok_jnil, ok_jcons, p_not, p_add, p_sub, p_adds, p_muls, p_mulr, p_fdiv, p_mod, p_pow, p_eqi, p_eqs, p_eqb, p_nei, p_nes, p_neb, p_lt, p_le, p_gt, p_ge, p_is, p_isnot, p_lens, p_lent, p_lenk, p_int, p_bool, p_min, p_max, p_tup, p_lst, p_fmts, p_ixt, p_ixs, p_slse, p_slsu, p_isity, p_isigl, bm_rm, bm_st, tr_bl, tr_non, tr_int, tr_tup, tr_kls, tr_str, Mp.isNon, List.getElem?_cons_zero, List.getElem?_cons_succ, List.set_cons_zero, List.set_cons_succ, ity_non, ity_bl, ity_int, ity_str, ity_tup, ity_kls, kb_NoneType_NoneType, kb_NoneType_bool, kb_NoneType_int, kb_NoneType_str, kb_NoneType_tuple, kb_NoneType_list, kb_bool_NoneType, kb_bool_bool, kb_bool_int, kb_bool_str, kb_bool_tuple, kb_bool_list, kb_int_NoneType, kb_int_bool, kb_int_int, kb_int_str, kb_int_tuple, kb_int_list, kb_str_NoneType, kb_str_bool, kb_str_int, kb_str_str, kb_str_tuple, kb_str_list, kb_tuple_NoneType, kb_tuple_bool, kb_tuple_int, kb_tuple_str, kb_tuple_tuple, kb_tuple_list, kb_list_NoneType, kb_list_bool, kb_list_int, kb_list_str, kb_list_tuple, kb_list_list, c_kind_height, c_has_ground, c_opened, c_same_shape, c_as_precise, c_value_fits, c_use_fits, c__law_draws, c__law_draw, c__law_number, c__law_same, c__law_kind, c__law_tall, c__law_any_kind, c__law_agreeing, c__law_has, c__law_open, c__law_value, c__law_used, c__law_value_fits, c__law_use_fits, c__law_changed, c_law, c_Kind, so_seq, so_nil, so_set, so_expr, so_ret, so_retN, so_pass, so_brk, so_cnt, so_never, so_raise, so_try, so_ite, ret_bl, ret_int, ret_str, ret_non, atI_zero, x__law_has k _ a g (by omega)]
    cases hg a g with
    | false => exact ⟨rfl, trivial⟩
    | true =>
      simp only [Bool.not_true, Bool.false_eq_true, if_false, p_tup, p_intu, inb_t g _ hg3, if_true, ok_ok, ok_noex, ok_var, ok_lit, ok_prim, ok_nil, ok_cons, ok_call, ok_and, ok_or, ok_iteE, ok_chain, ok_meth, ok_attr, ok_join, ok_jnil, ok_jcons, p_not, p_add, p_sub, p_adds, p_muls, p_mulr, p_fdiv, p_mod, p_pow, p_eqi, p_eqs, p_eqb, p_nei, p_nes, p_neb, p_lt, p_le, p_gt, p_ge, p_is, p_isnot, p_lens, p_lent, p_lenk, p_int, p_bool, p_min, p_max, p_tup, p_lst, p_fmts, p_ixt, p_ixs, p_slse, p_slsu, p_isity, p_isigl, bm_rm, bm_st, tr_bl, tr_non, tr_int, tr_tup, tr_kls, tr_str, Mp.isNon, List.getElem?_cons_zero, List.getElem?_cons_succ, List.set_cons_zero, List.set_cons_succ, ity_non, ity_bl, ity_int, ity_str, ity_tup, ity_kls, kb_NoneType_NoneType, kb_NoneType_bool, kb_NoneType_int, kb_NoneType_str, kb_NoneType_tuple, kb_NoneType_list, kb_bool_NoneType, kb_bool_bool, kb_bool_int, kb_bool_str, kb_bool_tuple, kb_bool_list, kb_int_NoneType, kb_int_bool, kb_int_int, kb_int_str, kb_int_tuple, kb_int_list, kb_str_NoneType, kb_str_bool, kb_str_int, kb_str_str, kb_str_tuple, kb_str_list, kb_tuple_NoneType, kb_tuple_bool, kb_tuple_int, kb_tuple_str, kb_tuple_tuple, kb_tuple_list, kb_list_NoneType, kb_list_bool, kb_list_int, kb_list_str, kb_list_tuple, kb_list_list, c_kind_height, c_has_ground, c_opened, c_same_shape, c_as_precise, c_value_fits, c_use_fits, c__law_draws, c__law_draw, c__law_number, c__law_same, c__law_kind, c__law_tall, c__law_any_kind, c__law_agreeing, c__law_has, c__law_open, c__law_value, c__law_used, c__law_value_fits, c__law_use_fits, c__law_changed, c_law, c_Kind, so_seq, so_nil, so_set, so_expr, so_ret, so_retN, so_pass, so_brk, so_cnt, so_never, so_raise, so_try, so_ite, ret_bl, ret_int, ret_str, ret_non]
      exact ⟨(by decide : 3 ≤ cap), trivial, trivial⟩
mutual
theorem fitV : ∀ (v : Vl) (a : Kn), ht a ≤ 60 → FV v a
  | .int i, a, ha => ⟨hg a "int", fun k h hk => by
    obtain ⟨k, rfl⟩ : ∃ j, k = j + 2 := ⟨k - 2, by have : 0 + 2 ≤ k := hk; omega⟩
    exact leafV a ha "int" _ (.inl rfl) k h⟩
  | .bool b, a, ha => ⟨hg a "bool", fun k h hk => by
    obtain ⟨k, rfl⟩ : ∃ j, k = j + 2 := ⟨k - 2, by have : 0 + 2 ≤ k := hk; omega⟩
    exact leafV a ha "bool" _ (.inr (.inl rfl)) k h⟩
  | .unit, a, ha => ⟨hg a "unit", fun k h hk => by
    obtain ⟨k, rfl⟩ : ∃ j, k = j + 2 := ⟨k - 2, by have : 0 + 2 ≤ k := hk; omega⟩
    exact leafV a ha "unit" _ (.inr (.inr rfl)) k h⟩
  | .pair v1 v2, a, ha => by
    by_cases e : hg a "pair" = true
    · obtain ⟨a1, a2, h1, h2, op⟩ := open_p a 60 (by omega) (by omega) e
      obtain ⟨r1, f1⟩ := fitV v1 a1 h1
      obtain ⟨r2, f2⟩ := fitV v2 a2 h2
      refine ⟨r1 && r2, fun k h hk => ?_⟩
      have hk : max (vp v1) (vp v2) + 1 + 2 ≤ k := hk
      obtain ⟨k, rfl⟩ : ∃ j, k = j + 2 := ⟨k - 2, by omega⟩
      obtain ⟨e1, g1⟩ := f1 (k + 1) h (by omega)
      obtain ⟨e2, g2⟩ := f2 (k + 1) h (by omega)
      refine ⟨of_ok ?_, of_ok ?_⟩
      · rw [r_value_fits]
        simp only [F_value_fits, vd, ok_ok, ok_noex, ok_var, ok_lit, ok_prim, ok_nil, ok_cons, ok_call, ok_and, ok_or, ok_iteE, ok_chain, ok_meth, ok_attr, ok_join, ok_jnil, ok_jcons, p_not, p_add, p_sub, p_adds, p_muls, p_mulr, p_fdiv, p_mod, p_pow, p_eqi, p_eqs, p_eqb, p_nei, p_nes, p_neb, p_lt, p_le, p_gt, p_ge, p_is, p_isnot, p_lens, p_lent, p_lenk, p_int, p_bool, p_min, p_max, p_tup, p_lst, p_fmts, p_ixt, p_ixs, p_slse, p_slsu, p_isity, p_isigl, bm_rm, bm_st, tr_bl, tr_non, tr_int, tr_tup, tr_kls, tr_str, Mp.isNon, List.getElem?_cons_zero, List.getElem?_cons_succ, List.set_cons_zero, List.set_cons_succ, ity_non, ity_bl, ity_int, ity_str, ity_tup, ity_kls, kb_NoneType_NoneType, kb_NoneType_bool, kb_NoneType_int, kb_NoneType_str, kb_NoneType_tuple, kb_NoneType_list, kb_bool_NoneType, kb_bool_bool, kb_bool_int, kb_bool_str, kb_bool_tuple, kb_bool_list, kb_int_NoneType, kb_int_bool, kb_int_int, kb_int_str, kb_int_tuple, kb_int_list, kb_str_NoneType, kb_str_bool, kb_str_int, kb_str_str, kb_str_tuple, kb_str_list, kb_tuple_NoneType, kb_tuple_bool, kb_tuple_int, kb_tuple_str, kb_tuple_tuple, kb_tuple_list, kb_list_NoneType, kb_list_bool, kb_list_int, kb_list_str, kb_list_tuple, kb_list_list, c_kind_height, c_has_ground, c_opened, c_same_shape, c_as_precise, c_value_fits, c_use_fits, c__law_draws, c__law_draw, c__law_number, c__law_same, c__law_kind, c__law_tall, c__law_any_kind, c__law_agreeing, c__law_has, c__law_open, c__law_value, c__law_used, c__law_value_fits, c__law_use_fits, c__law_changed, c_law, c_Kind, so_seq, so_nil, so_set, so_expr, so_ret, so_retN, so_pass, so_brk, so_cnt, so_never, so_raise, so_try, so_ite, ret_bl, ret_int, ret_str, ret_non, a3_0, a3_1, a3_2, x_has k _ a _ (Nat.le_trans ha (by decide : 60 ≤ 64)), e, p_ind k_BASE_VALUES, lk_f "pair" (.inl rfl), (op k h).1, d1, ixp1, ixp2, e1, e2, Bool.not_true, Bool.false_eq_true, if_false, if_true]
        cases r1 <;> exact ⟨rfl, trivial⟩
      · rw [r__law_value_fits]
        simp only [F__law_value_fits, vd, ok_ok, ok_noex, ok_var, ok_lit, ok_prim, ok_nil, ok_cons, ok_call, ok_and, ok_or, ok_iteE, ok_chain, ok_meth, ok_attr, ok_join, ok_jnil, ok_jcons, p_not, p_add, p_sub, p_adds, p_muls, p_mulr, p_fdiv, p_mod, p_pow, p_eqi, p_eqs, p_eqb, p_nei, p_nes, p_neb, p_lt, p_le, p_gt, p_ge, p_is, p_isnot, p_lens, p_lent, p_lenk, p_int, p_bool, p_min, p_max, p_tup, p_lst, p_fmts, p_ixt, p_ixs, p_slse, p_slsu, p_isity, p_isigl, bm_rm, bm_st, tr_bl, tr_non, tr_int, tr_tup, tr_kls, tr_str, Mp.isNon, List.getElem?_cons_zero, List.getElem?_cons_succ, List.set_cons_zero, List.set_cons_succ, ity_non, ity_bl, ity_int, ity_str, ity_tup, ity_kls, kb_NoneType_NoneType, kb_NoneType_bool, kb_NoneType_int, kb_NoneType_str, kb_NoneType_tuple, kb_NoneType_list, kb_bool_NoneType, kb_bool_bool, kb_bool_int, kb_bool_str, kb_bool_tuple, kb_bool_list, kb_int_NoneType, kb_int_bool, kb_int_int, kb_int_str, kb_int_tuple, kb_int_list, kb_str_NoneType, kb_str_bool, kb_str_int, kb_str_str, kb_str_tuple, kb_str_list, kb_tuple_NoneType, kb_tuple_bool, kb_tuple_int, kb_tuple_str, kb_tuple_tuple, kb_tuple_list, kb_list_NoneType, kb_list_bool, kb_list_int, kb_list_str, kb_list_tuple, kb_list_list, c_kind_height, c_has_ground, c_opened, c_same_shape, c_as_precise, c_value_fits, c_use_fits, c__law_draws, c__law_draw, c__law_number, c__law_same, c__law_kind, c__law_tall, c__law_any_kind, c__law_agreeing, c__law_has, c__law_open, c__law_value, c__law_used, c__law_value_fits, c__law_use_fits, c__law_changed, c_law, c_Kind, so_seq, so_nil, so_set, so_expr, so_ret, so_retN, so_pass, so_brk, so_cnt, so_never, so_raise, so_try, so_ite, ret_bl, ret_int, ret_str, ret_non, a3_0, a3_1, a3_2, x__law_has k _ a _ (Nat.le_trans ha (by decide : 60 ≤ 64)), e, p_intu, inb_f "pair" _ (.inl rfl), (op k h).2, d1, ixp1, ixp2, g1, g2, Bool.not_true, Bool.false_eq_true, if_false, if_true]
        refine ⟨(by decide : 3 ≤ cap), ?_⟩
        cases r1 <;> exact ⟨rfl, trivial⟩
    · have e : hg a "pair" = false := by simpa using e
      refine ⟨false, fun k h hk => ?_⟩
      obtain ⟨k, rfl⟩ : ∃ j, k = j + 2 := ⟨k - 2, by omega⟩
      refine ⟨of_ok ?_, of_ok ?_⟩
      · rw [r_value_fits]
        simp only [F_value_fits, vd, ok_ok, ok_noex, ok_var, ok_lit, ok_prim, ok_nil, ok_cons, ok_call, ok_and, ok_or, ok_iteE, ok_chain, ok_meth, ok_attr, ok_join, ok_jnil, ok_jcons, p_not, p_add, p_sub, p_adds, p_muls, p_mulr, p_fdiv, p_mod, p_pow, p_eqi, p_eqs, p_eqb, p_nei, p_nes, p_neb, p_lt, p_le, p_gt, p_ge, p_is, p_isnot, p_lens, p_lent, p_lenk, p_int, p_bool, p_min, p_max, p_tup, p_lst, p_fmts, p_ixt, p_ixs, p_slse, p_slsu, p_isity, p_isigl, bm_rm, bm_st, tr_bl, tr_non, tr_int, tr_tup, tr_kls, tr_str, Mp.isNon, List.getElem?_cons_zero, List.getElem?_cons_succ, List.set_cons_zero, List.set_cons_succ, ity_non, ity_bl, ity_int, ity_str, ity_tup, ity_kls, kb_NoneType_NoneType, kb_NoneType_bool, kb_NoneType_int, kb_NoneType_str, kb_NoneType_tuple, kb_NoneType_list, kb_bool_NoneType, kb_bool_bool, kb_bool_int, kb_bool_str, kb_bool_tuple, kb_bool_list, kb_int_NoneType, kb_int_bool, kb_int_int, kb_int_str, kb_int_tuple, kb_int_list, kb_str_NoneType, kb_str_bool, kb_str_int, kb_str_str, kb_str_tuple, kb_str_list, kb_tuple_NoneType, kb_tuple_bool, kb_tuple_int, kb_tuple_str, kb_tuple_tuple, kb_tuple_list, kb_list_NoneType, kb_list_bool, kb_list_int, kb_list_str, kb_list_tuple, kb_list_list, c_kind_height, c_has_ground, c_opened, c_same_shape, c_as_precise, c_value_fits, c_use_fits, c__law_draws, c__law_draw, c__law_number, c__law_same, c__law_kind, c__law_tall, c__law_any_kind, c__law_agreeing, c__law_has, c__law_open, c__law_value, c__law_used, c__law_value_fits, c__law_use_fits, c__law_changed, c_law, c_Kind, so_seq, so_nil, so_set, so_expr, so_ret, so_retN, so_pass, so_brk, so_cnt, so_never, so_raise, so_try, so_ite, ret_bl, ret_int, ret_str, ret_non, a3_0, x_has k _ a _ (Nat.le_trans ha (by decide : 60 ≤ 64)), e, Bool.not_false, if_true]
        exact ⟨trivial, trivial⟩
      · rw [r__law_value_fits]
        simp only [F__law_value_fits, vd, ok_ok, ok_noex, ok_var, ok_lit, ok_prim, ok_nil, ok_cons, ok_call, ok_and, ok_or, ok_iteE, ok_chain, ok_meth, ok_attr, ok_join, ok_jnil, ok_jcons, p_not, p_add, p_sub, p_adds, p_muls, p_mulr, p_fdiv, p_mod, p_pow, p_eqi, p_eqs, p_eqb, p_nei, p_nes, p_neb, p_lt, p_le, p_gt, p_ge, p_is, p_isnot, p_lens, p_lent, p_lenk, p_int, p_bool, p_min, p_max, p_tup, p_lst, p_fmts, p_ixt, p_ixs, p_slse, p_slsu, p_isity, p_isigl, bm_rm, bm_st, tr_bl, tr_non, tr_int, tr_tup, tr_kls, tr_str, Mp.isNon, List.getElem?_cons_zero, List.getElem?_cons_succ, List.set_cons_zero, List.set_cons_succ, ity_non, ity_bl, ity_int, ity_str, ity_tup, ity_kls, kb_NoneType_NoneType, kb_NoneType_bool, kb_NoneType_int, kb_NoneType_str, kb_NoneType_tuple, kb_NoneType_list, kb_bool_NoneType, kb_bool_bool, kb_bool_int, kb_bool_str, kb_bool_tuple, kb_bool_list, kb_int_NoneType, kb_int_bool, kb_int_int, kb_int_str, kb_int_tuple, kb_int_list, kb_str_NoneType, kb_str_bool, kb_str_int, kb_str_str, kb_str_tuple, kb_str_list, kb_tuple_NoneType, kb_tuple_bool, kb_tuple_int, kb_tuple_str, kb_tuple_tuple, kb_tuple_list, kb_list_NoneType, kb_list_bool, kb_list_int, kb_list_str, kb_list_tuple, kb_list_list, c_kind_height, c_has_ground, c_opened, c_same_shape, c_as_precise, c_value_fits, c_use_fits, c__law_draws, c__law_draw, c__law_number, c__law_same, c__law_kind, c__law_tall, c__law_any_kind, c__law_agreeing, c__law_has, c__law_open, c__law_value, c__law_used, c__law_value_fits, c__law_use_fits, c__law_changed, c_law, c_Kind, so_seq, so_nil, so_set, so_expr, so_ret, so_retN, so_pass, so_brk, so_cnt, so_never, so_raise, so_try, so_ite, ret_bl, ret_int, ret_str, ret_non, a3_0, x__law_has k _ a _ (Nat.le_trans ha (by decide : 60 ≤ 64)), e, Bool.not_false, if_true]
        exact ⟨trivial, trivial⟩
  | .fn u v2, a, ha => by
    by_cases e : hg a "fun" = true
    · obtain ⟨a1, a2, h1, h2, op⟩ := open_f a 60 (by omega) (by omega) e
      obtain ⟨r1, f1⟩ := fitU u a1 h1
      obtain ⟨r2, f2⟩ := fitV v2 a2 h2
      refine ⟨r1 && r2, fun k h hk => ?_⟩
      have hk : max (up u) (vp v2) + 1 + 2 ≤ k := hk
      obtain ⟨k, rfl⟩ : ∃ j, k = j + 2 := ⟨k - 2, by omega⟩
      obtain ⟨e1, g1⟩ := f1 (k + 1) h (by omega)
      obtain ⟨e2, g2⟩ := f2 (k + 1) h (by omega)
      refine ⟨of_ok ?_, of_ok ?_⟩
      · rw [r_value_fits]
        simp only [F_value_fits, vd, ok_ok, ok_noex, ok_var, ok_lit, ok_prim, ok_nil, ok_cons, ok_call, ok_and, ok_or, ok_iteE, ok_chain, ok_meth, ok_attr, ok_join, ok_jnil, ok_jcons, p_not, p_add, p_sub, p_adds, p_muls, p_mulr, p_fdiv, p_mod, p_pow, p_eqi, p_eqs, p_eqb, p_nei, p_nes, p_neb, p_lt, p_le, p_gt, p_ge, p_is, p_isnot, p_lens, p_lent, p_lenk, p_int, p_bool, p_min, p_max, p_tup, p_lst, p_fmts, p_ixt, p_ixs, p_slse, p_slsu, p_isity, p_isigl, bm_rm, bm_st, tr_bl, tr_non, tr_int, tr_tup, tr_kls, tr_str, Mp.isNon, List.getElem?_cons_zero, List.getElem?_cons_succ, List.set_cons_zero, List.set_cons_succ, ity_non, ity_bl, ity_int, ity_str, ity_tup, ity_kls, kb_NoneType_NoneType, kb_NoneType_bool, kb_NoneType_int, kb_NoneType_str, kb_NoneType_tuple, kb_NoneType_list, kb_bool_NoneType, kb_bool_bool, kb_bool_int, kb_bool_str, kb_bool_tuple, kb_bool_list, kb_int_NoneType, kb_int_bool, kb_int_int, kb_int_str, kb_int_tuple, kb_int_list, kb_str_NoneType, kb_str_bool, kb_str_int, kb_str_str, kb_str_tuple, kb_str_list, kb_tuple_NoneType, kb_tuple_bool, kb_tuple_int, kb_tuple_str, kb_tuple_tuple, kb_tuple_list, kb_list_NoneType, kb_list_bool, kb_list_int, kb_list_str, kb_list_tuple, kb_list_list, c_kind_height, c_has_ground, c_opened, c_same_shape, c_as_precise, c_value_fits, c_use_fits, c__law_draws, c__law_draw, c__law_number, c__law_same, c__law_kind, c__law_tall, c__law_any_kind, c__law_agreeing, c__law_has, c__law_open, c__law_value, c__law_used, c__law_value_fits, c__law_use_fits, c__law_changed, c_law, c_Kind, so_seq, so_nil, so_set, so_expr, so_ret, so_retN, so_pass, so_brk, so_cnt, so_never, so_raise, so_try, so_ite, ret_bl, ret_int, ret_str, ret_non, a3_0, a3_1, a3_2, x_has k _ a _ (Nat.le_trans ha (by decide : 60 ≤ 64)), e, p_ind k_BASE_VALUES, lk_f "fun" (.inr rfl), (op k h).1, d2, ixf1, ixf2, ix0v, gr_stop, e1, e2, Bool.not_true, Bool.false_eq_true, if_false, if_true]
        cases r1 <;> exact ⟨rfl, trivial⟩
      · rw [r__law_value_fits]
        simp only [F__law_value_fits, vd, ok_ok, ok_noex, ok_var, ok_lit, ok_prim, ok_nil, ok_cons, ok_call, ok_and, ok_or, ok_iteE, ok_chain, ok_meth, ok_attr, ok_join, ok_jnil, ok_jcons, p_not, p_add, p_sub, p_adds, p_muls, p_mulr, p_fdiv, p_mod, p_pow, p_eqi, p_eqs, p_eqb, p_nei, p_nes, p_neb, p_lt, p_le, p_gt, p_ge, p_is, p_isnot, p_lens, p_lent, p_lenk, p_int, p_bool, p_min, p_max, p_tup, p_lst, p_fmts, p_ixt, p_ixs, p_slse, p_slsu, p_isity, p_isigl, bm_rm, bm_st, tr_bl, tr_non, tr_int, tr_tup, tr_kls, tr_str, Mp.isNon, List.getElem?_cons_zero, List.getElem?_cons_succ, List.set_cons_zero, List.set_cons_succ, ity_non, ity_bl, ity_int, ity_str, ity_tup, ity_kls, kb_NoneType_NoneType, kb_NoneType_bool, kb_NoneType_int, kb_NoneType_str, kb_NoneType_tuple, kb_NoneType_list, kb_bool_NoneType, kb_bool_bool, kb_bool_int, kb_bool_str, kb_bool_tuple, kb_bool_list, kb_int_NoneType, kb_int_bool, kb_int_int, kb_int_str, kb_int_tuple, kb_int_list, kb_str_NoneType, kb_str_bool, kb_str_int, kb_str_str, kb_str_tuple, kb_str_list, kb_tuple_NoneType, kb_tuple_bool, kb_tuple_int, kb_tuple_str, kb_tuple_tuple, kb_tuple_list, kb_list_NoneType, kb_list_bool, kb_list_int, kb_list_str, kb_list_tuple, kb_list_list, c_kind_height, c_has_ground, c_opened, c_same_shape, c_as_precise, c_value_fits, c_use_fits, c__law_draws, c__law_draw, c__law_number, c__law_same, c__law_kind, c__law_tall, c__law_any_kind, c__law_agreeing, c__law_has, c__law_open, c__law_value, c__law_used, c__law_value_fits, c__law_use_fits, c__law_changed, c_law, c_Kind, so_seq, so_nil, so_set, so_expr, so_ret, so_retN, so_pass, so_brk, so_cnt, so_never, so_raise, so_try, so_ite, ret_bl, ret_int, ret_str, ret_non, a3_0, a3_1, a3_2, x__law_has k _ a _ (Nat.le_trans ha (by decide : 60 ≤ 64)), e, p_intu, inb_f "fun" _ (.inr rfl), (op k h).2, d2, ixf1, ixf2, ix0v, gr_stop, g1, g2, Bool.not_true, Bool.false_eq_true, if_false, if_true]
        refine ⟨(by decide : 3 ≤ cap), ?_⟩
        cases r1 <;> exact ⟨rfl, trivial⟩
    · have e : hg a "fun" = false := by simpa using e
      refine ⟨false, fun k h hk => ?_⟩
      obtain ⟨k, rfl⟩ : ∃ j, k = j + 2 := ⟨k - 2, by omega⟩
      refine ⟨of_ok ?_, of_ok ?_⟩
      · rw [r_value_fits]
        simp only [F_value_fits, vd, ok_ok, ok_noex, ok_var, ok_lit, ok_prim, ok_nil, ok_cons, ok_call, ok_and, ok_or, ok_iteE, ok_chain, ok_meth, ok_attr, ok_join, ok_jnil, ok_jcons, p_not, p_add, p_sub, p_adds, p_muls, p_mulr, p_fdiv, p_mod, p_pow, p_eqi, p_eqs, p_eqb, p_nei, p_nes, p_neb, p_lt, p_le, p_gt, p_ge, p_is, p_isnot, p_lens, p_lent, p_lenk, p_int, p_bool, p_min, p_max, p_tup, p_lst, p_fmts, p_ixt, p_ixs, p_slse, p_slsu, p_isity, p_isigl, bm_rm, bm_st, tr_bl, tr_non, tr_int, tr_tup, tr_kls, tr_str, Mp.isNon, List.getElem?_cons_zero, List.getElem?_cons_succ, List.set_cons_zero, List.set_cons_succ, ity_non, ity_bl, ity_int, ity_str, ity_tup, ity_kls, kb_NoneType_NoneType, kb_NoneType_bool, kb_NoneType_int, kb_NoneType_str, kb_NoneType_tuple, kb_NoneType_list, kb_bool_NoneType, kb_bool_bool, kb_bool_int, kb_bool_str, kb_bool_tuple, kb_bool_list, kb_int_NoneType, kb_int_bool, kb_int_int, kb_int_str, kb_int_tuple, kb_int_list, kb_str_NoneType, kb_str_bool, kb_str_int, kb_str_str, kb_str_tuple, kb_str_list, kb_tuple_NoneType, kb_tuple_bool, kb_tuple_int, kb_tuple_str, kb_tuple_tuple, kb_tuple_list, kb_list_NoneType, kb_list_bool, kb_list_int, kb_list_str, kb_list_tuple, kb_list_list, c_kind_height, c_has_ground, c_opened, c_same_shape, c_as_precise, c_value_fits, c_use_fits, c__law_draws, c__law_draw, c__law_number, c__law_same, c__law_kind, c__law_tall, c__law_any_kind, c__law_agreeing, c__law_has, c__law_open, c__law_value, c__law_used, c__law_value_fits, c__law_use_fits, c__law_changed, c_law, c_Kind, so_seq, so_nil, so_set, so_expr, so_ret, so_retN, so_pass, so_brk, so_cnt, so_never, so_raise, so_try, so_ite, ret_bl, ret_int, ret_str, ret_non, a3_0, x_has k _ a _ (Nat.le_trans ha (by decide : 60 ≤ 64)), e, Bool.not_false, if_true]
        exact ⟨trivial, trivial⟩
      · rw [r__law_value_fits]
        simp only [F__law_value_fits, vd, ok_ok, ok_noex, ok_var, ok_lit, ok_prim, ok_nil, ok_cons, ok_call, ok_and, ok_or, ok_iteE, ok_chain, ok_meth, ok_attr, ok_join, ok_jnil, ok_jcons, p_not, p_add, p_sub, p_adds, p_muls, p_mulr, p_fdiv, p_mod, p_pow, p_eqi, p_eqs, p_eqb, p_nei, p_nes, p_neb, p_lt, p_le, p_gt, p_ge, p_is, p_isnot, p_lens, p_lent, p_lenk, p_int, p_bool, p_min, p_max, p_tup, p_lst, p_fmts, p_ixt, p_ixs, p_slse, p_slsu, p_isity, p_isigl, bm_rm, bm_st, tr_bl, tr_non, tr_int, tr_tup, tr_kls, tr_str, Mp.isNon, List.getElem?_cons_zero, List.getElem?_cons_succ, List.set_cons_zero, List.set_cons_succ, ity_non, ity_bl, ity_int, ity_str, ity_tup, ity_kls, kb_NoneType_NoneType, kb_NoneType_bool, kb_NoneType_int, kb_NoneType_str, kb_NoneType_tuple, kb_NoneType_list, kb_bool_NoneType, kb_bool_bool, kb_bool_int, kb_bool_str, kb_bool_tuple, kb_bool_list, kb_int_NoneType, kb_int_bool, kb_int_int, kb_int_str, kb_int_tuple, kb_int_list, kb_str_NoneType, kb_str_bool, kb_str_int, kb_str_str, kb_str_tuple, kb_str_list, kb_tuple_NoneType, kb_tuple_bool, kb_tuple_int, kb_tuple_str, kb_tuple_tuple, kb_tuple_list, kb_list_NoneType, kb_list_bool, kb_list_int, kb_list_str, kb_list_tuple, kb_list_list, c_kind_height, c_has_ground, c_opened, c_same_shape, c_as_precise, c_value_fits, c_use_fits, c__law_draws, c__law_draw, c__law_number, c__law_same, c__law_kind, c__law_tall, c__law_any_kind, c__law_agreeing, c__law_has, c__law_open, c__law_value, c__law_used, c__law_value_fits, c__law_use_fits, c__law_changed, c_law, c_Kind, so_seq, so_nil, so_set, so_expr, so_ret, so_retN, so_pass, so_brk, so_cnt, so_never, so_raise, so_try, so_ite, ret_bl, ret_int, ret_str, ret_non, a3_0, x__law_has k _ a _ (Nat.le_trans ha (by decide : 60 ≤ 64)), e, Bool.not_false, if_true]
        exact ⟨trivial, trivial⟩
  | .fnS u i, a, ha => by
    by_cases e : hg a "fun" = true
    · obtain ⟨a1, a2, h1, h2, op⟩ := open_f a 60 (by omega) (by omega) e
      obtain ⟨r1, f1⟩ := fitU u a1 h1
      refine ⟨r1, fun k h hk => ?_⟩
      have hk : up u + 1 + 2 ≤ k := hk
      obtain ⟨k, rfl⟩ : ∃ j, k = j + 2 := ⟨k - 2, by omega⟩
      obtain ⟨e1, g1⟩ := f1 (k + 1) h (by omega)
      refine ⟨of_ok ?_, of_ok ?_⟩
      · rw [r_value_fits]
        simp only [F_value_fits, vd, ok_ok, ok_noex, ok_var, ok_lit, ok_prim, ok_nil, ok_cons, ok_call, ok_and, ok_or, ok_iteE, ok_chain, ok_meth, ok_attr, ok_join, ok_jnil, ok_jcons, p_not, p_add, p_sub, p_adds, p_muls, p_mulr, p_fdiv, p_mod, p_pow, p_eqi, p_eqs, p_eqb, p_nei, p_nes, p_neb, p_lt, p_le, p_gt, p_ge, p_is, p_isnot, p_lens, p_lent, p_lenk, p_int, p_bool, p_min, p_max, p_tup, p_lst, p_fmts, p_ixt, p_ixs, p_slse, p_slsu, p_isity, p_isigl, bm_rm, bm_st, tr_bl, tr_non, tr_int, tr_tup, tr_kls, tr_str, Mp.isNon, List.getElem?_cons_zero, List.getElem?_cons_succ, List.set_cons_zero, List.set_cons_succ, ity_non, ity_bl, ity_int, ity_str, ity_tup, ity_kls, kb_NoneType_NoneType, kb_NoneType_bool, kb_NoneType_int, kb_NoneType_str, kb_NoneType_tuple, kb_NoneType_list, kb_bool_NoneType, kb_bool_bool, kb_bool_int, kb_bool_str, kb_bool_tuple, kb_bool_list, kb_int_NoneType, kb_int_bool, kb_int_int, kb_int_str, kb_int_tuple, kb_int_list, kb_str_NoneType, kb_str_bool, kb_str_int, kb_str_str, kb_str_tuple, kb_str_list, kb_tuple_NoneType, kb_tuple_bool, kb_tuple_int, kb_tuple_str, kb_tuple_tuple, kb_tuple_list, kb_list_NoneType, kb_list_bool, kb_list_int, kb_list_str, kb_list_tuple, kb_list_list, c_kind_height, c_has_ground, c_opened, c_same_shape, c_as_precise, c_value_fits, c_use_fits, c__law_draws, c__law_draw, c__law_number, c__law_same, c__law_kind, c__law_tall, c__law_any_kind, c__law_agreeing, c__law_has, c__law_open, c__law_value, c__law_used, c__law_value_fits, c__law_use_fits, c__law_changed, c_law, c_Kind, so_seq, so_nil, so_set, so_expr, so_ret, so_retN, so_pass, so_brk, so_cnt, so_never, so_raise, so_try, so_ite, ret_bl, ret_int, ret_str, ret_non, a3_0, a3_1, a3_2, a2_0, x_has k _ a _ (Nat.le_trans ha (by decide : 60 ≤ 64)), e, p_ind k_BASE_VALUES, lk_f "fun" (.inr rfl), (op k h).1, d2, d3, ixf1, ixf2, e1, Bool.not_true, Bool.false_eq_true, if_false, if_true]
        cases r1 <;> exact ⟨rfl, trivial⟩
      · rw [r__law_value_fits]
        simp only [F__law_value_fits, vd, ok_ok, ok_noex, ok_var, ok_lit, ok_prim, ok_nil, ok_cons, ok_call, ok_and, ok_or, ok_iteE, ok_chain, ok_meth, ok_attr, ok_join, ok_jnil, ok_jcons, p_not, p_add, p_sub, p_adds, p_muls, p_mulr, p_fdiv, p_mod, p_pow, p_eqi, p_eqs, p_eqb, p_nei, p_nes, p_neb, p_lt, p_le, p_gt, p_ge, p_is, p_isnot, p_lens, p_lent, p_lenk, p_int, p_bool, p_min, p_max, p_tup, p_lst, p_fmts, p_ixt, p_ixs, p_slse, p_slsu, p_isity, p_isigl, bm_rm, bm_st, tr_bl, tr_non, tr_int, tr_tup, tr_kls, tr_str, Mp.isNon, List.getElem?_cons_zero, List.getElem?_cons_succ, List.set_cons_zero, List.set_cons_succ, ity_non, ity_bl, ity_int, ity_str, ity_tup, ity_kls, kb_NoneType_NoneType, kb_NoneType_bool, kb_NoneType_int, kb_NoneType_str, kb_NoneType_tuple, kb_NoneType_list, kb_bool_NoneType, kb_bool_bool, kb_bool_int, kb_bool_str, kb_bool_tuple, kb_bool_list, kb_int_NoneType, kb_int_bool, kb_int_int, kb_int_str, kb_int_tuple, kb_int_list, kb_str_NoneType, kb_str_bool, kb_str_int, kb_str_str, kb_str_tuple, kb_str_list, kb_tuple_NoneType, kb_tuple_bool, kb_tuple_int, kb_tuple_str, kb_tuple_tuple, kb_tuple_list, kb_list_NoneType, kb_list_bool, kb_list_int, kb_list_str, kb_list_tuple, kb_list_list, c_kind_height, c_has_ground, c_opened, c_same_shape, c_as_precise, c_value_fits, c_use_fits, c__law_draws, c__law_draw, c__law_number, c__law_same, c__law_kind, c__law_tall, c__law_any_kind, c__law_agreeing, c__law_has, c__law_open, c__law_value, c__law_used, c__law_value_fits, c__law_use_fits, c__law_changed, c_law, c_Kind, so_seq, so_nil, so_set, so_expr, so_ret, so_retN, so_pass, so_brk, so_cnt, so_never, so_raise, so_try, so_ite, ret_bl, ret_int, ret_str, ret_non, a3_0, a3_1, a3_2, a2_0, x__law_has k _ a _ (Nat.le_trans ha (by decide : 60 ≤ 64)), e, p_intu, inb_f "fun" _ (.inr rfl), (op k h).2, d2, d3, ixf1, ixf2, g1, Bool.not_true, Bool.false_eq_true, if_false, if_true]
        refine ⟨(by decide : 3 ≤ cap), ?_⟩
        cases r1 <;> exact ⟨rfl, trivial⟩
    · have e : hg a "fun" = false := by simpa using e
      refine ⟨false, fun k h hk => ?_⟩
      obtain ⟨k, rfl⟩ : ∃ j, k = j + 2 := ⟨k - 2, by omega⟩
      refine ⟨of_ok ?_, of_ok ?_⟩
      · rw [r_value_fits]
        simp only [F_value_fits, vd, ok_ok, ok_noex, ok_var, ok_lit, ok_prim, ok_nil, ok_cons, ok_call, ok_and, ok_or, ok_iteE, ok_chain, ok_meth, ok_attr, ok_join, ok_jnil, ok_jcons, p_not, p_add, p_sub, p_adds, p_muls, p_mulr, p_fdiv, p_mod, p_pow, p_eqi, p_eqs, p_eqb, p_nei, p_nes, p_neb, p_lt, p_le, p_gt, p_ge, p_is, p_isnot, p_lens, p_lent, p_lenk, p_int, p_bool, p_min, p_max, p_tup, p_lst, p_fmts, p_ixt, p_ixs, p_slse, p_slsu, p_isity, p_isigl, bm_rm, bm_st, tr_bl, tr_non, tr_int, tr_tup, tr_kls, tr_str, Mp.isNon, List.getElem?_cons_zero, List.getElem?_cons_succ, List.set_cons_zero, List.set_cons_succ, ity_non, ity_bl, ity_int, ity_str, ity_tup, ity_kls, kb_NoneType_NoneType, kb_NoneType_bool, kb_NoneType_int, kb_NoneType_str, kb_NoneType_tuple, kb_NoneType_list, kb_bool_NoneType, kb_bool_bool, kb_bool_int, kb_bool_str, kb_bool_tuple, kb_bool_list, kb_int_NoneType, kb_int_bool, kb_int_int, kb_int_str, kb_int_tuple, kb_int_list, kb_str_NoneType, kb_str_bool, kb_str_int, kb_str_str, kb_str_tuple, kb_str_list, kb_tuple_NoneType, kb_tuple_bool, kb_tuple_int, kb_tuple_str, kb_tuple_tuple, kb_tuple_list, kb_list_NoneType, kb_list_bool, kb_list_int, kb_list_str, kb_list_tuple, kb_list_list, c_kind_height, c_has_ground, c_opened, c_same_shape, c_as_precise, c_value_fits, c_use_fits, c__law_draws, c__law_draw, c__law_number, c__law_same, c__law_kind, c__law_tall, c__law_any_kind, c__law_agreeing, c__law_has, c__law_open, c__law_value, c__law_used, c__law_value_fits, c__law_use_fits, c__law_changed, c_law, c_Kind, so_seq, so_nil, so_set, so_expr, so_ret, so_retN, so_pass, so_brk, so_cnt, so_never, so_raise, so_try, so_ite, ret_bl, ret_int, ret_str, ret_non, a3_0, x_has k _ a _ (Nat.le_trans ha (by decide : 60 ≤ 64)), e, Bool.not_false, if_true]
        exact ⟨trivial, trivial⟩
      · rw [r__law_value_fits]
        simp only [F__law_value_fits, vd, ok_ok, ok_noex, ok_var, ok_lit, ok_prim, ok_nil, ok_cons, ok_call, ok_and, ok_or, ok_iteE, ok_chain, ok_meth, ok_attr, ok_join, ok_jnil, ok_jcons, p_not, p_add, p_sub, p_adds, p_muls, p_mulr, p_fdiv, p_mod, p_pow, p_eqi, p_eqs, p_eqb, p_nei, p_nes, p_neb, p_lt, p_le, p_gt, p_ge, p_is, p_isnot, p_lens, p_lent, p_lenk, p_int, p_bool, p_min, p_max, p_tup, p_lst, p_fmts, p_ixt, p_ixs, p_slse, p_slsu, p_isity, p_isigl, bm_rm, bm_st, tr_bl, tr_non, tr_int, tr_tup, tr_kls, tr_str, Mp.isNon, List.getElem?_cons_zero, List.getElem?_cons_succ, List.set_cons_zero, List.set_cons_succ, ity_non, ity_bl, ity_int, ity_str, ity_tup, ity_kls, kb_NoneType_NoneType, kb_NoneType_bool, kb_NoneType_int, kb_NoneType_str, kb_NoneType_tuple, kb_NoneType_list, kb_bool_NoneType, kb_bool_bool, kb_bool_int, kb_bool_str, kb_bool_tuple, kb_bool_list, kb_int_NoneType, kb_int_bool, kb_int_int, kb_int_str, kb_int_tuple, kb_int_list, kb_str_NoneType, kb_str_bool, kb_str_int, kb_str_str, kb_str_tuple, kb_str_list, kb_tuple_NoneType, kb_tuple_bool, kb_tuple_int, kb_tuple_str, kb_tuple_tuple, kb_tuple_list, kb_list_NoneType, kb_list_bool, kb_list_int, kb_list_str, kb_list_tuple, kb_list_list, c_kind_height, c_has_ground, c_opened, c_same_shape, c_as_precise, c_value_fits, c_use_fits, c__law_draws, c__law_draw, c__law_number, c__law_same, c__law_kind, c__law_tall, c__law_any_kind, c__law_agreeing, c__law_has, c__law_open, c__law_value, c__law_used, c__law_value_fits, c__law_use_fits, c__law_changed, c_law, c_Kind, so_seq, so_nil, so_set, so_expr, so_ret, so_retN, so_pass, so_brk, so_cnt, so_never, so_raise, so_try, so_ite, ret_bl, ret_int, ret_str, ret_non, a3_0, x__law_has k _ a _ (Nat.le_trans ha (by decide : 60 ≤ 64)), e, Bool.not_false, if_true]
        exact ⟨trivial, trivial⟩
theorem fitU : ∀ (u : Us) (a : Kn), ht a ≤ 60 → FU u a
  | .look, a, ha => ⟨true, fun k h hk => by
    obtain ⟨k, rfl⟩ : ∃ j, k = j + 2 := ⟨k - 2, by have : 0 + 2 ≤ k := hk; omega⟩
    refine ⟨of_ok ?_, of_ok ?_⟩
    · rw [r_use_fits]
      simp only [F_use_fits, ud, ok_ok, ok_noex, ok_var, ok_lit, ok_prim, ok_nil, ok_cons, ok_call, ok_and, ok_or, ok_iteE, ok_chain, ok_meth, ok_attr, ok_join, ok_jnil, ok_jcons, p_not, p_add, p_sub, p_adds, p_muls, p_mulr, p_fdiv, p_mod, p_pow, p_eqi, p_eqs, p_eqb, p_nei, p_nes, p_neb, p_lt, p_le, p_gt, p_ge, p_is, p_isnot, p_lens, p_lent, p_lenk, p_int, p_bool, p_min, p_max, p_tup, p_lst, p_fmts, p_ixt, p_ixs, p_slse, p_slsu, p_isity, p_isigl, bm_rm, bm_st, tr_bl, tr_non, tr_int, tr_tup, tr_kls, tr_str, Mp.isNon, List.getElem?_cons_zero, List.getElem?_cons_succ, List.set_cons_zero, List.set_cons_succ, ity_non, ity_bl, ity_int, ity_str, ity_tup, ity_kls, kb_NoneType_NoneType, kb_NoneType_bool, kb_NoneType_int, kb_NoneType_str, kb_NoneType_tuple, kb_NoneType_list, kb_bool_NoneType, kb_bool_bool, kb_bool_int, kb_bool_str, kb_bool_tuple, kb_bool_list, kb_int_NoneType, kb_int_bool, kb_int_int, kb_int_str, kb_int_tuple, kb_int_list, kb_str_NoneType, kb_str_bool, kb_str_int, kb_str_str, kb_str_tuple, kb_str_list, kb_tuple_NoneType, kb_tuple_bool, kb_tuple_int, kb_tuple_str, kb_tuple_tuple, kb_tuple_list, kb_list_NoneType, kb_list_bool, kb_list_int, kb_list_str, kb_list_tuple, kb_list_list, c_kind_height, c_has_ground, c_opened, c_same_shape, c_as_precise, c_value_fits, c_use_fits, c__law_draws, c__law_draw, c__law_number, c__law_same, c__law_kind, c__law_tall, c__law_any_kind, c__law_agreeing, c__law_has, c__law_open, c__law_value, c__law_used, c__law_value_fits, c__law_use_fits, c__law_changed, c_law, c_Kind, so_seq, so_nil, so_set, so_expr, so_ret, so_retN, so_pass, so_brk, so_cnt, so_never, so_raise, so_try, so_ite, ret_bl, ret_int, ret_str, ret_non, a1_0, d4, if_true]
      exact ⟨trivial, trivial⟩
    · rw [r__law_use_fits]
      simp only [F__law_use_fits, ud, ok_ok, ok_noex, ok_var, ok_lit, ok_prim, ok_nil, ok_cons, ok_call, ok_and, ok_or, ok_iteE, ok_chain, ok_meth, ok_attr, ok_join, ok_jnil, ok_jcons, p_not, p_add, p_sub, p_adds, p_muls, p_mulr, p_fdiv, p_mod, p_pow, p_eqi, p_eqs, p_eqb, p_nei, p_nes, p_neb, p_lt, p_le, p_gt, p_ge, p_is, p_isnot, p_lens, p_lent, p_lenk, p_int, p_bool, p_min, p_max, p_tup, p_lst, p_fmts, p_ixt, p_ixs, p_slse, p_slsu, p_isity, p_isigl, bm_rm, bm_st, tr_bl, tr_non, tr_int, tr_tup, tr_kls, tr_str, Mp.isNon, List.getElem?_cons_zero, List.getElem?_cons_succ, List.set_cons_zero, List.set_cons_succ, ity_non, ity_bl, ity_int, ity_str, ity_tup, ity_kls, kb_NoneType_NoneType, kb_NoneType_bool, kb_NoneType_int, kb_NoneType_str, kb_NoneType_tuple, kb_NoneType_list, kb_bool_NoneType, kb_bool_bool, kb_bool_int, kb_bool_str, kb_bool_tuple, kb_bool_list, kb_int_NoneType, kb_int_bool, kb_int_int, kb_int_str, kb_int_tuple, kb_int_list, kb_str_NoneType, kb_str_bool, kb_str_int, kb_str_str, kb_str_tuple, kb_str_list, kb_tuple_NoneType, kb_tuple_bool, kb_tuple_int, kb_tuple_str, kb_tuple_tuple, kb_tuple_list, kb_list_NoneType, kb_list_bool, kb_list_int, kb_list_str, kb_list_tuple, kb_list_list, c_kind_height, c_has_ground, c_opened, c_same_shape, c_as_precise, c_value_fits, c_use_fits, c__law_draws, c__law_draw, c__law_number, c__law_same, c__law_kind, c__law_tall, c__law_any_kind, c__law_agreeing, c__law_has, c__law_open, c__law_value, c__law_used, c__law_value_fits, c__law_use_fits, c__law_changed, c_law, c_Kind, so_seq, so_nil, so_set, so_expr, so_ret, so_retN, so_pass, so_brk, so_cnt, so_never, so_raise, so_try, so_ite, ret_bl, ret_int, ret_str, ret_non, a1_0, d4, if_true]
      exact ⟨trivial, trivial⟩⟩
  | .call v1 u2, a, ha => by
    by_cases e : hg a "fun" = true
    · obtain ⟨a1, a2, h1, h2, op⟩ := open_f a 60 (by omega) (by omega) e
      obtain ⟨r1, f1⟩ := fitV v1 a1 h1
      obtain ⟨r2, f2⟩ := fitU u2 a2 h2
      refine ⟨r1 && r2, fun k h hk => ?_⟩
      have hk : max (vp v1) (up u2) + 1 + 2 ≤ k := hk
      obtain ⟨k, rfl⟩ : ∃ j, k = j + 2 := ⟨k - 2, by omega⟩
      obtain ⟨e1, g1⟩ := f1 (k + 1) h (by omega)
      obtain ⟨e2, g2⟩ := f2 (k + 1) h (by omega)
      refine ⟨of_ok ?_, of_ok ?_⟩
      · rw [r_use_fits]
        simp only [F_use_fits, ud, ok_ok, ok_noex, ok_var, ok_lit, ok_prim, ok_nil, ok_cons, ok_call, ok_and, ok_or, ok_iteE, ok_chain, ok_meth, ok_attr, ok_join, ok_jnil, ok_jcons, p_not, p_add, p_sub, p_adds, p_muls, p_mulr, p_fdiv, p_mod, p_pow, p_eqi, p_eqs, p_eqb, p_nei, p_nes, p_neb, p_lt, p_le, p_gt, p_ge, p_is, p_isnot, p_lens, p_lent, p_lenk, p_int, p_bool, p_min, p_max, p_tup, p_lst, p_fmts, p_ixt, p_ixs, p_slse, p_slsu, p_isity, p_isigl, bm_rm, bm_st, tr_bl, tr_non, tr_int, tr_tup, tr_kls, tr_str, Mp.isNon, List.getElem?_cons_zero, List.getElem?_cons_succ, List.set_cons_zero, List.set_cons_succ, ity_non, ity_bl, ity_int, ity_str, ity_tup, ity_kls, kb_NoneType_NoneType, kb_NoneType_bool, kb_NoneType_int, kb_NoneType_str, kb_NoneType_tuple, kb_NoneType_list, kb_bool_NoneType, kb_bool_bool, kb_bool_int, kb_bool_str, kb_bool_tuple, kb_bool_list, kb_int_NoneType, kb_int_bool, kb_int_int, kb_int_str, kb_int_tuple, kb_int_list, kb_str_NoneType, kb_str_bool, kb_str_int, kb_str_str, kb_str_tuple, kb_str_list, kb_tuple_NoneType, kb_tuple_bool, kb_tuple_int, kb_tuple_str, kb_tuple_tuple, kb_tuple_list, kb_list_NoneType, kb_list_bool, kb_list_int, kb_list_str, kb_list_tuple, kb_list_list, c_kind_height, c_has_ground, c_opened, c_same_shape, c_as_precise, c_value_fits, c_use_fits, c__law_draws, c__law_draw, c__law_number, c__law_same, c__law_kind, c__law_tall, c__law_any_kind, c__law_agreeing, c__law_has, c__law_open, c__law_value, c__law_used, c__law_value_fits, c__law_use_fits, c__law_changed, c_law, c_Kind, so_seq, so_nil, so_set, so_expr, so_ret, so_retN, so_pass, so_brk, so_cnt, so_never, so_raise, so_try, so_ite, ret_bl, ret_int, ret_str, ret_non, a3_0, a3_1, a3_2, d5, d8, p_ixd k_USED_GROUNDS, ug_call, x_has k _ a _ (Nat.le_trans ha (by decide : 60 ≤ 64)), e, (op k h).1, ixf1, ixf2, e1, e2, Bool.not_true, Bool.false_eq_true, if_false, if_true]
        cases r1 <;> exact ⟨rfl, trivial⟩
      · rw [r__law_use_fits]
        simp only [F__law_use_fits, ud, ok_ok, ok_noex, ok_var, ok_lit, ok_prim, ok_nil, ok_cons, ok_call, ok_and, ok_or, ok_iteE, ok_chain, ok_meth, ok_attr, ok_join, ok_jnil, ok_jcons, p_not, p_add, p_sub, p_adds, p_muls, p_mulr, p_fdiv, p_mod, p_pow, p_eqi, p_eqs, p_eqb, p_nei, p_nes, p_neb, p_lt, p_le, p_gt, p_ge, p_is, p_isnot, p_lens, p_lent, p_lenk, p_int, p_bool, p_min, p_max, p_tup, p_lst, p_fmts, p_ixt, p_ixs, p_slse, p_slsu, p_isity, p_isigl, bm_rm, bm_st, tr_bl, tr_non, tr_int, tr_tup, tr_kls, tr_str, Mp.isNon, List.getElem?_cons_zero, List.getElem?_cons_succ, List.set_cons_zero, List.set_cons_succ, ity_non, ity_bl, ity_int, ity_str, ity_tup, ity_kls, kb_NoneType_NoneType, kb_NoneType_bool, kb_NoneType_int, kb_NoneType_str, kb_NoneType_tuple, kb_NoneType_list, kb_bool_NoneType, kb_bool_bool, kb_bool_int, kb_bool_str, kb_bool_tuple, kb_bool_list, kb_int_NoneType, kb_int_bool, kb_int_int, kb_int_str, kb_int_tuple, kb_int_list, kb_str_NoneType, kb_str_bool, kb_str_int, kb_str_str, kb_str_tuple, kb_str_list, kb_tuple_NoneType, kb_tuple_bool, kb_tuple_int, kb_tuple_str, kb_tuple_tuple, kb_tuple_list, kb_list_NoneType, kb_list_bool, kb_list_int, kb_list_str, kb_list_tuple, kb_list_list, c_kind_height, c_has_ground, c_opened, c_same_shape, c_as_precise, c_value_fits, c_use_fits, c__law_draws, c__law_draw, c__law_number, c__law_same, c__law_kind, c__law_tall, c__law_any_kind, c__law_agreeing, c__law_has, c__law_open, c__law_value, c__law_used, c__law_value_fits, c__law_use_fits, c__law_changed, c_law, c_Kind, so_seq, so_nil, so_set, so_expr, so_ret, so_retN, so_pass, so_brk, so_cnt, so_never, so_raise, so_try, so_ite, ret_bl, ret_int, ret_str, ret_non, a3_0, a3_1, a3_2, d5, d8, x__law_has k _ a _ (Nat.le_trans ha (by decide : 60 ≤ 64)), e, (op k h).2, ixf1, ixf2, g1, g2, Bool.not_true, Bool.false_eq_true, if_false, if_true]
        cases r1 <;> exact ⟨rfl, trivial⟩
    · have e : hg a "fun" = false := by simpa using e
      refine ⟨false, fun k h hk => ?_⟩
      obtain ⟨k, rfl⟩ : ∃ j, k = j + 2 := ⟨k - 2, by omega⟩
      refine ⟨of_ok ?_, of_ok ?_⟩
      · rw [r_use_fits]
        simp only [F_use_fits, ud, ok_ok, ok_noex, ok_var, ok_lit, ok_prim, ok_nil, ok_cons, ok_call, ok_and, ok_or, ok_iteE, ok_chain, ok_meth, ok_attr, ok_join, ok_jnil, ok_jcons, p_not, p_add, p_sub, p_adds, p_muls, p_mulr, p_fdiv, p_mod, p_pow, p_eqi, p_eqs, p_eqb, p_nei, p_nes, p_neb, p_lt, p_le, p_gt, p_ge, p_is, p_isnot, p_lens, p_lent, p_lenk, p_int, p_bool, p_min, p_max, p_tup, p_lst, p_fmts, p_ixt, p_ixs, p_slse, p_slsu, p_isity, p_isigl, bm_rm, bm_st, tr_bl, tr_non, tr_int, tr_tup, tr_kls, tr_str, Mp.isNon, List.getElem?_cons_zero, List.getElem?_cons_succ, List.set_cons_zero, List.set_cons_succ, ity_non, ity_bl, ity_int, ity_str, ity_tup, ity_kls, kb_NoneType_NoneType, kb_NoneType_bool, kb_NoneType_int, kb_NoneType_str, kb_NoneType_tuple, kb_NoneType_list, kb_bool_NoneType, kb_bool_bool, kb_bool_int, kb_bool_str, kb_bool_tuple, kb_bool_list, kb_int_NoneType, kb_int_bool, kb_int_int, kb_int_str, kb_int_tuple, kb_int_list, kb_str_NoneType, kb_str_bool, kb_str_int, kb_str_str, kb_str_tuple, kb_str_list, kb_tuple_NoneType, kb_tuple_bool, kb_tuple_int, kb_tuple_str, kb_tuple_tuple, kb_tuple_list, kb_list_NoneType, kb_list_bool, kb_list_int, kb_list_str, kb_list_tuple, kb_list_list, c_kind_height, c_has_ground, c_opened, c_same_shape, c_as_precise, c_value_fits, c_use_fits, c__law_draws, c__law_draw, c__law_number, c__law_same, c__law_kind, c__law_tall, c__law_any_kind, c__law_agreeing, c__law_has, c__law_open, c__law_value, c__law_used, c__law_value_fits, c__law_use_fits, c__law_changed, c_law, c_Kind, so_seq, so_nil, so_set, so_expr, so_ret, so_retN, so_pass, so_brk, so_cnt, so_never, so_raise, so_try, so_ite, ret_bl, ret_int, ret_str, ret_non, a3_0, d5, d8, p_ixd k_USED_GROUNDS, ug_call, x_has k _ a _ (Nat.le_trans ha (by decide : 60 ≤ 64)), e, Bool.not_false, Bool.false_eq_true, if_false, if_true]
        exact ⟨trivial, trivial⟩
      · rw [r__law_use_fits]
        simp only [F__law_use_fits, ud, ok_ok, ok_noex, ok_var, ok_lit, ok_prim, ok_nil, ok_cons, ok_call, ok_and, ok_or, ok_iteE, ok_chain, ok_meth, ok_attr, ok_join, ok_jnil, ok_jcons, p_not, p_add, p_sub, p_adds, p_muls, p_mulr, p_fdiv, p_mod, p_pow, p_eqi, p_eqs, p_eqb, p_nei, p_nes, p_neb, p_lt, p_le, p_gt, p_ge, p_is, p_isnot, p_lens, p_lent, p_lenk, p_int, p_bool, p_min, p_max, p_tup, p_lst, p_fmts, p_ixt, p_ixs, p_slse, p_slsu, p_isity, p_isigl, bm_rm, bm_st, tr_bl, tr_non, tr_int, tr_tup, tr_kls, tr_str, Mp.isNon, List.getElem?_cons_zero, List.getElem?_cons_succ, List.set_cons_zero, List.set_cons_succ, ity_non, ity_bl, ity_int, ity_str, ity_tup, ity_kls, kb_NoneType_NoneType, kb_NoneType_bool, kb_NoneType_int, kb_NoneType_str, kb_NoneType_tuple, kb_NoneType_list, kb_bool_NoneType, kb_bool_bool, kb_bool_int, kb_bool_str, kb_bool_tuple, kb_bool_list, kb_int_NoneType, kb_int_bool, kb_int_int, kb_int_str, kb_int_tuple, kb_int_list, kb_str_NoneType, kb_str_bool, kb_str_int, kb_str_str, kb_str_tuple, kb_str_list, kb_tuple_NoneType, kb_tuple_bool, kb_tuple_int, kb_tuple_str, kb_tuple_tuple, kb_tuple_list, kb_list_NoneType, kb_list_bool, kb_list_int, kb_list_str, kb_list_tuple, kb_list_list, c_kind_height, c_has_ground, c_opened, c_same_shape, c_as_precise, c_value_fits, c_use_fits, c__law_draws, c__law_draw, c__law_number, c__law_same, c__law_kind, c__law_tall, c__law_any_kind, c__law_agreeing, c__law_has, c__law_open, c__law_value, c__law_used, c__law_value_fits, c__law_use_fits, c__law_changed, c_law, c_Kind, so_seq, so_nil, so_set, so_expr, so_ret, so_retN, so_pass, so_brk, so_cnt, so_never, so_raise, so_try, so_ite, ret_bl, ret_int, ret_str, ret_non, a3_0, d5, d8, x__law_has k _ a _ (Nat.le_trans ha (by decide : 60 ≤ 64)), e, Bool.not_false, Bool.false_eq_true, if_false, if_true]
        exact ⟨trivial, trivial⟩
  | .first u1, a, ha => by
    by_cases e : hg a "pair" = true
    · obtain ⟨a1, a2, h1, h2, op⟩ := open_p a 60 (by omega) (by omega) e
      obtain ⟨r1, f1⟩ := fitU u1 a1 h1
      refine ⟨r1, fun k h hk => ?_⟩
      have hk : up u1 + 1 + 2 ≤ k := hk
      obtain ⟨k, rfl⟩ : ∃ j, k = j + 2 := ⟨k - 2, by omega⟩
      obtain ⟨e1, g1⟩ := f1 (k + 1) h (by omega)
      refine ⟨of_ok ?_, of_ok ?_⟩
      · rw [r_use_fits]
        simp only [F_use_fits, ud, ok_ok, ok_noex, ok_var, ok_lit, ok_prim, ok_nil, ok_cons, ok_call, ok_and, ok_or, ok_iteE, ok_chain, ok_meth, ok_attr, ok_join, ok_jnil, ok_jcons, p_not, p_add, p_sub, p_adds, p_muls, p_mulr, p_fdiv, p_mod, p_pow, p_eqi, p_eqs, p_eqb, p_nei, p_nes, p_neb, p_lt, p_le, p_gt, p_ge, p_is, p_isnot, p_lens, p_lent, p_lenk, p_int, p_bool, p_min, p_max, p_tup, p_lst, p_fmts, p_ixt, p_ixs, p_slse, p_slsu, p_isity, p_isigl, bm_rm, bm_st, tr_bl, tr_non, tr_int, tr_tup, tr_kls, tr_str, Mp.isNon, List.getElem?_cons_zero, List.getElem?_cons_succ, List.set_cons_zero, List.set_cons_succ, ity_non, ity_bl, ity_int, ity_str, ity_tup, ity_kls, kb_NoneType_NoneType, kb_NoneType_bool, kb_NoneType_int, kb_NoneType_str, kb_NoneType_tuple, kb_NoneType_list, kb_bool_NoneType, kb_bool_bool, kb_bool_int, kb_bool_str, kb_bool_tuple, kb_bool_list, kb_int_NoneType, kb_int_bool, kb_int_int, kb_int_str, kb_int_tuple, kb_int_list, kb_str_NoneType, kb_str_bool, kb_str_int, kb_str_str, kb_str_tuple, kb_str_list, kb_tuple_NoneType, kb_tuple_bool, kb_tuple_int, kb_tuple_str, kb_tuple_tuple, kb_tuple_list, kb_list_NoneType, kb_list_bool, kb_list_int, kb_list_str, kb_list_tuple, kb_list_list, c_kind_height, c_has_ground, c_opened, c_same_shape, c_as_precise, c_value_fits, c_use_fits, c__law_draws, c__law_draw, c__law_number, c__law_same, c__law_kind, c__law_tall, c__law_any_kind, c__law_agreeing, c__law_has, c__law_open, c__law_value, c__law_used, c__law_value_fits, c__law_use_fits, c__law_changed, c_law, c_Kind, so_seq, so_nil, so_set, so_expr, so_ret, so_retN, so_pass, so_brk, so_cnt, so_never, so_raise, so_try, so_ite, ret_bl, ret_int, ret_str, ret_non, a2_0, a2_1, d6, d9, d11, p_ixd k_USED_GROUNDS, ug_first, x_has k _ a _ (Nat.le_trans ha (by decide : 60 ≤ 64)), e, (op k h).1, ixp1, ixp2, e1, Bool.not_true, Bool.false_eq_true, if_false, if_true]
        exact ⟨trivial, trivial⟩
      · rw [r__law_use_fits]
        simp only [F__law_use_fits, ud, ok_ok, ok_noex, ok_var, ok_lit, ok_prim, ok_nil, ok_cons, ok_call, ok_and, ok_or, ok_iteE, ok_chain, ok_meth, ok_attr, ok_join, ok_jnil, ok_jcons, p_not, p_add, p_sub, p_adds, p_muls, p_mulr, p_fdiv, p_mod, p_pow, p_eqi, p_eqs, p_eqb, p_nei, p_nes, p_neb, p_lt, p_le, p_gt, p_ge, p_is, p_isnot, p_lens, p_lent, p_lenk, p_int, p_bool, p_min, p_max, p_tup, p_lst, p_fmts, p_ixt, p_ixs, p_slse, p_slsu, p_isity, p_isigl, bm_rm, bm_st, tr_bl, tr_non, tr_int, tr_tup, tr_kls, tr_str, Mp.isNon, List.getElem?_cons_zero, List.getElem?_cons_succ, List.set_cons_zero, List.set_cons_succ, ity_non, ity_bl, ity_int, ity_str, ity_tup, ity_kls, kb_NoneType_NoneType, kb_NoneType_bool, kb_NoneType_int, kb_NoneType_str, kb_NoneType_tuple, kb_NoneType_list, kb_bool_NoneType, kb_bool_bool, kb_bool_int, kb_bool_str, kb_bool_tuple, kb_bool_list, kb_int_NoneType, kb_int_bool, kb_int_int, kb_int_str, kb_int_tuple, kb_int_list, kb_str_NoneType, kb_str_bool, kb_str_int, kb_str_str, kb_str_tuple, kb_str_list, kb_tuple_NoneType, kb_tuple_bool, kb_tuple_int, kb_tuple_str, kb_tuple_tuple, kb_tuple_list, kb_list_NoneType, kb_list_bool, kb_list_int, kb_list_str, kb_list_tuple, kb_list_list, c_kind_height, c_has_ground, c_opened, c_same_shape, c_as_precise, c_value_fits, c_use_fits, c__law_draws, c__law_draw, c__law_number, c__law_same, c__law_kind, c__law_tall, c__law_any_kind, c__law_agreeing, c__law_has, c__law_open, c__law_value, c__law_used, c__law_value_fits, c__law_use_fits, c__law_changed, c_law, c_Kind, so_seq, so_nil, so_set, so_expr, so_ret, so_retN, so_pass, so_brk, so_cnt, so_never, so_raise, so_try, so_ite, ret_bl, ret_int, ret_str, ret_non, a2_0, a2_1, d6, d9, d11, x__law_has k _ a _ (Nat.le_trans ha (by decide : 60 ≤ 64)), e, (op k h).2, ixp1, ixp2, g1, Bool.not_true, Bool.false_eq_true, if_false, if_true]
        exact ⟨trivial, trivial⟩
    · have e : hg a "pair" = false := by simpa using e
      refine ⟨false, fun k h hk => ?_⟩
      obtain ⟨k, rfl⟩ : ∃ j, k = j + 2 := ⟨k - 2, by omega⟩
      refine ⟨of_ok ?_, of_ok ?_⟩
      · rw [r_use_fits]
        simp only [F_use_fits, ud, ok_ok, ok_noex, ok_var, ok_lit, ok_prim, ok_nil, ok_cons, ok_call, ok_and, ok_or, ok_iteE, ok_chain, ok_meth, ok_attr, ok_join, ok_jnil, ok_jcons, p_not, p_add, p_sub, p_adds, p_muls, p_mulr, p_fdiv, p_mod, p_pow, p_eqi, p_eqs, p_eqb, p_nei, p_nes, p_neb, p_lt, p_le, p_gt, p_ge, p_is, p_isnot, p_lens, p_lent, p_lenk, p_int, p_bool, p_min, p_max, p_tup, p_lst, p_fmts, p_ixt, p_ixs, p_slse, p_slsu, p_isity, p_isigl, bm_rm, bm_st, tr_bl, tr_non, tr_int, tr_tup, tr_kls, tr_str, Mp.isNon, List.getElem?_cons_zero, List.getElem?_cons_succ, List.set_cons_zero, List.set_cons_succ, ity_non, ity_bl, ity_int, ity_str, ity_tup, ity_kls, kb_NoneType_NoneType, kb_NoneType_bool, kb_NoneType_int, kb_NoneType_str, kb_NoneType_tuple, kb_NoneType_list, kb_bool_NoneType, kb_bool_bool, kb_bool_int, kb_bool_str, kb_bool_tuple, kb_bool_list, kb_int_NoneType, kb_int_bool, kb_int_int, kb_int_str, kb_int_tuple, kb_int_list, kb_str_NoneType, kb_str_bool, kb_str_int, kb_str_str, kb_str_tuple, kb_str_list, kb_tuple_NoneType, kb_tuple_bool, kb_tuple_int, kb_tuple_str, kb_tuple_tuple, kb_tuple_list, kb_list_NoneType, kb_list_bool, kb_list_int, kb_list_str, kb_list_tuple, kb_list_list, c_kind_height, c_has_ground, c_opened, c_same_shape, c_as_precise, c_value_fits, c_use_fits, c__law_draws, c__law_draw, c__law_number, c__law_same, c__law_kind, c__law_tall, c__law_any_kind, c__law_agreeing, c__law_has, c__law_open, c__law_value, c__law_used, c__law_value_fits, c__law_use_fits, c__law_changed, c_law, c_Kind, so_seq, so_nil, so_set, so_expr, so_ret, so_retN, so_pass, so_brk, so_cnt, so_never, so_raise, so_try, so_ite, ret_bl, ret_int, ret_str, ret_non, a2_0, d6, d9, d11, p_ixd k_USED_GROUNDS, ug_first, x_has k _ a _ (Nat.le_trans ha (by decide : 60 ≤ 64)), e, Bool.not_false, Bool.false_eq_true, if_false, if_true]
        exact ⟨trivial, trivial⟩
      · rw [r__law_use_fits]
        simp only [F__law_use_fits, ud, ok_ok, ok_noex, ok_var, ok_lit, ok_prim, ok_nil, ok_cons, ok_call, ok_and, ok_or, ok_iteE, ok_chain, ok_meth, ok_attr, ok_join, ok_jnil, ok_jcons, p_not, p_add, p_sub, p_adds, p_muls, p_mulr, p_fdiv, p_mod, p_pow, p_eqi, p_eqs, p_eqb, p_nei, p_nes, p_neb, p_lt, p_le, p_gt, p_ge, p_is, p_isnot, p_lens, p_lent, p_lenk, p_int, p_bool, p_min, p_max, p_tup, p_lst, p_fmts, p_ixt, p_ixs, p_slse, p_slsu, p_isity, p_isigl, bm_rm, bm_st, tr_bl, tr_non, tr_int, tr_tup, tr_kls, tr_str, Mp.isNon, List.getElem?_cons_zero, List.getElem?_cons_succ, List.set_cons_zero, List.set_cons_succ, ity_non, ity_bl, ity_int, ity_str, ity_tup, ity_kls, kb_NoneType_NoneType, kb_NoneType_bool, kb_NoneType_int, kb_NoneType_str, kb_NoneType_tuple, kb_NoneType_list, kb_bool_NoneType, kb_bool_bool, kb_bool_int, kb_bool_str, kb_bool_tuple, kb_bool_list, kb_int_NoneType, kb_int_bool, kb_int_int, kb_int_str, kb_int_tuple, kb_int_list, kb_str_NoneType, kb_str_bool, kb_str_int, kb_str_str, kb_str_tuple, kb_str_list, kb_tuple_NoneType, kb_tuple_bool, kb_tuple_int, kb_tuple_str, kb_tuple_tuple, kb_tuple_list, kb_list_NoneType, kb_list_bool, kb_list_int, kb_list_str, kb_list_tuple, kb_list_list, c_kind_height, c_has_ground, c_opened, c_same_shape, c_as_precise, c_value_fits, c_use_fits, c__law_draws, c__law_draw, c__law_number, c__law_same, c__law_kind, c__law_tall, c__law_any_kind, c__law_agreeing, c__law_has, c__law_open, c__law_value, c__law_used, c__law_value_fits, c__law_use_fits, c__law_changed, c_law, c_Kind, so_seq, so_nil, so_set, so_expr, so_ret, so_retN, so_pass, so_brk, so_cnt, so_never, so_raise, so_try, so_ite, ret_bl, ret_int, ret_str, ret_non, a2_0, d6, d9, d11, x__law_has k _ a _ (Nat.le_trans ha (by decide : 60 ≤ 64)), e, Bool.not_false, Bool.false_eq_true, if_false, if_true]
        exact ⟨trivial, trivial⟩
  | .second u1, a, ha => by
    by_cases e : hg a "pair" = true
    · obtain ⟨a1, a2, h1, h2, op⟩ := open_p a 60 (by omega) (by omega) e
      obtain ⟨r1, f1⟩ := fitU u1 a2 h2
      refine ⟨r1, fun k h hk => ?_⟩
      have hk : up u1 + 1 + 2 ≤ k := hk
      obtain ⟨k, rfl⟩ : ∃ j, k = j + 2 := ⟨k - 2, by omega⟩
      obtain ⟨e1, g1⟩ := f1 (k + 1) h (by omega)
      refine ⟨of_ok ?_, of_ok ?_⟩
      · rw [r_use_fits]
        simp only [F_use_fits, ud, ok_ok, ok_noex, ok_var, ok_lit, ok_prim, ok_nil, ok_cons, ok_call, ok_and, ok_or, ok_iteE, ok_chain, ok_meth, ok_attr, ok_join, ok_jnil, ok_jcons, p_not, p_add, p_sub, p_adds, p_muls, p_mulr, p_fdiv, p_mod, p_pow, p_eqi, p_eqs, p_eqb, p_nei, p_nes, p_neb, p_lt, p_le, p_gt, p_ge, p_is, p_isnot, p_lens, p_lent, p_lenk, p_int, p_bool, p_min, p_max, p_tup, p_lst, p_fmts, p_ixt, p_ixs, p_slse, p_slsu, p_isity, p_isigl, bm_rm, bm_st, tr_bl, tr_non, tr_int, tr_tup, tr_kls, tr_str, Mp.isNon, List.getElem?_cons_zero, List.getElem?_cons_succ, List.set_cons_zero, List.set_cons_succ, ity_non, ity_bl, ity_int, ity_str, ity_tup, ity_kls, kb_NoneType_NoneType, kb_NoneType_bool, kb_NoneType_int, kb_NoneType_str, kb_NoneType_tuple, kb_NoneType_list, kb_bool_NoneType, kb_bool_bool, kb_bool_int, kb_bool_str, kb_bool_tuple, kb_bool_list, kb_int_NoneType, kb_int_bool, kb_int_int, kb_int_str, kb_int_tuple, kb_int_list, kb_str_NoneType, kb_str_bool, kb_str_int, kb_str_str, kb_str_tuple, kb_str_list, kb_tuple_NoneType, kb_tuple_bool, kb_tuple_int, kb_tuple_str, kb_tuple_tuple, kb_tuple_list, kb_list_NoneType, kb_list_bool, kb_list_int, kb_list_str, kb_list_tuple, kb_list_list, c_kind_height, c_has_ground, c_opened, c_same_shape, c_as_precise, c_value_fits, c_use_fits, c__law_draws, c__law_draw, c__law_number, c__law_same, c__law_kind, c__law_tall, c__law_any_kind, c__law_agreeing, c__law_has, c__law_open, c__law_value, c__law_used, c__law_value_fits, c__law_use_fits, c__law_changed, c_law, c_Kind, so_seq, so_nil, so_set, so_expr, so_ret, so_retN, so_pass, so_brk, so_cnt, so_never, so_raise, so_try, so_ite, ret_bl, ret_int, ret_str, ret_non, a2_0, a2_1, d7, d10, d12, p_ixd k_USED_GROUNDS, ug_second, x_has k _ a _ (Nat.le_trans ha (by decide : 60 ≤ 64)), e, (op k h).1, ixp1, ixp2, e1, Bool.not_true, Bool.false_eq_true, if_false, if_true]
        exact ⟨trivial, trivial⟩
      · rw [r__law_use_fits]
        simp only [F__law_use_fits, ud, ok_ok, ok_noex, ok_var, ok_lit, ok_prim, ok_nil, ok_cons, ok_call, ok_and, ok_or, ok_iteE, ok_chain, ok_meth, ok_attr, ok_join, ok_jnil, ok_jcons, p_not, p_add, p_sub, p_adds, p_muls, p_mulr, p_fdiv, p_mod, p_pow, p_eqi, p_eqs, p_eqb, p_nei, p_nes, p_neb, p_lt, p_le, p_gt, p_ge, p_is, p_isnot, p_lens, p_lent, p_lenk, p_int, p_bool, p_min, p_max, p_tup, p_lst, p_fmts, p_ixt, p_ixs, p_slse, p_slsu, p_isity, p_isigl, bm_rm, bm_st, tr_bl, tr_non, tr_int, tr_tup, tr_kls, tr_str, Mp.isNon, List.getElem?_cons_zero, List.getElem?_cons_succ, List.set_cons_zero, List.set_cons_succ, ity_non, ity_bl, ity_int, ity_str, ity_tup, ity_kls, kb_NoneType_NoneType, kb_NoneType_bool, kb_NoneType_int, kb_NoneType_str, kb_NoneType_tuple, kb_NoneType_list, kb_bool_NoneType, kb_bool_bool, kb_bool_int, kb_bool_str, kb_bool_tuple, kb_bool_list, kb_int_NoneType, kb_int_bool, kb_int_int, kb_int_str, kb_int_tuple, kb_int_list, kb_str_NoneType, kb_str_bool, kb_str_int, kb_str_str, kb_str_tuple, kb_str_list, kb_tuple_NoneType, kb_tuple_bool, kb_tuple_int, kb_tuple_str, kb_tuple_tuple, kb_tuple_list, kb_list_NoneType, kb_list_bool, kb_list_int, kb_list_str, kb_list_tuple, kb_list_list, c_kind_height, c_has_ground, c_opened, c_same_shape, c_as_precise, c_value_fits, c_use_fits, c__law_draws, c__law_draw, c__law_number, c__law_same, c__law_kind, c__law_tall, c__law_any_kind, c__law_agreeing, c__law_has, c__law_open, c__law_value, c__law_used, c__law_value_fits, c__law_use_fits, c__law_changed, c_law, c_Kind, so_seq, so_nil, so_set, so_expr, so_ret, so_retN, so_pass, so_brk, so_cnt, so_never, so_raise, so_try, so_ite, ret_bl, ret_int, ret_str, ret_non, a2_0, a2_1, d7, d10, d12, x__law_has k _ a _ (Nat.le_trans ha (by decide : 60 ≤ 64)), e, (op k h).2, ixp1, ixp2, g1, Bool.not_true, Bool.false_eq_true, if_false, if_true]
        exact ⟨trivial, trivial⟩
    · have e : hg a "pair" = false := by simpa using e
      refine ⟨false, fun k h hk => ?_⟩
      obtain ⟨k, rfl⟩ : ∃ j, k = j + 2 := ⟨k - 2, by omega⟩
      refine ⟨of_ok ?_, of_ok ?_⟩
      · rw [r_use_fits]
        simp only [F_use_fits, ud, ok_ok, ok_noex, ok_var, ok_lit, ok_prim, ok_nil, ok_cons, ok_call, ok_and, ok_or, ok_iteE, ok_chain, ok_meth, ok_attr, ok_join, ok_jnil, ok_jcons, p_not, p_add, p_sub, p_adds, p_muls, p_mulr, p_fdiv, p_mod, p_pow, p_eqi, p_eqs, p_eqb, p_nei, p_nes, p_neb, p_lt, p_le, p_gt, p_ge, p_is, p_isnot, p_lens, p_lent, p_lenk, p_int, p_bool, p_min, p_max, p_tup, p_lst, p_fmts, p_ixt, p_ixs, p_slse, p_slsu, p_isity, p_isigl, bm_rm, bm_st, tr_bl, tr_non, tr_int, tr_tup, tr_kls, tr_str, Mp.isNon, List.getElem?_cons_zero, List.getElem?_cons_succ, List.set_cons_zero, List.set_cons_succ, ity_non, ity_bl, ity_int, ity_str, ity_tup, ity_kls, kb_NoneType_NoneType, kb_NoneType_bool, kb_NoneType_int, kb_NoneType_str, kb_NoneType_tuple, kb_NoneType_list, kb_bool_NoneType, kb_bool_bool, kb_bool_int, kb_bool_str, kb_bool_tuple, kb_bool_list, kb_int_NoneType, kb_int_bool, kb_int_int, kb_int_str, kb_int_tuple, kb_int_list, kb_str_NoneType, kb_str_bool, kb_str_int, kb_str_str, kb_str_tuple, kb_str_list, kb_tuple_NoneType, kb_tuple_bool, kb_tuple_int, kb_tuple_str, kb_tuple_tuple, kb_tuple_list, kb_list_NoneType, kb_list_bool, kb_list_int, kb_list_str, kb_list_tuple, kb_list_list, c_kind_height, c_has_ground, c_opened, c_same_shape, c_as_precise, c_value_fits, c_use_fits, c__law_draws, c__law_draw, c__law_number, c__law_same, c__law_kind, c__law_tall, c__law_any_kind, c__law_agreeing, c__law_has, c__law_open, c__law_value, c__law_used, c__law_value_fits, c__law_use_fits, c__law_changed, c_law, c_Kind, so_seq, so_nil, so_set, so_expr, so_ret, so_retN, so_pass, so_brk, so_cnt, so_never, so_raise, so_try, so_ite, ret_bl, ret_int, ret_str, ret_non, a2_0, d7, d10, d12, p_ixd k_USED_GROUNDS, ug_second, x_has k _ a _ (Nat.le_trans ha (by decide : 60 ≤ 64)), e, Bool.not_false, Bool.false_eq_true, if_false, if_true]
        exact ⟨trivial, trivial⟩
      · rw [r__law_use_fits]
        simp only [F__law_use_fits, ud, ok_ok, ok_noex, ok_var, ok_lit, ok_prim, ok_nil, ok_cons, ok_call, ok_and, ok_or, ok_iteE, ok_chain, ok_meth, ok_attr, ok_join, ok_jnil, ok_jcons, p_not, p_add, p_sub, p_adds, p_muls, p_mulr, p_fdiv, p_mod, p_pow, p_eqi, p_eqs, p_eqb, p_nei, p_nes, p_neb, p_lt, p_le, p_gt, p_ge, p_is, p_isnot, p_lens, p_lent, p_lenk, p_int, p_bool, p_min, p_max, p_tup, p_lst, p_fmts, p_ixt, p_ixs, p_slse, p_slsu, p_isity, p_isigl, bm_rm, bm_st, tr_bl, tr_non, tr_int, tr_tup, tr_kls, tr_str, Mp.isNon, List.getElem?_cons_zero, List.getElem?_cons_succ, List.set_cons_zero, List.set_cons_succ, ity_non, ity_bl, ity_int, ity_str, ity_tup, ity_kls, kb_NoneType_NoneType, kb_NoneType_bool, kb_NoneType_int, kb_NoneType_str, kb_NoneType_tuple, kb_NoneType_list, kb_bool_NoneType, kb_bool_bool, kb_bool_int, kb_bool_str, kb_bool_tuple, kb_bool_list, kb_int_NoneType, kb_int_bool, kb_int_int, kb_int_str, kb_int_tuple, kb_int_list, kb_str_NoneType, kb_str_bool, kb_str_int, kb_str_str, kb_str_tuple, kb_str_list, kb_tuple_NoneType, kb_tuple_bool, kb_tuple_int, kb_tuple_str, kb_tuple_tuple, kb_tuple_list, kb_list_NoneType, kb_list_bool, kb_list_int, kb_list_str, kb_list_tuple, kb_list_list, c_kind_height, c_has_ground, c_opened, c_same_shape, c_as_precise, c_value_fits, c_use_fits, c__law_draws, c__law_draw, c__law_number, c__law_same, c__law_kind, c__law_tall, c__law_any_kind, c__law_agreeing, c__law_has, c__law_open, c__law_value, c__law_used, c__law_value_fits, c__law_use_fits, c__law_changed, c_law, c_Kind, so_seq, so_nil, so_set, so_expr, so_ret, so_retN, so_pass, so_brk, so_cnt, so_never, so_raise, so_try, so_ite, ret_bl, ret_int, ret_str, ret_non, a2_0, d7, d10, d12, x__law_has k _ a _ (Nat.le_trans ha (by decide : 60 ≤ 64)), e, Bool.not_false, Bool.false_eq_true, if_false, if_true]
        exact ⟨trivial, trivial⟩
end

end Lk25

set_option Elab.async false
set_option linter.all false
set_option maxRecDepth 100000
set_option maxHeartbeats 2000000
namespace Lk25
open PySem Mp
/-! ### drawn values and uses -/
theorem number (k : Nat) (ds : List Int) (t : HD) {Q : D → HD → Prop} (q : ∀ i ds', Q (.int i) (li ds' :: t)) : okx (fun _ _ => False) (run tb.prog (k + 2) "_law_number" [.ref 0] (li ds :: t)) Q := by
  rw [r__law_number]
  simp only [F__law_number, ok_ok, ok_noex, ok_var, ok_lit, ok_prim, ok_nil, ok_cons, ok_call, ok_and, ok_or, ok_iteE, ok_chain, ok_meth, ok_attr, ok_join, ok_jnil, ok_jcons, p_not, p_add, p_sub, p_adds, p_muls, p_mulr, p_fdiv, p_mod, p_pow, p_eqi, p_eqs, p_eqb, p_nei, p_nes, p_neb, p_lt, p_le, p_gt, p_ge, p_is, p_isnot, p_lens, p_lent, p_lenk, p_int, p_bool, p_min, p_max, p_tup, p_lst, p_fmts, p_ixt, p_ixs, p_slse, p_slsu, p_isity, p_isigl, bm_rm, bm_st, tr_bl, tr_non, tr_int, tr_tup, tr_kls, tr_str, Mp.isNon, List.getElem?_cons_zero, List.getElem?_cons_succ, List.set_cons_zero, List.set_cons_succ, ity_non, ity_bl, ity_int, ity_str, ity_tup, ity_kls, kb_NoneType_NoneType, kb_NoneType_bool, kb_NoneType_int, kb_NoneType_str, kb_NoneType_tuple, kb_NoneType_list, kb_bool_NoneType, kb_bool_bool, kb_bool_int, kb_bool_str, kb_bool_tuple, kb_bool_list, kb_int_NoneType, kb_int_bool, kb_int_int, kb_int_str, kb_int_tuple, kb_int_list, kb_str_NoneType, kb_str_bool, kb_str_int, kb_str_str, kb_str_tuple, kb_str_list, kb_tuple_NoneType, kb_tuple_bool, kb_tuple_int, kb_tuple_str, kb_tuple_tuple, kb_tuple_list, kb_list_NoneType, kb_list_bool, kb_list_int, kb_list_str, kb_list_tuple, kb_list_list, c_kind_height, c_has_ground, c_opened, c_same_shape, c_as_precise, c_value_fits, c_use_fits, c__law_draws, c__law_draw, c__law_number, c__law_same, c__law_kind, c__law_tall, c__law_any_kind, c__law_agreeing, c__law_has, c__law_open, c__law_value, c__law_used, c__law_value_fits, c__law_use_fits, c__law_changed, c_law, c_Kind, so_seq, so_nil, so_set, so_expr, so_ret, so_retN, so_pass, so_brk, so_cnt, so_never, so_raise, so_try, so_ite, ret_bl, ret_int, ret_str, ret_non, so_for, ok_itrng1]
  refine draw k ds t 4 (by decide) fun w d1 w0 w1 => ?_
  simp only [ok_ok, ok_noex, ok_var, ok_lit, ok_prim, ok_nil, ok_cons, ok_call, ok_and, ok_or, ok_iteE, ok_chain, ok_meth, ok_attr, ok_join, ok_jnil, ok_jcons, p_not, p_add, p_sub, p_adds, p_muls, p_mulr, p_fdiv, p_mod, p_pow, p_eqi, p_eqs, p_eqb, p_nei, p_nes, p_neb, p_lt, p_le, p_gt, p_ge, p_is, p_isnot, p_lens, p_lent, p_lenk, p_int, p_bool, p_min, p_max, p_tup, p_lst, p_fmts, p_ixt, p_ixs, p_slse, p_slsu, p_isity, p_isigl, bm_rm, bm_st, tr_bl, tr_non, tr_int, tr_tup, tr_kls, tr_str, Mp.isNon, List.getElem?_cons_zero, List.getElem?_cons_succ, List.set_cons_zero, List.set_cons_succ, ity_non, ity_bl, ity_int, ity_str, ity_tup, ity_kls, kb_NoneType_NoneType, kb_NoneType_bool, kb_NoneType_int, kb_NoneType_str, kb_NoneType_tuple, kb_NoneType_list, kb_bool_NoneType, kb_bool_bool, kb_bool_int, kb_bool_str, kb_bool_tuple, kb_bool_list, kb_int_NoneType, kb_int_bool, kb_int_int, kb_int_str, kb_int_tuple, kb_int_list, kb_str_NoneType, kb_str_bool, kb_str_int, kb_str_str, kb_str_tuple, kb_str_list, kb_tuple_NoneType, kb_tuple_bool, kb_tuple_int, kb_tuple_str, kb_tuple_tuple, kb_tuple_list, kb_list_NoneType, kb_list_bool, kb_list_int, kb_list_str, kb_list_tuple, kb_list_list, c_kind_height, c_has_ground, c_opened, c_same_shape, c_as_precise, c_value_fits, c_use_fits, c__law_draws, c__law_draw, c__law_number, c__law_same, c__law_kind, c__law_tall, c__law_any_kind, c__law_agreeing, c__law_has, c__law_open, c__law_value, c__law_used, c__law_value_fits, c__law_use_fits, c__law_changed, c_law, c_Kind, so_seq, so_nil, so_set, so_expr, so_ret, so_retN, so_pass, so_brk, so_cnt, so_never, so_raise, so_try, so_ite, ret_bl, ret_int, ret_str, ret_non]
  by_cases h2 : w < 2
  · simp only [h2, decide_true, if_true]
    refine draw k d1 t 10 (by decide) fun r d2 r0 r1 => ?_
    simp only [ok_ok, ok_noex, ok_var, ok_lit, ok_prim, ok_nil, ok_cons, ok_call, ok_and, ok_or, ok_iteE, ok_chain, ok_meth, ok_attr, ok_join, ok_jnil, ok_jcons, p_not, p_add, p_sub, p_adds, p_muls, p_mulr, p_fdiv, p_mod, p_pow, p_eqi, p_eqs, p_eqb, p_nei, p_nes, p_neb, p_lt, p_le, p_gt, p_ge, p_is, p_isnot, p_lens, p_lent, p_lenk, p_int, p_bool, p_min, p_max, p_tup, p_lst, p_fmts, p_ixt, p_ixs, p_slse, p_slsu, p_isity, p_isigl, bm_rm, bm_st, tr_bl, tr_non, tr_int, tr_tup, tr_kls, tr_str, Mp.isNon, List.getElem?_cons_zero, List.getElem?_cons_succ, List.set_cons_zero, List.set_cons_succ, ity_non, ity_bl, ity_int, ity_str, ity_tup, ity_kls, kb_NoneType_NoneType, kb_NoneType_bool, kb_NoneType_int, kb_NoneType_str, kb_NoneType_tuple, kb_NoneType_list, kb_bool_NoneType, kb_bool_bool, kb_bool_int, kb_bool_str, kb_bool_tuple, kb_bool_list, kb_int_NoneType, kb_int_bool, kb_int_int, kb_int_str, kb_int_tuple, kb_int_list, kb_str_NoneType, kb_str_bool, kb_str_int, kb_str_str, kb_str_tuple, kb_str_list, kb_tuple_NoneType, kb_tuple_bool, kb_tuple_int, kb_tuple_str, kb_tuple_tuple, kb_tuple_list, kb_list_NoneType, kb_list_bool, kb_list_int, kb_list_str, kb_list_tuple, kb_list_list, c_kind_height, c_has_ground, c_opened, c_same_shape, c_as_precise, c_value_fits, c_use_fits, c__law_draws, c__law_draw, c__law_number, c__law_same, c__law_kind, c__law_tall, c__law_any_kind, c__law_agreeing, c__law_has, c__law_open, c__law_value, c__law_used, c__law_value_fits, c__law_use_fits, c__law_changed, c_law, c_Kind, so_seq, so_nil, so_set, so_expr, so_ret, so_retN, so_pass, so_brk, so_cnt, so_never, so_raise, so_try, so_ite, ret_bl, ret_int, ret_str, ret_non]
    rw [ret_li rfl]
    exact q _ _
  · simp only [h2, decide_false, Bool.false_eq_true, if_false]
    refine draw k d1 t 20 (by decide) fun n d2 n0 n1 => ?_
    simp only [ok_ok, ok_noex, ok_var, ok_lit, ok_prim, ok_nil, ok_cons, ok_call, ok_and, ok_or, ok_iteE, ok_chain, ok_meth, ok_attr, ok_join, ok_jnil, ok_jcons, p_not, p_add, p_sub, p_adds, p_muls, p_mulr, p_fdiv, p_mod, p_pow, p_eqi, p_eqs, p_eqb, p_nei, p_nes, p_neb, p_lt, p_le, p_gt, p_ge, p_is, p_isnot, p_lens, p_lent, p_lenk, p_int, p_bool, p_min, p_max, p_tup, p_lst, p_fmts, p_ixt, p_ixs, p_slse, p_slsu, p_isity, p_isigl, bm_rm, bm_st, tr_bl, tr_non, tr_int, tr_tup, tr_kls, tr_str, Mp.isNon, List.getElem?_cons_zero, List.getElem?_cons_succ, List.set_cons_zero, List.set_cons_succ, ity_non, ity_bl, ity_int, ity_str, ity_tup, ity_kls, kb_NoneType_NoneType, kb_NoneType_bool, kb_NoneType_int, kb_NoneType_str, kb_NoneType_tuple, kb_NoneType_list, kb_bool_NoneType, kb_bool_bool, kb_bool_int, kb_bool_str, kb_bool_tuple, kb_bool_list, kb_int_NoneType, kb_int_bool, kb_int_int, kb_int_str, kb_int_tuple, kb_int_list, kb_str_NoneType, kb_str_bool, kb_str_int, kb_str_str, kb_str_tuple, kb_str_list, kb_tuple_NoneType, kb_tuple_bool, kb_tuple_int, kb_tuple_str, kb_tuple_tuple, kb_tuple_list, kb_list_NoneType, kb_list_bool, kb_list_int, kb_list_str, kb_list_tuple, kb_list_list, c_kind_height, c_has_ground, c_opened, c_same_shape, c_as_precise, c_value_fits, c_use_fits, c__law_draws, c__law_draw, c__law_number, c__law_same, c__law_kind, c__law_tall, c__law_any_kind, c__law_agreeing, c__law_has, c__law_open, c__law_value, c__law_used, c__law_value_fits, c__law_use_fits, c__law_changed, c_law, c_Kind, so_seq, so_nil, so_set, so_expr, so_ret, so_retN, so_pass, so_brk, so_cnt, so_never, so_raise, so_try, so_ite, ret_bl, ret_int, ret_str, ret_non]
    refine ⟨by unfold big; omega, by unfold big; omega, ?_⟩
    refine for_rng (t := .one 3) (I := fun i v h => ∃ ds' z x, v = [some (.ref 0), some (.int w), some (.int z), x] ∧ h = li ds' :: t) ?_ ?_ ⟨_, _, _, rfl, rfl⟩
    · rintro i v h hi ⟨d3, z, x, rfl, rfl⟩
      simp only [tgt, ok_ok, ok_noex, ok_var, ok_lit, ok_prim, ok_nil, ok_cons, ok_call, ok_and, ok_or, ok_iteE, ok_chain, ok_meth, ok_attr, ok_join, ok_jnil, ok_jcons, p_not, p_add, p_sub, p_adds, p_muls, p_mulr, p_fdiv, p_mod, p_pow, p_eqi, p_eqs, p_eqb, p_nei, p_nes, p_neb, p_lt, p_le, p_gt, p_ge, p_is, p_isnot, p_lens, p_lent, p_lenk, p_int, p_bool, p_min, p_max, p_tup, p_lst, p_fmts, p_ixt, p_ixs, p_slse, p_slsu, p_isity, p_isigl, bm_rm, bm_st, tr_bl, tr_non, tr_int, tr_tup, tr_kls, tr_str, Mp.isNon, List.getElem?_cons_zero, List.getElem?_cons_succ, List.set_cons_zero, List.set_cons_succ, ity_non, ity_bl, ity_int, ity_str, ity_tup, ity_kls, kb_NoneType_NoneType, kb_NoneType_bool, kb_NoneType_int, kb_NoneType_str, kb_NoneType_tuple, kb_NoneType_list, kb_bool_NoneType, kb_bool_bool, kb_bool_int, kb_bool_str, kb_bool_tuple, kb_bool_list, kb_int_NoneType, kb_int_bool, kb_int_int, kb_int_str, kb_int_tuple, kb_int_list, kb_str_NoneType, kb_str_bool, kb_str_int, kb_str_str, kb_str_tuple, kb_str_list, kb_tuple_NoneType, kb_tuple_bool, kb_tuple_int, kb_tuple_str, kb_tuple_tuple, kb_tuple_list, kb_list_NoneType, kb_list_bool, kb_list_int, kb_list_str, kb_list_tuple, kb_list_list, c_kind_height, c_has_ground, c_opened, c_same_shape, c_as_precise, c_value_fits, c_use_fits, c__law_draws, c__law_draw, c__law_number, c__law_same, c__law_kind, c__law_tall, c__law_any_kind, c__law_agreeing, c__law_has, c__law_open, c__law_value, c__law_used, c__law_value_fits, c__law_use_fits, c__law_changed, c_law, c_Kind, so_seq, so_nil, so_set, so_expr, so_ret, so_retN, so_pass, so_brk, so_cnt, so_never, so_raise, so_try, so_ite, ret_bl, ret_int, ret_str, ret_non]
      rw [p_mulr _ _ (by decide)]
      refine draw k d3 t 1000 (by decide) fun r d4 r0 r1 => ?_
      simp only [ok_ok, ok_noex, ok_var, ok_lit, ok_prim, ok_nil, ok_cons, ok_call, ok_and, ok_or, ok_iteE, ok_chain, ok_meth, ok_attr, ok_join, ok_jnil, ok_jcons, p_not, p_add, p_sub, p_adds, p_muls, p_mulr, p_fdiv, p_mod, p_pow, p_eqi, p_eqs, p_eqb, p_nei, p_nes, p_neb, p_lt, p_le, p_gt, p_ge, p_is, p_isnot, p_lens, p_lent, p_lenk, p_int, p_bool, p_min, p_max, p_tup, p_lst, p_fmts, p_ixt, p_ixs, p_slse, p_slsu, p_isity, p_isigl, bm_rm, bm_st, tr_bl, tr_non, tr_int, tr_tup, tr_kls, tr_str, Mp.isNon, List.getElem?_cons_zero, List.getElem?_cons_succ, List.set_cons_zero, List.set_cons_succ, ity_non, ity_bl, ity_int, ity_str, ity_tup, ity_kls, kb_NoneType_NoneType, kb_NoneType_bool, kb_NoneType_int, kb_NoneType_str, kb_NoneType_tuple, kb_NoneType_list, kb_bool_NoneType, kb_bool_bool, kb_bool_int, kb_bool_str, kb_bool_tuple, kb_bool_list, kb_int_NoneType, kb_int_bool, kb_int_int, kb_int_str, kb_int_tuple, kb_int_list, kb_str_NoneType, kb_str_bool, kb_str_int, kb_str_str, kb_str_tuple, kb_str_list, kb_tuple_NoneType, kb_tuple_bool, kb_tuple_int, kb_tuple_str, kb_tuple_tuple, kb_tuple_list, kb_list_NoneType, kb_list_bool, kb_list_int, kb_list_str, kb_list_tuple, kb_list_list, c_kind_height, c_has_ground, c_opened, c_same_shape, c_as_precise, c_value_fits, c_use_fits, c__law_draws, c__law_draw, c__law_number, c__law_same, c__law_kind, c__law_tall, c__law_any_kind, c__law_agreeing, c__law_has, c__law_open, c__law_value, c__law_used, c__law_value_fits, c__law_use_fits, c__law_changed, c_law, c_Kind, so_seq, so_nil, so_set, so_expr, so_ret, so_retN, so_pass, so_brk, so_cnt, so_never, so_raise, so_try, so_ite, ret_bl, ret_int, ret_str, ret_non]
      exact ⟨_, _, _, rfl, rfl⟩
    · rintro v h ⟨d3, z, x, rfl, rfl⟩
      by_cases h3 : w = 2
      · simp only [ok_ok, ok_noex, ok_var, ok_lit, ok_prim, ok_nil, ok_cons, ok_call, ok_and, ok_or, ok_iteE, ok_chain, ok_meth, ok_attr, ok_join, ok_jnil, ok_jcons, p_not, p_add, p_sub, p_adds, p_muls, p_mulr, p_fdiv, p_mod, p_pow, p_eqi, p_eqs, p_eqb, p_nei, p_nes, p_neb, p_lt, p_le, p_gt, p_ge, p_is, p_isnot, p_lens, p_lent, p_lenk, p_int, p_bool, p_min, p_max, p_tup, p_lst, p_fmts, p_ixt, p_ixs, p_slse, p_slsu, p_isity, p_isigl, bm_rm, bm_st, tr_bl, tr_non, tr_int, tr_tup, tr_kls, tr_str, Mp.isNon, List.getElem?_cons_zero, List.getElem?_cons_succ, List.set_cons_zero, List.set_cons_succ, ity_non, ity_bl, ity_int, ity_str, ity_tup, ity_kls, kb_NoneType_NoneType, kb_NoneType_bool, kb_NoneType_int, kb_NoneType_str, kb_NoneType_tuple, kb_NoneType_list, kb_bool_NoneType, kb_bool_bool, kb_bool_int, kb_bool_str, kb_bool_tuple, kb_bool_list, kb_int_NoneType, kb_int_bool, kb_int_int, kb_int_str, kb_int_tuple, kb_int_list, kb_str_NoneType, kb_str_bool, kb_str_int, kb_str_str, kb_str_tuple, kb_str_list, kb_tuple_NoneType, kb_tuple_bool, kb_tuple_int, kb_tuple_str, kb_tuple_tuple, kb_tuple_list, kb_list_NoneType, kb_list_bool, kb_list_int, kb_list_str, kb_list_tuple, kb_list_list, c_kind_height, c_has_ground, c_opened, c_same_shape, c_as_precise, c_value_fits, c_use_fits, c__law_draws, c__law_draw, c__law_number, c__law_same, c__law_kind, c__law_tall, c__law_any_kind, c__law_agreeing, c__law_has, c__law_open, c__law_value, c__law_used, c__law_value_fits, c__law_use_fits, c__law_changed, c_law, c_Kind, so_seq, so_nil, so_set, so_expr, so_ret, so_retN, so_pass, so_brk, so_cnt, so_never, so_raise, so_try, so_ite, ret_bl, ret_int, ret_str, ret_non, h3, decide_true, if_true]
        rw [ret_li rfl]
        exact q _ _
      · simp only [ok_ok, ok_noex, ok_var, ok_lit, ok_prim, ok_nil, ok_cons, ok_call, ok_and, ok_or, ok_iteE, ok_chain, ok_meth, ok_attr, ok_join, ok_jnil, ok_jcons, p_not, p_add, p_sub, p_adds, p_muls, p_mulr, p_fdiv, p_mod, p_pow, p_eqi, p_eqs, p_eqb, p_nei, p_nes, p_neb, p_lt, p_le, p_gt, p_ge, p_is, p_isnot, p_lens, p_lent, p_lenk, p_int, p_bool, p_min, p_max, p_tup, p_lst, p_fmts, p_ixt, p_ixs, p_slse, p_slsu, p_isity, p_isigl, bm_rm, bm_st, tr_bl, tr_non, tr_int, tr_tup, tr_kls, tr_str, Mp.isNon, List.getElem?_cons_zero, List.getElem?_cons_succ, List.set_cons_zero, List.set_cons_succ, ity_non, ity_bl, ity_int, ity_str, ity_tup, ity_kls, kb_NoneType_NoneType, kb_NoneType_bool, kb_NoneType_int, kb_NoneType_str, kb_NoneType_tuple, kb_NoneType_list, kb_bool_NoneType, kb_bool_bool, kb_bool_int, kb_bool_str, kb_bool_tuple, kb_bool_list, kb_int_NoneType, kb_int_bool, kb_int_int, kb_int_str, kb_int_tuple, kb_int_list, kb_str_NoneType, kb_str_bool, kb_str_int, kb_str_str, kb_str_tuple, kb_str_list, kb_tuple_NoneType, kb_tuple_bool, kb_tuple_int, kb_tuple_str, kb_tuple_tuple, kb_tuple_list, kb_list_NoneType, kb_list_bool, kb_list_int, kb_list_str, kb_list_tuple, kb_list_list, c_kind_height, c_has_ground, c_opened, c_same_shape, c_as_precise, c_value_fits, c_use_fits, c__law_draws, c__law_draw, c__law_number, c__law_same, c__law_kind, c__law_tall, c__law_any_kind, c__law_agreeing, c__law_has, c__law_open, c__law_value, c__law_used, c__law_value_fits, c__law_use_fits, c__law_changed, c_law, c_Kind, so_seq, so_nil, so_set, so_expr, so_ret, so_retN, so_pass, so_brk, so_cnt, so_never, so_raise, so_try, so_ite, ret_bl, ret_int, ret_str, ret_non, h3, decide_false, Bool.false_eq_true, if_false]
        rw [ret_li rfl]
        exact q _ _
abbrev l5 : List D := [.str "unit", .str "int", .str "bool", .str "fun", .str "pair"]
inductive Gd where
  | int | bool | unit | fn | pr
def gs : Gd → Str
  | .int => "int"
  | .bool => "bool"
  | .unit => "unit"
  | .fn => "fun"
  | .pr => "pair"
theorem l5_at {i : Int} (h0 : 0 ≤ i) (h1 : i < 5) : ∃ g : Gd, Mp.atI l5 i = some (.str (gs g)) := by
  obtain ⟨c, hc, e⟩ := atI_lt (l := l5) (n := 5) h0 h1 (by decide)
  have hc : c ∈ l5 := List.mem_of_mem_take hc
  simp only [List.mem_cons, List.not_mem_nil, or_false] at hc
  rcases hc with rfl | rfl | rfl | rfl | rfl
  · exact ⟨.unit, e⟩
  · exact ⟨.int, e⟩
  · exact ⟨.bool, e⟩
  · exact ⟨.fn, e⟩
  · exact ⟨.pr, e⟩
def V2 : List S := F__law_value.body.drop 2
theorem V2_eq : F__law_value.body = .set 3 (.var 1) :: .ite (.prim (.cmp .Eq) [(.var 1), (.lit (.str ("?" : Str)))]) [ .set 3 (.prim .ix [(.prim .lst [(.lit (.str ("unit" : Str))), (.lit (.str ("int" : Str))), (.lit (.str ("bool" : Str))), (.lit (.str ("fun" : Str))), (.lit (.str ("pair" : Str)))]), (.call (.lit (.gl ("_law_draw" : Str))) [(.var 0), (.lit (.int 5))])]), .ite (.and (.prim (.cmp .LtE) [(.var 2), (.lit (.int 0))]) (.prim (.cmp .In) [(.var 3), (.prim .tup [(.lit (.str ("fun" : Str))), (.lit (.str ("pair" : Str)))])])) [ .set 3 (.lit (.str ("int" : Str)))] []] [ .ite (.prim (.b .isi) [(.var 1), (.lit (.ty "tuple"))]) [ .set 3 (.prim .ix [(.var 1), (.lit (.int 0))])] []] :: V2 := rfl
def U2 : List S := F__law_used.body.drop 5
theorem U2_eq : F__law_used.body = .set 3 (.call (.lit (.gl ("_law_draw" : Str))) [(.var 0), (.lit (.int 4))]) :: .ite (.or (.prim (.cmp .LtE) [(.var 2), (.lit (.int 0))]) (.or (.prim (.cmp .Eq) [(.var 3), (.lit (.int 0))]) (.prim (.cmp .In) [(.var 1), (.prim .tup [(.lit (.str ("int" : Str))), (.lit (.str ("bool" : Str))), (.lit (.str ("unit" : Str)))])]))) [ .ret (.prim .tup [(.lit (.str ("look" : Str)))])] [] :: .set 4 (.lit (.str ("fun" : Str))) :: .ite (.and (.prim (.cmp .Eq) [(.var 1), (.lit (.str ("?" : Str)))]) (.prim (.cmp .Eq) [(.var 3), (.lit (.int 3))])) [ .set 4 (.lit (.str ("pair" : Str)))] [] :: .ite (.prim (.b .isi) [(.var 1), (.lit (.ty "tuple"))]) [ .set 4 (.prim .ix [(.var 1), (.lit (.int 0))])] [] :: U2 := rfl
def VAL (m : Nat) : Prop := ∀ (a : Kn) (n : Int) (k : Nat) (ds : List Int) (t : HD) (Q : D → HD → Prop), ht a ≤ m → n ≤ (m : Int) → m + 6 ≤ k → (∀ v ds', vp v ≤ m → Q (vd v) (li ds' :: t)) → okx (fun _ _ => False) (run tb.prog k "_law_value" [.ref 0, kd a, .int n] (li ds :: t)) Q
def USE (m : Nat) : Prop := ∀ (a : Kn) (n : Int) (k : Nat) (ds : List Int) (t : HD) (Q : D → HD → Prop), ht a ≤ m → n ≤ (m : Int) → m + 6 ≤ k → (∀ u ds', up u ≤ m → Q (ud u) (li ds' :: t)) → okx (fun _ _ => False) (run tb.prog k "_law_used" [.ref 0, kd a, .int n] (li ds :: t)) Q
theorem e1 : decide (("int" : Str) = "int") = true := by decide +kernel
theorem e2 : decide (("bool" : Str) = "int") = false := by decide +kernel
theorem e3 : decide (("bool" : Str) = "bool") = true := by decide +kernel
theorem e4 : decide (("unit" : Str) = "int") = false := by decide +kernel
theorem e5 : decide (("unit" : Str) = "bool") = false := by decide +kernel
theorem e6 : decide (("unit" : Str) = "unit") = true := by decide +kernel
theorem e7 : decide (("fun" : Str) = "int") = false := by decide +kernel
theorem e8 : decide (("fun" : Str) = "bool") = false := by decide +kernel
theorem e9 : decide (("fun" : Str) = "unit") = false := by decide +kernel
theorem e10 : decide (("pair" : Str) = "int") = false := by decide +kernel
theorem e11 : decide (("pair" : Str) = "bool") = false := by decide +kernel
theorem e12 : decide (("pair" : Str) = "unit") = false := by decide +kernel
theorem e13 : decide (("fun" : Str) = "fun") = true := by decide +kernel
theorem e14 : decide (("pair" : Str) = "fun") = false := by decide +kernel
theorem cl1 (n : Nat) (x : D) (h : x.cl n = true) (w : Str) : (D.tup [.str w, x]).cl n = true := by
  show (true && (x.cl n && true)) = true
  rw [h]; rfl
theorem t2 (x y : D) : [x, y].length ≤ cap := (by decide : 2 ≤ cap)
theorem t1 (x : D) : [x].length ≤ cap := (by decide : 1 ≤ cap)
/-- behind the choice of a ground -/
theorem vtail (m : Nat) (k : Nat) (hk : m + 5 ≤ k) (a : Kn) (n : Int) (hn : n ≤ (m : Int)) (ds0 ds : List Int) (t x : HD) (Q : D → HD → Prop) (q : ∀ v ds', vp v ≤ m → Q (vd v) (li ds' :: t)) (g : Gd)
    (hf : g = .fn → ∃ j, m = j + 1 ∧ VAL j ∧ USE j ∧ ∃ a1 a2, ht a1 ≤ j ∧ ht a2 ≤ j ∧ ∀ (k : Nat) (h : HD), run tb.prog (k + 1) "_law_open" [kd a, .str "fun"] h = .ok (kd (.fn a1 a2)) h)
    (hp : g = .pr → ∃ j, m = j + 1 ∧ VAL j ∧ USE j ∧ ∃ a1 a2, ht a1 ≤ j ∧ ht a2 ≤ j ∧ ∀ (k : Nat) (h : HD), run tb.prog (k + 1) "_law_open" [kd a, .str "pair"] h = .ok (kd (.pr a1 a2)) h) :
    sox (fun _ _ _ => False) (exB tb.gi (run tb.prog k) V2 [some (.ref 0), some (kd a), some (.int n), some (.str (gs g)), none, none, none] (li ds :: (t ++ x))) (fun _ h' => RetQ (li ds0 :: t) Q .non h') (fun d h' => RetQ (li ds0 :: t) Q d h') (fun _ _ => False) (fun _ _ => False) := by
  obtain ⟨k, rfl⟩ : ∃ j, k = j + 2 := ⟨k - 2, by omega⟩
  cases g with
  | int =>
    simp only [V2, F__law_value, List.drop_succ_cons, List.drop_zero, gs, ok_ok, ok_noex, ok_var, ok_lit, ok_prim, ok_nil, ok_cons, ok_call, ok_and, ok_or, ok_iteE, ok_chain, ok_meth, ok_attr, ok_join, ok_jnil, ok_jcons, p_not, p_add, p_sub, p_adds, p_muls, p_mulr, p_fdiv, p_mod, p_pow, p_eqi, p_eqs, p_eqb, p_nei, p_nes, p_neb, p_lt, p_le, p_gt, p_ge, p_is, p_isnot, p_lens, p_lent, p_lenk, p_int, p_bool, p_min, p_max, p_tup, p_lst, p_fmts, p_ixt, p_ixs, p_slse, p_slsu, p_isity, p_isigl, bm_rm, bm_st, tr_bl, tr_non, tr_int, tr_tup, tr_kls, tr_str, Mp.isNon, List.getElem?_cons_zero, List.getElem?_cons_succ, List.set_cons_zero, List.set_cons_succ, ity_non, ity_bl, ity_int, ity_str, ity_tup, ity_kls, kb_NoneType_NoneType, kb_NoneType_bool, kb_NoneType_int, kb_NoneType_str, kb_NoneType_tuple, kb_NoneType_list, kb_bool_NoneType, kb_bool_bool, kb_bool_int, kb_bool_str, kb_bool_tuple, kb_bool_list, kb_int_NoneType, kb_int_bool, kb_int_int, kb_int_str, kb_int_tuple, kb_int_list, kb_str_NoneType, kb_str_bool, kb_str_int, kb_str_str, kb_str_tuple, kb_str_list, kb_tuple_NoneType, kb_tuple_bool, kb_tuple_int, kb_tuple_str, kb_tuple_tuple, kb_tuple_list, kb_list_NoneType, kb_list_bool, kb_list_int, kb_list_str, kb_list_tuple, kb_list_list, c_kind_height, c_has_ground, c_opened, c_same_shape, c_as_precise, c_value_fits, c_use_fits, c__law_draws, c__law_draw, c__law_number, c__law_same, c__law_kind, c__law_tall, c__law_any_kind, c__law_agreeing, c__law_has, c__law_open, c__law_value, c__law_used, c__law_value_fits, c__law_use_fits, c__law_changed, c_law, c_Kind, so_seq, so_nil, so_set, so_expr, so_ret, so_retN, so_pass, so_brk, so_cnt, so_never, so_raise, so_try, so_ite, ret_bl, ret_int, ret_str, ret_non, e1, if_true]
    refine number k ds (t ++ x) fun i d1 => ?_
    simp only [ok_ok, ok_noex, ok_var, ok_lit, ok_prim, ok_nil, ok_cons, ok_call, ok_and, ok_or, ok_iteE, ok_chain, ok_meth, ok_attr, ok_join, ok_jnil, ok_jcons, p_not, p_add, p_sub, p_adds, p_muls, p_mulr, p_fdiv, p_mod, p_pow, p_eqi, p_eqs, p_eqb, p_nei, p_nes, p_neb, p_lt, p_le, p_gt, p_ge, p_is, p_isnot, p_lens, p_lent, p_lenk, p_int, p_bool, p_min, p_max, p_tup, p_lst, p_fmts, p_ixt, p_ixs, p_slse, p_slsu, p_isity, p_isigl, bm_rm, bm_st, tr_bl, tr_non, tr_int, tr_tup, tr_kls, tr_str, Mp.isNon, List.getElem?_cons_zero, List.getElem?_cons_succ, List.set_cons_zero, List.set_cons_succ, ity_non, ity_bl, ity_int, ity_str, ity_tup, ity_kls, kb_NoneType_NoneType, kb_NoneType_bool, kb_NoneType_int, kb_NoneType_str, kb_NoneType_tuple, kb_NoneType_list, kb_bool_NoneType, kb_bool_bool, kb_bool_int, kb_bool_str, kb_bool_tuple, kb_bool_list, kb_int_NoneType, kb_int_bool, kb_int_int, kb_int_str, kb_int_tuple, kb_int_list, kb_str_NoneType, kb_str_bool, kb_str_int, kb_str_str, kb_str_tuple, kb_str_list, kb_tuple_NoneType, kb_tuple_bool, kb_tuple_int, kb_tuple_str, kb_tuple_tuple, kb_tuple_list, kb_list_NoneType, kb_list_bool, kb_list_int, kb_list_str, kb_list_tuple, kb_list_list, c_kind_height, c_has_ground, c_opened, c_same_shape, c_as_precise, c_value_fits, c_use_fits, c__law_draws, c__law_draw, c__law_number, c__law_same, c__law_kind, c__law_tall, c__law_any_kind, c__law_agreeing, c__law_has, c__law_open, c__law_value, c__law_used, c__law_value_fits, c__law_use_fits, c__law_changed, c_law, c_Kind, so_seq, so_nil, so_set, so_expr, so_ret, so_retN, so_pass, so_brk, so_cnt, so_never, so_raise, so_try, so_ite, ret_bl, ret_int, ret_str, ret_non, t2, true_and]
    refine ofE (ret_li2 (d := vd (.int i)) (vd_cl _ _)) (q (.int i) d1 (Nat.zero_le _))
  | bool =>
    simp only [V2, F__law_value, List.drop_succ_cons, List.drop_zero, gs, ok_ok, ok_noex, ok_var, ok_lit, ok_prim, ok_nil, ok_cons, ok_call, ok_and, ok_or, ok_iteE, ok_chain, ok_meth, ok_attr, ok_join, ok_jnil, ok_jcons, p_not, p_add, p_sub, p_adds, p_muls, p_mulr, p_fdiv, p_mod, p_pow, p_eqi, p_eqs, p_eqb, p_nei, p_nes, p_neb, p_lt, p_le, p_gt, p_ge, p_is, p_isnot, p_lens, p_lent, p_lenk, p_int, p_bool, p_min, p_max, p_tup, p_lst, p_fmts, p_ixt, p_ixs, p_slse, p_slsu, p_isity, p_isigl, bm_rm, bm_st, tr_bl, tr_non, tr_int, tr_tup, tr_kls, tr_str, Mp.isNon, List.getElem?_cons_zero, List.getElem?_cons_succ, List.set_cons_zero, List.set_cons_succ, ity_non, ity_bl, ity_int, ity_str, ity_tup, ity_kls, kb_NoneType_NoneType, kb_NoneType_bool, kb_NoneType_int, kb_NoneType_str, kb_NoneType_tuple, kb_NoneType_list, kb_bool_NoneType, kb_bool_bool, kb_bool_int, kb_bool_str, kb_bool_tuple, kb_bool_list, kb_int_NoneType, kb_int_bool, kb_int_int, kb_int_str, kb_int_tuple, kb_int_list, kb_str_NoneType, kb_str_bool, kb_str_int, kb_str_str, kb_str_tuple, kb_str_list, kb_tuple_NoneType, kb_tuple_bool, kb_tuple_int, kb_tuple_str, kb_tuple_tuple, kb_tuple_list, kb_list_NoneType, kb_list_bool, kb_list_int, kb_list_str, kb_list_tuple, kb_list_list, c_kind_height, c_has_ground, c_opened, c_same_shape, c_as_precise, c_value_fits, c_use_fits, c__law_draws, c__law_draw, c__law_number, c__law_same, c__law_kind, c__law_tall, c__law_any_kind, c__law_agreeing, c__law_has, c__law_open, c__law_value, c__law_used, c__law_value_fits, c__law_use_fits, c__law_changed, c_law, c_Kind, so_seq, so_nil, so_set, so_expr, so_ret, so_retN, so_pass, so_brk, so_cnt, so_never, so_raise, so_try, so_ite, ret_bl, ret_int, ret_str, ret_non, e2, e3, if_true, Bool.false_eq_true, if_false]
    refine draw (k + 1) ds (t ++ x) 2 (by decide) fun r d1 r0 r1 => ?_
    simp only [ok_ok, ok_noex, ok_var, ok_lit, ok_prim, ok_nil, ok_cons, ok_call, ok_and, ok_or, ok_iteE, ok_chain, ok_meth, ok_attr, ok_join, ok_jnil, ok_jcons, p_not, p_add, p_sub, p_adds, p_muls, p_mulr, p_fdiv, p_mod, p_pow, p_eqi, p_eqs, p_eqb, p_nei, p_nes, p_neb, p_lt, p_le, p_gt, p_ge, p_is, p_isnot, p_lens, p_lent, p_lenk, p_int, p_bool, p_min, p_max, p_tup, p_lst, p_fmts, p_ixt, p_ixs, p_slse, p_slsu, p_isity, p_isigl, bm_rm, bm_st, tr_bl, tr_non, tr_int, tr_tup, tr_kls, tr_str, Mp.isNon, List.getElem?_cons_zero, List.getElem?_cons_succ, List.set_cons_zero, List.set_cons_succ, ity_non, ity_bl, ity_int, ity_str, ity_tup, ity_kls, kb_NoneType_NoneType, kb_NoneType_bool, kb_NoneType_int, kb_NoneType_str, kb_NoneType_tuple, kb_NoneType_list, kb_bool_NoneType, kb_bool_bool, kb_bool_int, kb_bool_str, kb_bool_tuple, kb_bool_list, kb_int_NoneType, kb_int_bool, kb_int_int, kb_int_str, kb_int_tuple, kb_int_list, kb_str_NoneType, kb_str_bool, kb_str_int, kb_str_str, kb_str_tuple, kb_str_list, kb_tuple_NoneType, kb_tuple_bool, kb_tuple_int, kb_tuple_str, kb_tuple_tuple, kb_tuple_list, kb_list_NoneType, kb_list_bool, kb_list_int, kb_list_str, kb_list_tuple, kb_list_list, c_kind_height, c_has_ground, c_opened, c_same_shape, c_as_precise, c_value_fits, c_use_fits, c__law_draws, c__law_draw, c__law_number, c__law_same, c__law_kind, c__law_tall, c__law_any_kind, c__law_agreeing, c__law_has, c__law_open, c__law_value, c__law_used, c__law_value_fits, c__law_use_fits, c__law_changed, c_law, c_Kind, so_seq, so_nil, so_set, so_expr, so_ret, so_retN, so_pass, so_brk, so_cnt, so_never, so_raise, so_try, so_ite, ret_bl, ret_int, ret_str, ret_non, t2, true_and]
    refine ofE (ret_li2 (d := vd (.bool (decide (r = 1)))) (vd_cl _ _)) (q (.bool _) d1 (Nat.zero_le _))
  | unit =>
    simp only [V2, F__law_value, List.drop_succ_cons, List.drop_zero, gs, ok_ok, ok_noex, ok_var, ok_lit, ok_prim, ok_nil, ok_cons, ok_call, ok_and, ok_or, ok_iteE, ok_chain, ok_meth, ok_attr, ok_join, ok_jnil, ok_jcons, p_not, p_add, p_sub, p_adds, p_muls, p_mulr, p_fdiv, p_mod, p_pow, p_eqi, p_eqs, p_eqb, p_nei, p_nes, p_neb, p_lt, p_le, p_gt, p_ge, p_is, p_isnot, p_lens, p_lent, p_lenk, p_int, p_bool, p_min, p_max, p_tup, p_lst, p_fmts, p_ixt, p_ixs, p_slse, p_slsu, p_isity, p_isigl, bm_rm, bm_st, tr_bl, tr_non, tr_int, tr_tup, tr_kls, tr_str, Mp.isNon, List.getElem?_cons_zero, List.getElem?_cons_succ, List.set_cons_zero, List.set_cons_succ, ity_non, ity_bl, ity_int, ity_str, ity_tup, ity_kls, kb_NoneType_NoneType, kb_NoneType_bool, kb_NoneType_int, kb_NoneType_str, kb_NoneType_tuple, kb_NoneType_list, kb_bool_NoneType, kb_bool_bool, kb_bool_int, kb_bool_str, kb_bool_tuple, kb_bool_list, kb_int_NoneType, kb_int_bool, kb_int_int, kb_int_str, kb_int_tuple, kb_int_list, kb_str_NoneType, kb_str_bool, kb_str_int, kb_str_str, kb_str_tuple, kb_str_list, kb_tuple_NoneType, kb_tuple_bool, kb_tuple_int, kb_tuple_str, kb_tuple_tuple, kb_tuple_list, kb_list_NoneType, kb_list_bool, kb_list_int, kb_list_str, kb_list_tuple, kb_list_list, c_kind_height, c_has_ground, c_opened, c_same_shape, c_as_precise, c_value_fits, c_use_fits, c__law_draws, c__law_draw, c__law_number, c__law_same, c__law_kind, c__law_tall, c__law_any_kind, c__law_agreeing, c__law_has, c__law_open, c__law_value, c__law_used, c__law_value_fits, c__law_use_fits, c__law_changed, c_law, c_Kind, so_seq, so_nil, so_set, so_expr, so_ret, so_retN, so_pass, so_brk, so_cnt, so_never, so_raise, so_try, so_ite, ret_bl, ret_int, ret_str, ret_non, e4, e5, e6, if_true, Bool.false_eq_true, if_false, t1, true_and]
    refine ofE (ret_li2 (d := vd .unit) (vd_cl _ _)) (q .unit ds (Nat.zero_le _))
  | pr =>
    obtain ⟨j, rfl, ihV, ihU, a1, a2, h1, h2, op⟩ := hp rfl
    simp only [V2, F__law_value, List.drop_succ_cons, List.drop_zero, gs, ok_ok, ok_noex, ok_var, ok_lit, ok_prim, ok_nil, ok_cons, ok_call, ok_and, ok_or, ok_iteE, ok_chain, ok_meth, ok_attr, ok_join, ok_jnil, ok_jcons, p_not, p_add, p_sub, p_adds, p_muls, p_mulr, p_fdiv, p_mod, p_pow, p_eqi, p_eqs, p_eqb, p_nei, p_nes, p_neb, p_lt, p_le, p_gt, p_ge, p_is, p_isnot, p_lens, p_lent, p_lenk, p_int, p_bool, p_min, p_max, p_tup, p_lst, p_fmts, p_ixt, p_ixs, p_slse, p_slsu, p_isity, p_isigl, bm_rm, bm_st, tr_bl, tr_non, tr_int, tr_tup, tr_kls, tr_str, Mp.isNon, List.getElem?_cons_zero, List.getElem?_cons_succ, List.set_cons_zero, List.set_cons_succ, ity_non, ity_bl, ity_int, ity_str, ity_tup, ity_kls, kb_NoneType_NoneType, kb_NoneType_bool, kb_NoneType_int, kb_NoneType_str, kb_NoneType_tuple, kb_NoneType_list, kb_bool_NoneType, kb_bool_bool, kb_bool_int, kb_bool_str, kb_bool_tuple, kb_bool_list, kb_int_NoneType, kb_int_bool, kb_int_int, kb_int_str, kb_int_tuple, kb_int_list, kb_str_NoneType, kb_str_bool, kb_str_int, kb_str_str, kb_str_tuple, kb_str_list, kb_tuple_NoneType, kb_tuple_bool, kb_tuple_int, kb_tuple_str, kb_tuple_tuple, kb_tuple_list, kb_list_NoneType, kb_list_bool, kb_list_int, kb_list_str, kb_list_tuple, kb_list_list, c_kind_height, c_has_ground, c_opened, c_same_shape, c_as_precise, c_value_fits, c_use_fits, c__law_draws, c__law_draw, c__law_number, c__law_same, c__law_kind, c__law_tall, c__law_any_kind, c__law_agreeing, c__law_has, c__law_open, c__law_value, c__law_used, c__law_value_fits, c__law_use_fits, c__law_changed, c_law, c_Kind, so_seq, so_nil, so_set, so_expr, so_ret, so_retN, so_pass, so_brk, so_cnt, so_never, so_raise, so_try, so_ite, ret_bl, ret_int, ret_str, ret_non, e10, e11, e12, d1, if_true, Bool.false_eq_true, if_false, op (k + 1), ixp1, ixp2]
    refine ihV a1 (n - 1) (k + 2) ds (t ++ x) _ h1 (by omega) (by omega) fun v1 d1 hv1 => ?_
    try simp only [ok_ok, ok_noex, ok_var, ok_lit, ok_prim, ok_nil, ok_cons, ok_call, ok_and, ok_or, ok_iteE, ok_chain, ok_meth, ok_attr, ok_join, ok_jnil, ok_jcons, p_not, p_add, p_sub, p_adds, p_muls, p_mulr, p_fdiv, p_mod, p_pow, p_eqi, p_eqs, p_eqb, p_nei, p_nes, p_neb, p_lt, p_le, p_gt, p_ge, p_is, p_isnot, p_lens, p_lent, p_lenk, p_int, p_bool, p_min, p_max, p_tup, p_lst, p_fmts, p_ixt, p_ixs, p_slse, p_slsu, p_isity, p_isigl, bm_rm, bm_st, tr_bl, tr_non, tr_int, tr_tup, tr_kls, tr_str, Mp.isNon, List.getElem?_cons_zero, List.getElem?_cons_succ, List.set_cons_zero, List.set_cons_succ, ity_non, ity_bl, ity_int, ity_str, ity_tup, ity_kls, kb_NoneType_NoneType, kb_NoneType_bool, kb_NoneType_int, kb_NoneType_str, kb_NoneType_tuple, kb_NoneType_list, kb_bool_NoneType, kb_bool_bool, kb_bool_int, kb_bool_str, kb_bool_tuple, kb_bool_list, kb_int_NoneType, kb_int_bool, kb_int_int, kb_int_str, kb_int_tuple, kb_int_list, kb_str_NoneType, kb_str_bool, kb_str_int, kb_str_str, kb_str_tuple, kb_str_list, kb_tuple_NoneType, kb_tuple_bool, kb_tuple_int, kb_tuple_str, kb_tuple_tuple, kb_tuple_list, kb_list_NoneType, kb_list_bool, kb_list_int, kb_list_str, kb_list_tuple, kb_list_list, c_kind_height, c_has_ground, c_opened, c_same_shape, c_as_precise, c_value_fits, c_use_fits, c__law_draws, c__law_draw, c__law_number, c__law_same, c__law_kind, c__law_tall, c__law_any_kind, c__law_agreeing, c__law_has, c__law_open, c__law_value, c__law_used, c__law_value_fits, c__law_use_fits, c__law_changed, c_law, c_Kind, so_seq, so_nil, so_set, so_expr, so_ret, so_retN, so_pass, so_brk, so_cnt, so_never, so_raise, so_try, so_ite, ret_bl, ret_int, ret_str, ret_non, ixp1, ixp2]
    refine ihV a2 (n - 1) (k + 2) d1 (t ++ x) _ h2 (by omega) (by omega) fun v2 d2 hv2 => ?_
    simp only [ok_ok, ok_noex, ok_var, ok_lit, ok_prim, ok_nil, ok_cons, ok_call, ok_and, ok_or, ok_iteE, ok_chain, ok_meth, ok_attr, ok_join, ok_jnil, ok_jcons, p_not, p_add, p_sub, p_adds, p_muls, p_mulr, p_fdiv, p_mod, p_pow, p_eqi, p_eqs, p_eqb, p_nei, p_nes, p_neb, p_lt, p_le, p_gt, p_ge, p_is, p_isnot, p_lens, p_lent, p_lenk, p_int, p_bool, p_min, p_max, p_tup, p_lst, p_fmts, p_ixt, p_ixs, p_slse, p_slsu, p_isity, p_isigl, bm_rm, bm_st, tr_bl, tr_non, tr_int, tr_tup, tr_kls, tr_str, Mp.isNon, List.getElem?_cons_zero, List.getElem?_cons_succ, List.set_cons_zero, List.set_cons_succ, ity_non, ity_bl, ity_int, ity_str, ity_tup, ity_kls, kb_NoneType_NoneType, kb_NoneType_bool, kb_NoneType_int, kb_NoneType_str, kb_NoneType_tuple, kb_NoneType_list, kb_bool_NoneType, kb_bool_bool, kb_bool_int, kb_bool_str, kb_bool_tuple, kb_bool_list, kb_int_NoneType, kb_int_bool, kb_int_int, kb_int_str, kb_int_tuple, kb_int_list, kb_str_NoneType, kb_str_bool, kb_str_int, kb_str_str, kb_str_tuple, kb_str_list, kb_tuple_NoneType, kb_tuple_bool, kb_tuple_int, kb_tuple_str, kb_tuple_tuple, kb_tuple_list, kb_list_NoneType, kb_list_bool, kb_list_int, kb_list_str, kb_list_tuple, kb_list_list, c_kind_height, c_has_ground, c_opened, c_same_shape, c_as_precise, c_value_fits, c_use_fits, c__law_draws, c__law_draw, c__law_number, c__law_same, c__law_kind, c__law_tall, c__law_any_kind, c__law_agreeing, c__law_has, c__law_open, c__law_value, c__law_used, c__law_value_fits, c__law_use_fits, c__law_changed, c_law, c_Kind, so_seq, so_nil, so_set, so_expr, so_ret, so_retN, so_pass, so_brk, so_cnt, so_never, so_raise, so_try, so_ite, ret_bl, ret_int, ret_str, ret_non, c3, true_and]
    refine ofE (ret_li2 (d := vd (.pair v1 v2)) (vd_cl _ _)) (q (.pair v1 v2) d2 ?_)
    show max (vp v1) (vp v2) + 1 ≤ j + 1
    omega
  | fn =>
    obtain ⟨j, rfl, ihV, ihU, a1, a2, h1, h2, op⟩ := hf rfl
    simp only [V2, F__law_value, List.drop_succ_cons, List.drop_zero, gs, ok_ok, ok_noex, ok_var, ok_lit, ok_prim, ok_nil, ok_cons, ok_call, ok_and, ok_or, ok_iteE, ok_chain, ok_meth, ok_attr, ok_join, ok_jnil, ok_jcons, p_not, p_add, p_sub, p_adds, p_muls, p_mulr, p_fdiv, p_mod, p_pow, p_eqi, p_eqs, p_eqb, p_nei, p_nes, p_neb, p_lt, p_le, p_gt, p_ge, p_is, p_isnot, p_lens, p_lent, p_lenk, p_int, p_bool, p_min, p_max, p_tup, p_lst, p_fmts, p_ixt, p_ixs, p_slse, p_slsu, p_isity, p_isigl, bm_rm, bm_st, tr_bl, tr_non, tr_int, tr_tup, tr_kls, tr_str, Mp.isNon, List.getElem?_cons_zero, List.getElem?_cons_succ, List.set_cons_zero, List.set_cons_succ, ity_non, ity_bl, ity_int, ity_str, ity_tup, ity_kls, kb_NoneType_NoneType, kb_NoneType_bool, kb_NoneType_int, kb_NoneType_str, kb_NoneType_tuple, kb_NoneType_list, kb_bool_NoneType, kb_bool_bool, kb_bool_int, kb_bool_str, kb_bool_tuple, kb_bool_list, kb_int_NoneType, kb_int_bool, kb_int_int, kb_int_str, kb_int_tuple, kb_int_list, kb_str_NoneType, kb_str_bool, kb_str_int, kb_str_str, kb_str_tuple, kb_str_list, kb_tuple_NoneType, kb_tuple_bool, kb_tuple_int, kb_tuple_str, kb_tuple_tuple, kb_tuple_list, kb_list_NoneType, kb_list_bool, kb_list_int, kb_list_str, kb_list_tuple, kb_list_list, c_kind_height, c_has_ground, c_opened, c_same_shape, c_as_precise, c_value_fits, c_use_fits, c__law_draws, c__law_draw, c__law_number, c__law_same, c__law_kind, c__law_tall, c__law_any_kind, c__law_agreeing, c__law_has, c__law_open, c__law_value, c__law_used, c__law_value_fits, c__law_use_fits, c__law_changed, c_law, c_Kind, so_seq, so_nil, so_set, so_expr, so_ret, so_retN, so_pass, so_brk, so_cnt, so_never, so_raise, so_try, so_ite, ret_bl, ret_int, ret_str, ret_non, e7, e8, e9, d2, if_true, Bool.false_eq_true, if_false, op (k + 1), ixf1, ixf2]
    refine ihU a1 (n - 1) (k + 2) ds (t ++ x) _ h1 (by omega) (by omega) fun u d1 hu => ?_
    try simp only [ok_ok, ok_noex, ok_var, ok_lit, ok_prim, ok_nil, ok_cons, ok_call, ok_and, ok_or, ok_iteE, ok_chain, ok_meth, ok_attr, ok_join, ok_jnil, ok_jcons, p_not, p_add, p_sub, p_adds, p_muls, p_mulr, p_fdiv, p_mod, p_pow, p_eqi, p_eqs, p_eqb, p_nei, p_nes, p_neb, p_lt, p_le, p_gt, p_ge, p_is, p_isnot, p_lens, p_lent, p_lenk, p_int, p_bool, p_min, p_max, p_tup, p_lst, p_fmts, p_ixt, p_ixs, p_slse, p_slsu, p_isity, p_isigl, bm_rm, bm_st, tr_bl, tr_non, tr_int, tr_tup, tr_kls, tr_str, Mp.isNon, List.getElem?_cons_zero, List.getElem?_cons_succ, List.set_cons_zero, List.set_cons_succ, ity_non, ity_bl, ity_int, ity_str, ity_tup, ity_kls, kb_NoneType_NoneType, kb_NoneType_bool, kb_NoneType_int, kb_NoneType_str, kb_NoneType_tuple, kb_NoneType_list, kb_bool_NoneType, kb_bool_bool, kb_bool_int, kb_bool_str, kb_bool_tuple, kb_bool_list, kb_int_NoneType, kb_int_bool, kb_int_int, kb_int_str, kb_int_tuple, kb_int_list, kb_str_NoneType, kb_str_bool, kb_str_int, kb_str_str, kb_str_tuple, kb_str_list, kb_tuple_NoneType, kb_tuple_bool, kb_tuple_int, kb_tuple_str, kb_tuple_tuple, kb_tuple_list, kb_list_NoneType, kb_list_bool, kb_list_int, kb_list_str, kb_list_tuple, kb_list_list, c_kind_height, c_has_ground, c_opened, c_same_shape, c_as_precise, c_value_fits, c_use_fits, c__law_draws, c__law_draw, c__law_number, c__law_same, c__law_kind, c__law_tall, c__law_any_kind, c__law_agreeing, c__law_has, c__law_open, c__law_value, c__law_used, c__law_value_fits, c__law_use_fits, c__law_changed, c_law, c_Kind, so_seq, so_nil, so_set, so_expr, so_ret, so_retN, so_pass, so_brk, so_cnt, so_never, so_raise, so_try, so_ite, ret_bl, ret_int, ret_str, ret_non, ixf1, ixf2]
    refine draw (k + 1) d1 (t ++ x) 5 (by decide) fun r d2 r0 r1 => ?_
    simp only [ok_ok, ok_noex, ok_var, ok_lit, ok_prim, ok_nil, ok_cons, ok_call, ok_and, ok_or, ok_iteE, ok_chain, ok_meth, ok_attr, ok_join, ok_jnil, ok_jcons, p_not, p_add, p_sub, p_adds, p_muls, p_mulr, p_fdiv, p_mod, p_pow, p_eqi, p_eqs, p_eqb, p_nei, p_nes, p_neb, p_lt, p_le, p_gt, p_ge, p_is, p_isnot, p_lens, p_lent, p_lenk, p_int, p_bool, p_min, p_max, p_tup, p_lst, p_fmts, p_ixt, p_ixs, p_slse, p_slsu, p_isity, p_isigl, bm_rm, bm_st, tr_bl, tr_non, tr_int, tr_tup, tr_kls, tr_str, Mp.isNon, List.getElem?_cons_zero, List.getElem?_cons_succ, List.set_cons_zero, List.set_cons_succ, ity_non, ity_bl, ity_int, ity_str, ity_tup, ity_kls, kb_NoneType_NoneType, kb_NoneType_bool, kb_NoneType_int, kb_NoneType_str, kb_NoneType_tuple, kb_NoneType_list, kb_bool_NoneType, kb_bool_bool, kb_bool_int, kb_bool_str, kb_bool_tuple, kb_bool_list, kb_int_NoneType, kb_int_bool, kb_int_int, kb_int_str, kb_int_tuple, kb_int_list, kb_str_NoneType, kb_str_bool, kb_str_int, kb_str_str, kb_str_tuple, kb_str_list, kb_tuple_NoneType, kb_tuple_bool, kb_tuple_int, kb_tuple_str, kb_tuple_tuple, kb_tuple_list, kb_list_NoneType, kb_list_bool, kb_list_int, kb_list_str, kb_list_tuple, kb_list_list, c_kind_height, c_has_ground, c_opened, c_same_shape, c_as_precise, c_value_fits, c_use_fits, c__law_draws, c__law_draw, c__law_number, c__law_same, c__law_kind, c__law_tall, c__law_any_kind, c__law_agreeing, c__law_has, c__law_open, c__law_value, c__law_used, c__law_value_fits, c__law_use_fits, c__law_changed, c_law, c_Kind, so_seq, so_nil, so_set, so_expr, so_ret, so_retN, so_pass, so_brk, so_cnt, so_never, so_raise, so_try, so_ite, ret_bl, ret_int, ret_str, ret_non]
    by_cases h4 : r = 4
    · simp only [h4, decide_true, if_true]
      refine number k d2 (t ++ x) fun i d3 => ?_
      simp only [ok_ok, ok_noex, ok_var, ok_lit, ok_prim, ok_nil, ok_cons, ok_call, ok_and, ok_or, ok_iteE, ok_chain, ok_meth, ok_attr, ok_join, ok_jnil, ok_jcons, p_not, p_add, p_sub, p_adds, p_muls, p_mulr, p_fdiv, p_mod, p_pow, p_eqi, p_eqs, p_eqb, p_nei, p_nes, p_neb, p_lt, p_le, p_gt, p_ge, p_is, p_isnot, p_lens, p_lent, p_lenk, p_int, p_bool, p_min, p_max, p_tup, p_lst, p_fmts, p_ixt, p_ixs, p_slse, p_slsu, p_isity, p_isigl, bm_rm, bm_st, tr_bl, tr_non, tr_int, tr_tup, tr_kls, tr_str, Mp.isNon, List.getElem?_cons_zero, List.getElem?_cons_succ, List.set_cons_zero, List.set_cons_succ, ity_non, ity_bl, ity_int, ity_str, ity_tup, ity_kls, kb_NoneType_NoneType, kb_NoneType_bool, kb_NoneType_int, kb_NoneType_str, kb_NoneType_tuple, kb_NoneType_list, kb_bool_NoneType, kb_bool_bool, kb_bool_int, kb_bool_str, kb_bool_tuple, kb_bool_list, kb_int_NoneType, kb_int_bool, kb_int_int, kb_int_str, kb_int_tuple, kb_int_list, kb_str_NoneType, kb_str_bool, kb_str_int, kb_str_str, kb_str_tuple, kb_str_list, kb_tuple_NoneType, kb_tuple_bool, kb_tuple_int, kb_tuple_str, kb_tuple_tuple, kb_tuple_list, kb_list_NoneType, kb_list_bool, kb_list_int, kb_list_str, kb_list_tuple, kb_list_list, c_kind_height, c_has_ground, c_opened, c_same_shape, c_as_precise, c_value_fits, c_use_fits, c__law_draws, c__law_draw, c__law_number, c__law_same, c__law_kind, c__law_tall, c__law_any_kind, c__law_agreeing, c__law_has, c__law_open, c__law_value, c__law_used, c__law_value_fits, c__law_use_fits, c__law_changed, c_law, c_Kind, so_seq, so_nil, so_set, so_expr, so_ret, so_retN, so_pass, so_brk, so_cnt, so_never, so_raise, so_try, so_ite, ret_bl, ret_int, ret_str, ret_non, t2, c3, true_and]
      refine ofE (ret_li2 (d := vd (.fnS u i)) (vd_cl _ _)) (q (.fnS u i) d3 ?_)
      show up u + 1 ≤ j + 1
      omega
    · simp only [h4, decide_false, Bool.false_eq_true, if_false]
      refine ihV a2 (n - 1) (k + 2) d2 (t ++ x) _ h2 (by omega) (by omega) fun v2 d3 hv2 => ?_
      simp only [ok_ok, ok_noex, ok_var, ok_lit, ok_prim, ok_nil, ok_cons, ok_call, ok_and, ok_or, ok_iteE, ok_chain, ok_meth, ok_attr, ok_join, ok_jnil, ok_jcons, p_not, p_add, p_sub, p_adds, p_muls, p_mulr, p_fdiv, p_mod, p_pow, p_eqi, p_eqs, p_eqb, p_nei, p_nes, p_neb, p_lt, p_le, p_gt, p_ge, p_is, p_isnot, p_lens, p_lent, p_lenk, p_int, p_bool, p_min, p_max, p_tup, p_lst, p_fmts, p_ixt, p_ixs, p_slse, p_slsu, p_isity, p_isigl, bm_rm, bm_st, tr_bl, tr_non, tr_int, tr_tup, tr_kls, tr_str, Mp.isNon, List.getElem?_cons_zero, List.getElem?_cons_succ, List.set_cons_zero, List.set_cons_succ, ity_non, ity_bl, ity_int, ity_str, ity_tup, ity_kls, kb_NoneType_NoneType, kb_NoneType_bool, kb_NoneType_int, kb_NoneType_str, kb_NoneType_tuple, kb_NoneType_list, kb_bool_NoneType, kb_bool_bool, kb_bool_int, kb_bool_str, kb_bool_tuple, kb_bool_list, kb_int_NoneType, kb_int_bool, kb_int_int, kb_int_str, kb_int_tuple, kb_int_list, kb_str_NoneType, kb_str_bool, kb_str_int, kb_str_str, kb_str_tuple, kb_str_list, kb_tuple_NoneType, kb_tuple_bool, kb_tuple_int, kb_tuple_str, kb_tuple_tuple, kb_tuple_list, kb_list_NoneType, kb_list_bool, kb_list_int, kb_list_str, kb_list_tuple, kb_list_list, c_kind_height, c_has_ground, c_opened, c_same_shape, c_as_precise, c_value_fits, c_use_fits, c__law_draws, c__law_draw, c__law_number, c__law_same, c__law_kind, c__law_tall, c__law_any_kind, c__law_agreeing, c__law_has, c__law_open, c__law_value, c__law_used, c__law_value_fits, c__law_use_fits, c__law_changed, c_law, c_Kind, so_seq, so_nil, so_set, so_expr, so_ret, so_retN, so_pass, so_brk, so_cnt, so_never, so_raise, so_try, so_ite, ret_bl, ret_int, ret_str, ret_non, c3, true_and]
      refine ofE (ret_li2 (d := vd (.fn u v2)) (vd_cl _ _)) (q (.fn u v2) d3 ?_)
      show max (up u) (vp v2) + 1 ≤ j + 1
      omega
theorem utail (m : Nat) (k : Nat) (hk : m + 5 ≤ k) (a : Kn) (n w : Int) (hn : n ≤ (m : Int)) (ds0 ds : List Int) (t : HD) (Q : D → HD → Prop) (q : ∀ u ds', up u ≤ m → Q (ud u) (li ds' :: t)) (g : Str)
    (hf : (g = "fun" ∧ ∃ j, m = j + 1 ∧ VAL j ∧ USE j ∧ ∃ a1 a2, ht a1 ≤ j ∧ ht a2 ≤ j ∧ ∀ (k : Nat) (h : HD), run tb.prog (k + 1) "_law_open" [kd a, .str "fun"] h = .ok (kd (.fn a1 a2)) h) ∨
      (g = "pair" ∧ ∃ j, m = j + 1 ∧ VAL j ∧ USE j ∧ ∃ a1 a2, ht a1 ≤ j ∧ ht a2 ≤ j ∧ ∀ (k : Nat) (h : HD), run tb.prog (k + 1) "_law_open" [kd a, .str "pair"] h = .ok (kd (.pr a1 a2)) h)) :
    sox (fun _ _ _ => False) (exB tb.gi (run tb.prog k) U2 [some (.ref 0), some (kd a), some (.int n), some (.int w), some (.str g), none, none] (li ds :: t)) (fun _ h' => RetQ (li ds0 :: t) Q .non h') (fun d h' => RetQ (li ds0 :: t) Q d h') (fun _ _ => False) (fun _ _ => False) := by
  obtain ⟨k, rfl⟩ : ∃ j, k = j + 2 := ⟨k - 2, by omega⟩
  rcases hf with ⟨rfl, j, rfl, ihV, ihU, a1, a2, h1, h2, op⟩ | ⟨rfl, j, rfl, ihV, ihU, a1, a2, h1, h2, op⟩
  · simp only [U2, F__law_used, List.drop_succ_cons, List.drop_zero, ok_ok, ok_noex, ok_var, ok_lit, ok_prim, ok_nil, ok_cons, ok_call, ok_and, ok_or, ok_iteE, ok_chain, ok_meth, ok_attr, ok_join, ok_jnil, ok_jcons, p_not, p_add, p_sub, p_adds, p_muls, p_mulr, p_fdiv, p_mod, p_pow, p_eqi, p_eqs, p_eqb, p_nei, p_nes, p_neb, p_lt, p_le, p_gt, p_ge, p_is, p_isnot, p_lens, p_lent, p_lenk, p_int, p_bool, p_min, p_max, p_tup, p_lst, p_fmts, p_ixt, p_ixs, p_slse, p_slsu, p_isity, p_isigl, bm_rm, bm_st, tr_bl, tr_non, tr_int, tr_tup, tr_kls, tr_str, Mp.isNon, List.getElem?_cons_zero, List.getElem?_cons_succ, List.set_cons_zero, List.set_cons_succ, ity_non, ity_bl, ity_int, ity_str, ity_tup, ity_kls, kb_NoneType_NoneType, kb_NoneType_bool, kb_NoneType_int, kb_NoneType_str, kb_NoneType_tuple, kb_NoneType_list, kb_bool_NoneType, kb_bool_bool, kb_bool_int, kb_bool_str, kb_bool_tuple, kb_bool_list, kb_int_NoneType, kb_int_bool, kb_int_int, kb_int_str, kb_int_tuple, kb_int_list, kb_str_NoneType, kb_str_bool, kb_str_int, kb_str_str, kb_str_tuple, kb_str_list, kb_tuple_NoneType, kb_tuple_bool, kb_tuple_int, kb_tuple_str, kb_tuple_tuple, kb_tuple_list, kb_list_NoneType, kb_list_bool, kb_list_int, kb_list_str, kb_list_tuple, kb_list_list, c_kind_height, c_has_ground, c_opened, c_same_shape, c_as_precise, c_value_fits, c_use_fits, c__law_draws, c__law_draw, c__law_number, c__law_same, c__law_kind, c__law_tall, c__law_any_kind, c__law_agreeing, c__law_has, c__law_open, c__law_value, c__law_used, c__law_value_fits, c__law_use_fits, c__law_changed, c_law, c_Kind, so_seq, so_nil, so_set, so_expr, so_ret, so_retN, so_pass, so_brk, so_cnt, so_never, so_raise, so_try, so_ite, ret_bl, ret_int, ret_str, ret_non, e13, if_true, op (k + 1), ixf1, ixf2]
    refine ihV a1 (n - 1) (k + 2) ds t _ h1 (by omega) (by omega) fun v1 d1 hv1 => ?_
    try simp only [ok_ok, ok_noex, ok_var, ok_lit, ok_prim, ok_nil, ok_cons, ok_call, ok_and, ok_or, ok_iteE, ok_chain, ok_meth, ok_attr, ok_join, ok_jnil, ok_jcons, p_not, p_add, p_sub, p_adds, p_muls, p_mulr, p_fdiv, p_mod, p_pow, p_eqi, p_eqs, p_eqb, p_nei, p_nes, p_neb, p_lt, p_le, p_gt, p_ge, p_is, p_isnot, p_lens, p_lent, p_lenk, p_int, p_bool, p_min, p_max, p_tup, p_lst, p_fmts, p_ixt, p_ixs, p_slse, p_slsu, p_isity, p_isigl, bm_rm, bm_st, tr_bl, tr_non, tr_int, tr_tup, tr_kls, tr_str, Mp.isNon, List.getElem?_cons_zero, List.getElem?_cons_succ, List.set_cons_zero, List.set_cons_succ, ity_non, ity_bl, ity_int, ity_str, ity_tup, ity_kls, kb_NoneType_NoneType, kb_NoneType_bool, kb_NoneType_int, kb_NoneType_str, kb_NoneType_tuple, kb_NoneType_list, kb_bool_NoneType, kb_bool_bool, kb_bool_int, kb_bool_str, kb_bool_tuple, kb_bool_list, kb_int_NoneType, kb_int_bool, kb_int_int, kb_int_str, kb_int_tuple, kb_int_list, kb_str_NoneType, kb_str_bool, kb_str_int, kb_str_str, kb_str_tuple, kb_str_list, kb_tuple_NoneType, kb_tuple_bool, kb_tuple_int, kb_tuple_str, kb_tuple_tuple, kb_tuple_list, kb_list_NoneType, kb_list_bool, kb_list_int, kb_list_str, kb_list_tuple, kb_list_list, c_kind_height, c_has_ground, c_opened, c_same_shape, c_as_precise, c_value_fits, c_use_fits, c__law_draws, c__law_draw, c__law_number, c__law_same, c__law_kind, c__law_tall, c__law_any_kind, c__law_agreeing, c__law_has, c__law_open, c__law_value, c__law_used, c__law_value_fits, c__law_use_fits, c__law_changed, c_law, c_Kind, so_seq, so_nil, so_set, so_expr, so_ret, so_retN, so_pass, so_brk, so_cnt, so_never, so_raise, so_try, so_ite, ret_bl, ret_int, ret_str, ret_non, ixf1, ixf2]
    refine ihU a2 (n - 1) (k + 2) d1 t _ h2 (by omega) (by omega) fun u2 d2 hu2 => ?_
    simp only [ok_ok, ok_noex, ok_var, ok_lit, ok_prim, ok_nil, ok_cons, ok_call, ok_and, ok_or, ok_iteE, ok_chain, ok_meth, ok_attr, ok_join, ok_jnil, ok_jcons, p_not, p_add, p_sub, p_adds, p_muls, p_mulr, p_fdiv, p_mod, p_pow, p_eqi, p_eqs, p_eqb, p_nei, p_nes, p_neb, p_lt, p_le, p_gt, p_ge, p_is, p_isnot, p_lens, p_lent, p_lenk, p_int, p_bool, p_min, p_max, p_tup, p_lst, p_fmts, p_ixt, p_ixs, p_slse, p_slsu, p_isity, p_isigl, bm_rm, bm_st, tr_bl, tr_non, tr_int, tr_tup, tr_kls, tr_str, Mp.isNon, List.getElem?_cons_zero, List.getElem?_cons_succ, List.set_cons_zero, List.set_cons_succ, ity_non, ity_bl, ity_int, ity_str, ity_tup, ity_kls, kb_NoneType_NoneType, kb_NoneType_bool, kb_NoneType_int, kb_NoneType_str, kb_NoneType_tuple, kb_NoneType_list, kb_bool_NoneType, kb_bool_bool, kb_bool_int, kb_bool_str, kb_bool_tuple, kb_bool_list, kb_int_NoneType, kb_int_bool, kb_int_int, kb_int_str, kb_int_tuple, kb_int_list, kb_str_NoneType, kb_str_bool, kb_str_int, kb_str_str, kb_str_tuple, kb_str_list, kb_tuple_NoneType, kb_tuple_bool, kb_tuple_int, kb_tuple_str, kb_tuple_tuple, kb_tuple_list, kb_list_NoneType, kb_list_bool, kb_list_int, kb_list_str, kb_list_tuple, kb_list_list, c_kind_height, c_has_ground, c_opened, c_same_shape, c_as_precise, c_value_fits, c_use_fits, c__law_draws, c__law_draw, c__law_number, c__law_same, c__law_kind, c__law_tall, c__law_any_kind, c__law_agreeing, c__law_has, c__law_open, c__law_value, c__law_used, c__law_value_fits, c__law_use_fits, c__law_changed, c_law, c_Kind, so_seq, so_nil, so_set, so_expr, so_ret, so_retN, so_pass, so_brk, so_cnt, so_never, so_raise, so_try, so_ite, ret_bl, ret_int, ret_str, ret_non, c3, true_and]
    refine ofE (ret_li (d := ud (.call v1 u2)) (ud_cl _ _)) (q (.call v1 u2) d2 ?_)
    show max (vp v1) (up u2) + 1 ≤ j + 1
    omega
  · simp only [U2, F__law_used, List.drop_succ_cons, List.drop_zero, ok_ok, ok_noex, ok_var, ok_lit, ok_prim, ok_nil, ok_cons, ok_call, ok_and, ok_or, ok_iteE, ok_chain, ok_meth, ok_attr, ok_join, ok_jnil, ok_jcons, p_not, p_add, p_sub, p_adds, p_muls, p_mulr, p_fdiv, p_mod, p_pow, p_eqi, p_eqs, p_eqb, p_nei, p_nes, p_neb, p_lt, p_le, p_gt, p_ge, p_is, p_isnot, p_lens, p_lent, p_lenk, p_int, p_bool, p_min, p_max, p_tup, p_lst, p_fmts, p_ixt, p_ixs, p_slse, p_slsu, p_isity, p_isigl, bm_rm, bm_st, tr_bl, tr_non, tr_int, tr_tup, tr_kls, tr_str, Mp.isNon, List.getElem?_cons_zero, List.getElem?_cons_succ, List.set_cons_zero, List.set_cons_succ, ity_non, ity_bl, ity_int, ity_str, ity_tup, ity_kls, kb_NoneType_NoneType, kb_NoneType_bool, kb_NoneType_int, kb_NoneType_str, kb_NoneType_tuple, kb_NoneType_list, kb_bool_NoneType, kb_bool_bool, kb_bool_int, kb_bool_str, kb_bool_tuple, kb_bool_list, kb_int_NoneType, kb_int_bool, kb_int_int, kb_int_str, kb_int_tuple, kb_int_list, kb_str_NoneType, kb_str_bool, kb_str_int, kb_str_str, kb_str_tuple, kb_str_list, kb_tuple_NoneType, kb_tuple_bool, kb_tuple_int, kb_tuple_str, kb_tuple_tuple, kb_tuple_list, kb_list_NoneType, kb_list_bool, kb_list_int, kb_list_str, kb_list_tuple, kb_list_list, c_kind_height, c_has_ground, c_opened, c_same_shape, c_as_precise, c_value_fits, c_use_fits, c__law_draws, c__law_draw, c__law_number, c__law_same, c__law_kind, c__law_tall, c__law_any_kind, c__law_agreeing, c__law_has, c__law_open, c__law_value, c__law_used, c__law_value_fits, c__law_use_fits, c__law_changed, c_law, c_Kind, so_seq, so_nil, so_set, so_expr, so_ret, so_retN, so_pass, so_brk, so_cnt, so_never, so_raise, so_try, so_ite, ret_bl, ret_int, ret_str, ret_non, e14, Bool.false_eq_true, if_false, op (k + 1), ixp1, ixp2]
    refine draw (k + 1) ds t 2 (by decide) fun r d1 r0 r1 => ?_
    simp only [ok_ok, ok_noex, ok_var, ok_lit, ok_prim, ok_nil, ok_cons, ok_call, ok_and, ok_or, ok_iteE, ok_chain, ok_meth, ok_attr, ok_join, ok_jnil, ok_jcons, p_not, p_add, p_sub, p_adds, p_muls, p_mulr, p_fdiv, p_mod, p_pow, p_eqi, p_eqs, p_eqb, p_nei, p_nes, p_neb, p_lt, p_le, p_gt, p_ge, p_is, p_isnot, p_lens, p_lent, p_lenk, p_int, p_bool, p_min, p_max, p_tup, p_lst, p_fmts, p_ixt, p_ixs, p_slse, p_slsu, p_isity, p_isigl, bm_rm, bm_st, tr_bl, tr_non, tr_int, tr_tup, tr_kls, tr_str, Mp.isNon, List.getElem?_cons_zero, List.getElem?_cons_succ, List.set_cons_zero, List.set_cons_succ, ity_non, ity_bl, ity_int, ity_str, ity_tup, ity_kls, kb_NoneType_NoneType, kb_NoneType_bool, kb_NoneType_int, kb_NoneType_str, kb_NoneType_tuple, kb_NoneType_list, kb_bool_NoneType, kb_bool_bool, kb_bool_int, kb_bool_str, kb_bool_tuple, kb_bool_list, kb_int_NoneType, kb_int_bool, kb_int_int, kb_int_str, kb_int_tuple, kb_int_list, kb_str_NoneType, kb_str_bool, kb_str_int, kb_str_str, kb_str_tuple, kb_str_list, kb_tuple_NoneType, kb_tuple_bool, kb_tuple_int, kb_tuple_str, kb_tuple_tuple, kb_tuple_list, kb_list_NoneType, kb_list_bool, kb_list_int, kb_list_str, kb_list_tuple, kb_list_list, c_kind_height, c_has_ground, c_opened, c_same_shape, c_as_precise, c_value_fits, c_use_fits, c__law_draws, c__law_draw, c__law_number, c__law_same, c__law_kind, c__law_tall, c__law_any_kind, c__law_agreeing, c__law_has, c__law_open, c__law_value, c__law_used, c__law_value_fits, c__law_use_fits, c__law_changed, c_law, c_Kind, so_seq, so_nil, so_set, so_expr, so_ret, so_retN, so_pass, so_brk, so_cnt, so_never, so_raise, so_try, so_ite, ret_bl, ret_int, ret_str, ret_non]
    by_cases h0 : r = 0
    · simp only [h0, decide_true, if_true, ixp1]
      refine ihU a1 (n - 1) (k + 2) d1 t _ h1 (by omega) (by omega) fun u2 d2 hu2 => ?_
      simp only [ok_ok, ok_noex, ok_var, ok_lit, ok_prim, ok_nil, ok_cons, ok_call, ok_and, ok_or, ok_iteE, ok_chain, ok_meth, ok_attr, ok_join, ok_jnil, ok_jcons, p_not, p_add, p_sub, p_adds, p_muls, p_mulr, p_fdiv, p_mod, p_pow, p_eqi, p_eqs, p_eqb, p_nei, p_nes, p_neb, p_lt, p_le, p_gt, p_ge, p_is, p_isnot, p_lens, p_lent, p_lenk, p_int, p_bool, p_min, p_max, p_tup, p_lst, p_fmts, p_ixt, p_ixs, p_slse, p_slsu, p_isity, p_isigl, bm_rm, bm_st, tr_bl, tr_non, tr_int, tr_tup, tr_kls, tr_str, Mp.isNon, List.getElem?_cons_zero, List.getElem?_cons_succ, List.set_cons_zero, List.set_cons_succ, ity_non, ity_bl, ity_int, ity_str, ity_tup, ity_kls, kb_NoneType_NoneType, kb_NoneType_bool, kb_NoneType_int, kb_NoneType_str, kb_NoneType_tuple, kb_NoneType_list, kb_bool_NoneType, kb_bool_bool, kb_bool_int, kb_bool_str, kb_bool_tuple, kb_bool_list, kb_int_NoneType, kb_int_bool, kb_int_int, kb_int_str, kb_int_tuple, kb_int_list, kb_str_NoneType, kb_str_bool, kb_str_int, kb_str_str, kb_str_tuple, kb_str_list, kb_tuple_NoneType, kb_tuple_bool, kb_tuple_int, kb_tuple_str, kb_tuple_tuple, kb_tuple_list, kb_list_NoneType, kb_list_bool, kb_list_int, kb_list_str, kb_list_tuple, kb_list_list, c_kind_height, c_has_ground, c_opened, c_same_shape, c_as_precise, c_value_fits, c_use_fits, c__law_draws, c__law_draw, c__law_number, c__law_same, c__law_kind, c__law_tall, c__law_any_kind, c__law_agreeing, c__law_has, c__law_open, c__law_value, c__law_used, c__law_value_fits, c__law_use_fits, c__law_changed, c_law, c_Kind, so_seq, so_nil, so_set, so_expr, so_ret, so_retN, so_pass, so_brk, so_cnt, so_never, so_raise, so_try, so_ite, ret_bl, ret_int, ret_str, ret_non, t2, true_and]
      refine ofE (ret_li (d := ud (.first u2)) (ud_cl _ _)) (q (.first u2) d2 ?_)
      show up u2 + 1 ≤ j + 1
      omega
    · simp only [h0, decide_false, Bool.false_eq_true, if_false, ixp2]
      refine ihU a2 (n - 1) (k + 2) d1 t _ h2 (by omega) (by omega) fun u2 d2 hu2 => ?_
      simp only [ok_ok, ok_noex, ok_var, ok_lit, ok_prim, ok_nil, ok_cons, ok_call, ok_and, ok_or, ok_iteE, ok_chain, ok_meth, ok_attr, ok_join, ok_jnil, ok_jcons, p_not, p_add, p_sub, p_adds, p_muls, p_mulr, p_fdiv, p_mod, p_pow, p_eqi, p_eqs, p_eqb, p_nei, p_nes, p_neb, p_lt, p_le, p_gt, p_ge, p_is, p_isnot, p_lens, p_lent, p_lenk, p_int, p_bool, p_min, p_max, p_tup, p_lst, p_fmts, p_ixt, p_ixs, p_slse, p_slsu, p_isity, p_isigl, bm_rm, bm_st, tr_bl, tr_non, tr_int, tr_tup, tr_kls, tr_str, Mp.isNon, List.getElem?_cons_zero, List.getElem?_cons_succ, List.set_cons_zero, List.set_cons_succ, ity_non, ity_bl, ity_int, ity_str, ity_tup, ity_kls, kb_NoneType_NoneType, kb_NoneType_bool, kb_NoneType_int, kb_NoneType_str, kb_NoneType_tuple, kb_NoneType_list, kb_bool_NoneType, kb_bool_bool, kb_bool_int, kb_bool_str, kb_bool_tuple, kb_bool_list, kb_int_NoneType, kb_int_bool, kb_int_int, kb_int_str, kb_int_tuple, kb_int_list, kb_str_NoneType, kb_str_bool, kb_str_int, kb_str_str, kb_str_tuple, kb_str_list, kb_tuple_NoneType, kb_tuple_bool, kb_tuple_int, kb_tuple_str, kb_tuple_tuple, kb_tuple_list, kb_list_NoneType, kb_list_bool, kb_list_int, kb_list_str, kb_list_tuple, kb_list_list, c_kind_height, c_has_ground, c_opened, c_same_shape, c_as_precise, c_value_fits, c_use_fits, c__law_draws, c__law_draw, c__law_number, c__law_same, c__law_kind, c__law_tall, c__law_any_kind, c__law_agreeing, c__law_has, c__law_open, c__law_value, c__law_used, c__law_value_fits, c__law_use_fits, c__law_changed, c_law, c_Kind, so_seq, so_nil, so_set, so_expr, so_ret, so_retN, so_pass, so_brk, so_cnt, so_never, so_raise, so_try, so_ite, ret_bl, ret_int, ret_str, ret_non, t2, true_and]
      refine ofE (ret_li (d := ud (.second u2)) (ud_cl _ _)) (q (.second u2) d2 ?_)
      show up u2 + 1 ≤ j + 1
      omega
def isB : Kn → Bool
  | .int => true
  | .bool => true
  | .unit => true
  | _ => false
theorem inb_k (a : Kn) (h : HD) (ha : ht a ≤ 60) : inD (kd a) (.tup bt3) h = some (isB a) := by
  have deep : ∀ x y z : D, (D.tup [x, y, z]).pure = true → (D.tup [x, y, z]).dep ≤ 60 → inD (.tup [x, y, z]) (.tup bt3) h = some false := fun x y z h1 h2 => by
    have e : purs bt3 = true := by decide +kernel
    show (if (false && bt3.all D.flat) = true then some (memD (.tup [x, y, z]) bt3) else if ((D.tup [x, y, z]).pure && purs bt3 && decide ((D.tup [x, y, z]).dep ≤ 60)) = true then some (memD (.tup [x, y, z]) bt3) else none) = _
    rw [h1, e, decide_eq_true h2]
    rfl
  have hp := kd_pure a
  have hd := kd_dep a
  cases a with
  | unk => show some _ = some false; decide +kernel
  | int => show some _ = some true; decide +kernel
  | bool => show some _ = some true; decide +kernel
  | unit => show some _ = some true; decide +kernel
  | fn a b => exact deep _ _ _ hp (by rw [show (D.tup [.str "fun", kd a, kd b]).dep = _ from hd]; exact ha)
  | pr a b => exact deep _ _ _ hp (by rw [show (D.tup [.str "pair", kd a, kd b]).dep = _ from hd]; exact ha)
theorem infp (g : Gd) (h : HD) : inD (.str (gs g)) (.tup [.str "fun", .str "pair"]) h = some (match g with | .fn => true | .pr => true | _ => false) := by
  cases g <;> (show some _ = some _; decide +kernel)
theorem lop_f (a1 a2 : Kn) (h : ht (.fn a1 a2) ≤ 64) (k : Nat) (hh : HD) : run tb.prog (k + 1) "_law_open" [kd (.fn a1 a2), .str "fun"] hh = .ok (kd (.fn a1 a2)) hh := by
  apply of_ok
  simp only [r__law_open, F__law_open, ok_ok, ok_noex, ok_var, ok_lit, ok_prim, ok_nil, ok_cons, ok_call, ok_and, ok_or, ok_iteE, ok_chain, ok_meth, ok_attr, ok_join, ok_jnil, ok_jcons, p_not, p_add, p_sub, p_adds, p_muls, p_mulr, p_fdiv, p_mod, p_pow, p_eqi, p_eqs, p_eqb, p_nei, p_nes, p_neb, p_lt, p_le, p_gt, p_ge, p_is, p_isnot, p_lens, p_lent, p_lenk, p_int, p_bool, p_min, p_max, p_tup, p_lst, p_fmts, p_ixt, p_ixs, p_slse, p_slsu, p_isity, p_isigl, bm_rm, bm_st, tr_bl, tr_non, tr_int, tr_tup, tr_kls, tr_str, Mp.isNon, List.getElem?_cons_zero, List.getElem?_cons_succ, List.set_cons_zero, List.set_cons_succ, ity_non, ity_bl, ity_int, ity_str, ity_tup, ity_kls, kb_NoneType_NoneType, kb_NoneType_bool, kb_NoneType_int, kb_NoneType_str, kb_NoneType_tuple, kb_NoneType_list, kb_bool_NoneType, kb_bool_bool, kb_bool_int, kb_bool_str, kb_bool_tuple, kb_bool_list, kb_int_NoneType, kb_int_bool, kb_int_int, kb_int_str, kb_int_tuple, kb_int_list, kb_str_NoneType, kb_str_bool, kb_str_int, kb_str_str, kb_str_tuple, kb_str_list, kb_tuple_NoneType, kb_tuple_bool, kb_tuple_int, kb_tuple_str, kb_tuple_tuple, kb_tuple_list, kb_list_NoneType, kb_list_bool, kb_list_int, kb_list_str, kb_list_tuple, kb_list_list, c_kind_height, c_has_ground, c_opened, c_same_shape, c_as_precise, c_value_fits, c_use_fits, c__law_draws, c__law_draw, c__law_number, c__law_same, c__law_kind, c__law_tall, c__law_any_kind, c__law_agreeing, c__law_has, c__law_open, c__law_value, c__law_used, c__law_value_fits, c__law_use_fits, c__law_changed, c_law, c_Kind, so_seq, so_nil, so_set, so_expr, so_ret, so_retN, so_pass, so_brk, so_cnt, so_never, so_raise, so_try, so_ite, ret_bl, ret_int, ret_str, ret_non, p_equ (.fn a1 a2) h, isU, Bool.false_eq_true, if_false]
  exact ⟨rfl, gc_id (kd_cl _ _)⟩
theorem lop_p (a1 a2 : Kn) (h : ht (.pr a1 a2) ≤ 64) (k : Nat) (hh : HD) : run tb.prog (k + 1) "_law_open" [kd (.pr a1 a2), .str "pair"] hh = .ok (kd (.pr a1 a2)) hh := by
  apply of_ok
  simp only [r__law_open, F__law_open, ok_ok, ok_noex, ok_var, ok_lit, ok_prim, ok_nil, ok_cons, ok_call, ok_and, ok_or, ok_iteE, ok_chain, ok_meth, ok_attr, ok_join, ok_jnil, ok_jcons, p_not, p_add, p_sub, p_adds, p_muls, p_mulr, p_fdiv, p_mod, p_pow, p_eqi, p_eqs, p_eqb, p_nei, p_nes, p_neb, p_lt, p_le, p_gt, p_ge, p_is, p_isnot, p_lens, p_lent, p_lenk, p_int, p_bool, p_min, p_max, p_tup, p_lst, p_fmts, p_ixt, p_ixs, p_slse, p_slsu, p_isity, p_isigl, bm_rm, bm_st, tr_bl, tr_non, tr_int, tr_tup, tr_kls, tr_str, Mp.isNon, List.getElem?_cons_zero, List.getElem?_cons_succ, List.set_cons_zero, List.set_cons_succ, ity_non, ity_bl, ity_int, ity_str, ity_tup, ity_kls, kb_NoneType_NoneType, kb_NoneType_bool, kb_NoneType_int, kb_NoneType_str, kb_NoneType_tuple, kb_NoneType_list, kb_bool_NoneType, kb_bool_bool, kb_bool_int, kb_bool_str, kb_bool_tuple, kb_bool_list, kb_int_NoneType, kb_int_bool, kb_int_int, kb_int_str, kb_int_tuple, kb_int_list, kb_str_NoneType, kb_str_bool, kb_str_int, kb_str_str, kb_str_tuple, kb_str_list, kb_tuple_NoneType, kb_tuple_bool, kb_tuple_int, kb_tuple_str, kb_tuple_tuple, kb_tuple_list, kb_list_NoneType, kb_list_bool, kb_list_int, kb_list_str, kb_list_tuple, kb_list_list, c_kind_height, c_has_ground, c_opened, c_same_shape, c_as_precise, c_value_fits, c_use_fits, c__law_draws, c__law_draw, c__law_number, c__law_same, c__law_kind, c__law_tall, c__law_any_kind, c__law_agreeing, c__law_has, c__law_open, c__law_value, c__law_used, c__law_value_fits, c__law_use_fits, c__law_changed, c_law, c_Kind, so_seq, so_nil, so_set, so_expr, so_ret, so_retN, so_pass, so_brk, so_cnt, so_never, so_raise, so_try, so_ite, ret_bl, ret_int, ret_str, ret_non, p_equ (.pr a1 a2) h, isU, Bool.false_eq_true, if_false]
  exact ⟨rfl, gc_id (kd_cl _ _)⟩
theorem lop_uf (k : Nat) (hh : HD) : run tb.prog (k + 1) "_law_open" [kd .unk, .str "fun"] hh = .ok (kd (.fn .unk .unk)) hh := by
  apply of_ok
  simp only [r__law_open, F__law_open, ok_ok, ok_noex, ok_var, ok_lit, ok_prim, ok_nil, ok_cons, ok_call, ok_and, ok_or, ok_iteE, ok_chain, ok_meth, ok_attr, ok_join, ok_jnil, ok_jcons, p_not, p_add, p_sub, p_adds, p_muls, p_mulr, p_fdiv, p_mod, p_pow, p_eqi, p_eqs, p_eqb, p_nei, p_nes, p_neb, p_lt, p_le, p_gt, p_ge, p_is, p_isnot, p_lens, p_lent, p_lenk, p_int, p_bool, p_min, p_max, p_tup, p_lst, p_fmts, p_ixt, p_ixs, p_slse, p_slsu, p_isity, p_isigl, bm_rm, bm_st, tr_bl, tr_non, tr_int, tr_tup, tr_kls, tr_str, Mp.isNon, List.getElem?_cons_zero, List.getElem?_cons_succ, List.set_cons_zero, List.set_cons_succ, ity_non, ity_bl, ity_int, ity_str, ity_tup, ity_kls, kb_NoneType_NoneType, kb_NoneType_bool, kb_NoneType_int, kb_NoneType_str, kb_NoneType_tuple, kb_NoneType_list, kb_bool_NoneType, kb_bool_bool, kb_bool_int, kb_bool_str, kb_bool_tuple, kb_bool_list, kb_int_NoneType, kb_int_bool, kb_int_int, kb_int_str, kb_int_tuple, kb_int_list, kb_str_NoneType, kb_str_bool, kb_str_int, kb_str_str, kb_str_tuple, kb_str_list, kb_tuple_NoneType, kb_tuple_bool, kb_tuple_int, kb_tuple_str, kb_tuple_tuple, kb_tuple_list, kb_list_NoneType, kb_list_bool, kb_list_int, kb_list_str, kb_list_tuple, kb_list_list, c_kind_height, c_has_ground, c_opened, c_same_shape, c_as_precise, c_value_fits, c_use_fits, c__law_draws, c__law_draw, c__law_number, c__law_same, c__law_kind, c__law_tall, c__law_any_kind, c__law_agreeing, c__law_has, c__law_open, c__law_value, c__law_used, c__law_value_fits, c__law_use_fits, c__law_changed, c_law, c_Kind, so_seq, so_nil, so_set, so_expr, so_ret, so_retN, so_pass, so_brk, so_cnt, so_never, so_raise, so_try, so_ite, ret_bl, ret_int, ret_str, ret_non, p_equ .unk (by decide), isU, if_true, c3, true_and]
  exact ⟨rfl, gc_id rfl⟩
theorem lop_up (k : Nat) (hh : HD) : run tb.prog (k + 1) "_law_open" [kd .unk, .str "pair"] hh = .ok (kd (.pr .unk .unk)) hh := by
  apply of_ok
  simp only [r__law_open, F__law_open, ok_ok, ok_noex, ok_var, ok_lit, ok_prim, ok_nil, ok_cons, ok_call, ok_and, ok_or, ok_iteE, ok_chain, ok_meth, ok_attr, ok_join, ok_jnil, ok_jcons, p_not, p_add, p_sub, p_adds, p_muls, p_mulr, p_fdiv, p_mod, p_pow, p_eqi, p_eqs, p_eqb, p_nei, p_nes, p_neb, p_lt, p_le, p_gt, p_ge, p_is, p_isnot, p_lens, p_lent, p_lenk, p_int, p_bool, p_min, p_max, p_tup, p_lst, p_fmts, p_ixt, p_ixs, p_slse, p_slsu, p_isity, p_isigl, bm_rm, bm_st, tr_bl, tr_non, tr_int, tr_tup, tr_kls, tr_str, Mp.isNon, List.getElem?_cons_zero, List.getElem?_cons_succ, List.set_cons_zero, List.set_cons_succ, ity_non, ity_bl, ity_int, ity_str, ity_tup, ity_kls, kb_NoneType_NoneType, kb_NoneType_bool, kb_NoneType_int, kb_NoneType_str, kb_NoneType_tuple, kb_NoneType_list, kb_bool_NoneType, kb_bool_bool, kb_bool_int, kb_bool_str, kb_bool_tuple, kb_bool_list, kb_int_NoneType, kb_int_bool, kb_int_int, kb_int_str, kb_int_tuple, kb_int_list, kb_str_NoneType, kb_str_bool, kb_str_int, kb_str_str, kb_str_tuple, kb_str_list, kb_tuple_NoneType, kb_tuple_bool, kb_tuple_int, kb_tuple_str, kb_tuple_tuple, kb_tuple_list, kb_list_NoneType, kb_list_bool, kb_list_int, kb_list_str, kb_list_tuple, kb_list_list, c_kind_height, c_has_ground, c_opened, c_same_shape, c_as_precise, c_value_fits, c_use_fits, c__law_draws, c__law_draw, c__law_number, c__law_same, c__law_kind, c__law_tall, c__law_any_kind, c__law_agreeing, c__law_has, c__law_open, c__law_value, c__law_used, c__law_value_fits, c__law_use_fits, c__law_changed, c_law, c_Kind, so_seq, so_nil, so_set, so_expr, so_ret, so_retN, so_pass, so_brk, so_cnt, so_never, so_raise, so_try, so_ite, ret_bl, ret_int, ret_str, ret_non, p_equ .unk (by decide), isU, if_true, c3, true_and]
  exact ⟨rfl, gc_id rfl⟩
theorem val_step (m : Nat) (h60 : m ≤ 60) (ih : ∀ j, m = j + 1 → VAL j ∧ USE j) : VAL m := by
  intro a n k ds t Q ha hn hk q
  obtain ⟨k, rfl⟩ : ∃ j, k = j + 1 := ⟨k - 1, by omega⟩
  rw [r__law_value, V2_eq]
  cases a with
  | unk =>
    simp only [ok_ok, ok_noex, ok_var, ok_lit, ok_prim, ok_nil, ok_cons, ok_call, ok_and, ok_or, ok_iteE, ok_chain, ok_meth, ok_attr, ok_join, ok_jnil, ok_jcons, p_not, p_add, p_sub, p_adds, p_muls, p_mulr, p_fdiv, p_mod, p_pow, p_eqi, p_eqs, p_eqb, p_nei, p_nes, p_neb, p_lt, p_le, p_gt, p_ge, p_is, p_isnot, p_lens, p_lent, p_lenk, p_int, p_bool, p_min, p_max, p_tup, p_lst, p_fmts, p_ixt, p_ixs, p_slse, p_slsu, p_isity, p_isigl, bm_rm, bm_st, tr_bl, tr_non, tr_int, tr_tup, tr_kls, tr_str, Mp.isNon, List.getElem?_cons_zero, List.getElem?_cons_succ, List.set_cons_zero, List.set_cons_succ, ity_non, ity_bl, ity_int, ity_str, ity_tup, ity_kls, kb_NoneType_NoneType, kb_NoneType_bool, kb_NoneType_int, kb_NoneType_str, kb_NoneType_tuple, kb_NoneType_list, kb_bool_NoneType, kb_bool_bool, kb_bool_int, kb_bool_str, kb_bool_tuple, kb_bool_list, kb_int_NoneType, kb_int_bool, kb_int_int, kb_int_str, kb_int_tuple, kb_int_list, kb_str_NoneType, kb_str_bool, kb_str_int, kb_str_str, kb_str_tuple, kb_str_list, kb_tuple_NoneType, kb_tuple_bool, kb_tuple_int, kb_tuple_str, kb_tuple_tuple, kb_tuple_list, kb_list_NoneType, kb_list_bool, kb_list_int, kb_list_str, kb_list_tuple, kb_list_list, c_kind_height, c_has_ground, c_opened, c_same_shape, c_as_precise, c_value_fits, c_use_fits, c__law_draws, c__law_draw, c__law_number, c__law_same, c__law_kind, c__law_tall, c__law_any_kind, c__law_agreeing, c__law_has, c__law_open, c__law_value, c__law_used, c__law_value_fits, c__law_use_fits, c__law_changed, c_law, c_Kind, so_seq, so_nil, so_set, so_expr, so_ret, so_retN, so_pass, so_brk, so_cnt, so_never, so_raise, so_try, so_ite, ret_bl, ret_int, ret_str, ret_non, p_equ .unk (by decide), isU, if_true]
    refine ⟨(by decide : 5 ≤ cap), ?_⟩
    obtain ⟨k, rfl⟩ : ∃ j, k = j + 1 := ⟨k - 1, by omega⟩
    refine draw k ds _ 5 (by decide) fun r d1 r0 r1 => ?_
    obtain ⟨g, e⟩ := l5_at r0 r1
    refine ofE (p_ixl r (lst_at (li d1 :: t) _)) ?_
    rw [e]
    simp only [ok_ok, ok_noex, ok_var, ok_lit, ok_prim, ok_nil, ok_cons, ok_call, ok_and, ok_or, ok_iteE, ok_chain, ok_meth, ok_attr, ok_join, ok_jnil, ok_jcons, p_not, p_add, p_sub, p_adds, p_muls, p_mulr, p_fdiv, p_mod, p_pow, p_eqi, p_eqs, p_eqb, p_nei, p_nes, p_neb, p_lt, p_le, p_gt, p_ge, p_is, p_isnot, p_lens, p_lent, p_lenk, p_int, p_bool, p_min, p_max, p_tup, p_lst, p_fmts, p_ixt, p_ixs, p_slse, p_slsu, p_isity, p_isigl, bm_rm, bm_st, tr_bl, tr_non, tr_int, tr_tup, tr_kls, tr_str, Mp.isNon, List.getElem?_cons_zero, List.getElem?_cons_succ, List.set_cons_zero, List.set_cons_succ, ity_non, ity_bl, ity_int, ity_str, ity_tup, ity_kls, kb_NoneType_NoneType, kb_NoneType_bool, kb_NoneType_int, kb_NoneType_str, kb_NoneType_tuple, kb_NoneType_list, kb_bool_NoneType, kb_bool_bool, kb_bool_int, kb_bool_str, kb_bool_tuple, kb_bool_list, kb_int_NoneType, kb_int_bool, kb_int_int, kb_int_str, kb_int_tuple, kb_int_list, kb_str_NoneType, kb_str_bool, kb_str_int, kb_str_str, kb_str_tuple, kb_str_list, kb_tuple_NoneType, kb_tuple_bool, kb_tuple_int, kb_tuple_str, kb_tuple_tuple, kb_tuple_list, kb_list_NoneType, kb_list_bool, kb_list_int, kb_list_str, kb_list_tuple, kb_list_list, c_kind_height, c_has_ground, c_opened, c_same_shape, c_as_precise, c_value_fits, c_use_fits, c__law_draws, c__law_draw, c__law_number, c__law_same, c__law_kind, c__law_tall, c__law_any_kind, c__law_agreeing, c__law_has, c__law_open, c__law_value, c__law_used, c__law_value_fits, c__law_use_fits, c__law_changed, c_law, c_Kind, so_seq, so_nil, so_set, so_expr, so_ret, so_retN, so_pass, so_brk, so_cnt, so_never, so_raise, so_try, so_ite, ret_bl, ret_int, ret_str, ret_non]
    have tl := fun g hf hp => vtail m (k + 1) (by omega) .unk n hn ds d1 t [.lst l5] Q q g hf hp
    by_cases h0 : n ≤ 0
    · simp only [h0, decide_true, if_true, p_intu, infp]
      refine ⟨(by decide : 2 ≤ cap), ?_⟩
      cases g with
      | fn => exact tl .int (fun z => by cases z) (fun z => by cases z)
      | pr => exact tl .int (fun z => by cases z) (fun z => by cases z)
      | int => exact tl .int (fun z => by cases z) (fun z => by cases z)
      | bool => exact tl .bool (fun z => by cases z) (fun z => by cases z)
      | unit => exact tl .unit (fun z => by cases z) (fun z => by cases z)
    · simp only [h0, decide_false, Bool.false_eq_true, if_false]
      obtain ⟨j, rfl⟩ : ∃ j, m = j + 1 := ⟨m - 1, by omega⟩
      obtain ⟨i1, i2⟩ := ih j rfl
      exact tl g (fun _ => ⟨j, rfl, i1, i2, .unk, .unk, Nat.zero_le _, Nat.zero_le _, lop_uf⟩) (fun _ => ⟨j, rfl, i1, i2, .unk, .unk, Nat.zero_le _, Nat.zero_le _, lop_up⟩)
  | fn a1 a2 =>
    have ha' : max (ht a1) (ht a2) + 1 ≤ m := ha
    obtain ⟨j, rfl⟩ : ∃ j, m = j + 1 := ⟨m - 1, by omega⟩
    obtain ⟨i1, i2⟩ := ih j rfl
    have tl := vtail (j + 1) k (by omega) (.fn a1 a2) n hn ds ds t [] Q q .fn (fun _ => ⟨j, rfl, i1, i2, a1, a2, by omega, by omega, lop_f a1 a2 (by omega)⟩) (fun z => by cases z)
    rw [List.append_nil] at tl
    simp only [ok_ok, ok_noex, ok_var, ok_lit, ok_prim, ok_nil, ok_cons, ok_call, ok_and, ok_or, ok_iteE, ok_chain, ok_meth, ok_attr, ok_join, ok_jnil, ok_jcons, p_not, p_add, p_sub, p_adds, p_muls, p_mulr, p_fdiv, p_mod, p_pow, p_eqi, p_eqs, p_eqb, p_nei, p_nes, p_neb, p_lt, p_le, p_gt, p_ge, p_is, p_isnot, p_lens, p_lent, p_lenk, p_int, p_bool, p_min, p_max, p_tup, p_lst, p_fmts, p_ixt, p_ixs, p_slse, p_slsu, p_isity, p_isigl, bm_rm, bm_st, tr_bl, tr_non, tr_int, tr_tup, tr_kls, tr_str, Mp.isNon, List.getElem?_cons_zero, List.getElem?_cons_succ, List.set_cons_zero, List.set_cons_succ, ity_non, ity_bl, ity_int, ity_str, ity_tup, ity_kls, kb_NoneType_NoneType, kb_NoneType_bool, kb_NoneType_int, kb_NoneType_str, kb_NoneType_tuple, kb_NoneType_list, kb_bool_NoneType, kb_bool_bool, kb_bool_int, kb_bool_str, kb_bool_tuple, kb_bool_list, kb_int_NoneType, kb_int_bool, kb_int_int, kb_int_str, kb_int_tuple, kb_int_list, kb_str_NoneType, kb_str_bool, kb_str_int, kb_str_str, kb_str_tuple, kb_str_list, kb_tuple_NoneType, kb_tuple_bool, kb_tuple_int, kb_tuple_str, kb_tuple_tuple, kb_tuple_list, kb_list_NoneType, kb_list_bool, kb_list_int, kb_list_str, kb_list_tuple, kb_list_list, c_kind_height, c_has_ground, c_opened, c_same_shape, c_as_precise, c_value_fits, c_use_fits, c__law_draws, c__law_draw, c__law_number, c__law_same, c__law_kind, c__law_tall, c__law_any_kind, c__law_agreeing, c__law_has, c__law_open, c__law_value, c__law_used, c__law_value_fits, c__law_use_fits, c__law_changed, c_law, c_Kind, so_seq, so_nil, so_set, so_expr, so_ret, so_retN, so_pass, so_brk, so_cnt, so_never, so_raise, so_try, so_ite, ret_bl, ret_int, ret_str, ret_non, p_equ (.fn a1 a2) (by omega), isU, kd_ty, isP, Bool.false_eq_true, if_false, if_true, ixf0]
    exact tl
  | pr a1 a2 =>
    have ha' : max (ht a1) (ht a2) + 1 ≤ m := ha
    obtain ⟨j, rfl⟩ : ∃ j, m = j + 1 := ⟨m - 1, by omega⟩
    obtain ⟨i1, i2⟩ := ih j rfl
    have tl := vtail (j + 1) k (by omega) (.pr a1 a2) n hn ds ds t [] Q q .pr (fun z => by cases z) (fun _ => ⟨j, rfl, i1, i2, a1, a2, by omega, by omega, lop_p a1 a2 (by omega)⟩)
    rw [List.append_nil] at tl
    simp only [ok_ok, ok_noex, ok_var, ok_lit, ok_prim, ok_nil, ok_cons, ok_call, ok_and, ok_or, ok_iteE, ok_chain, ok_meth, ok_attr, ok_join, ok_jnil, ok_jcons, p_not, p_add, p_sub, p_adds, p_muls, p_mulr, p_fdiv, p_mod, p_pow, p_eqi, p_eqs, p_eqb, p_nei, p_nes, p_neb, p_lt, p_le, p_gt, p_ge, p_is, p_isnot, p_lens, p_lent, p_lenk, p_int, p_bool, p_min, p_max, p_tup, p_lst, p_fmts, p_ixt, p_ixs, p_slse, p_slsu, p_isity, p_isigl, bm_rm, bm_st, tr_bl, tr_non, tr_int, tr_tup, tr_kls, tr_str, Mp.isNon, List.getElem?_cons_zero, List.getElem?_cons_succ, List.set_cons_zero, List.set_cons_succ, ity_non, ity_bl, ity_int, ity_str, ity_tup, ity_kls, kb_NoneType_NoneType, kb_NoneType_bool, kb_NoneType_int, kb_NoneType_str, kb_NoneType_tuple, kb_NoneType_list, kb_bool_NoneType, kb_bool_bool, kb_bool_int, kb_bool_str, kb_bool_tuple, kb_bool_list, kb_int_NoneType, kb_int_bool, kb_int_int, kb_int_str, kb_int_tuple, kb_int_list, kb_str_NoneType, kb_str_bool, kb_str_int, kb_str_str, kb_str_tuple, kb_str_list, kb_tuple_NoneType, kb_tuple_bool, kb_tuple_int, kb_tuple_str, kb_tuple_tuple, kb_tuple_list, kb_list_NoneType, kb_list_bool, kb_list_int, kb_list_str, kb_list_tuple, kb_list_list, c_kind_height, c_has_ground, c_opened, c_same_shape, c_as_precise, c_value_fits, c_use_fits, c__law_draws, c__law_draw, c__law_number, c__law_same, c__law_kind, c__law_tall, c__law_any_kind, c__law_agreeing, c__law_has, c__law_open, c__law_value, c__law_used, c__law_value_fits, c__law_use_fits, c__law_changed, c_law, c_Kind, so_seq, so_nil, so_set, so_expr, so_ret, so_retN, so_pass, so_brk, so_cnt, so_never, so_raise, so_try, so_ite, ret_bl, ret_int, ret_str, ret_non, p_equ (.pr a1 a2) (by omega), isU, kd_ty, isP, Bool.false_eq_true, if_false, if_true, ixp0]
    exact tl
  | int =>
    have tl := vtail m k (by omega) .int n hn ds ds t [] Q q .int (fun z => by cases z) (fun z => by cases z)
    rw [List.append_nil] at tl
    simp only [ok_ok, ok_noex, ok_var, ok_lit, ok_prim, ok_nil, ok_cons, ok_call, ok_and, ok_or, ok_iteE, ok_chain, ok_meth, ok_attr, ok_join, ok_jnil, ok_jcons, p_not, p_add, p_sub, p_adds, p_muls, p_mulr, p_fdiv, p_mod, p_pow, p_eqi, p_eqs, p_eqb, p_nei, p_nes, p_neb, p_lt, p_le, p_gt, p_ge, p_is, p_isnot, p_lens, p_lent, p_lenk, p_int, p_bool, p_min, p_max, p_tup, p_lst, p_fmts, p_ixt, p_ixs, p_slse, p_slsu, p_isity, p_isigl, bm_rm, bm_st, tr_bl, tr_non, tr_int, tr_tup, tr_kls, tr_str, Mp.isNon, List.getElem?_cons_zero, List.getElem?_cons_succ, List.set_cons_zero, List.set_cons_succ, ity_non, ity_bl, ity_int, ity_str, ity_tup, ity_kls, kb_NoneType_NoneType, kb_NoneType_bool, kb_NoneType_int, kb_NoneType_str, kb_NoneType_tuple, kb_NoneType_list, kb_bool_NoneType, kb_bool_bool, kb_bool_int, kb_bool_str, kb_bool_tuple, kb_bool_list, kb_int_NoneType, kb_int_bool, kb_int_int, kb_int_str, kb_int_tuple, kb_int_list, kb_str_NoneType, kb_str_bool, kb_str_int, kb_str_str, kb_str_tuple, kb_str_list, kb_tuple_NoneType, kb_tuple_bool, kb_tuple_int, kb_tuple_str, kb_tuple_tuple, kb_tuple_list, kb_list_NoneType, kb_list_bool, kb_list_int, kb_list_str, kb_list_tuple, kb_list_list, c_kind_height, c_has_ground, c_opened, c_same_shape, c_as_precise, c_value_fits, c_use_fits, c__law_draws, c__law_draw, c__law_number, c__law_same, c__law_kind, c__law_tall, c__law_any_kind, c__law_agreeing, c__law_has, c__law_open, c__law_value, c__law_used, c__law_value_fits, c__law_use_fits, c__law_changed, c_law, c_Kind, so_seq, so_nil, so_set, so_expr, so_ret, so_retN, so_pass, so_brk, so_cnt, so_never, so_raise, so_try, so_ite, ret_bl, ret_int, ret_str, ret_non, p_equ .int (by decide), isU, kd_ty, isP, Bool.false_eq_true, if_false]
    exact tl
  | bool =>
    have tl := vtail m k (by omega) .bool n hn ds ds t [] Q q .bool (fun z => by cases z) (fun z => by cases z)
    rw [List.append_nil] at tl
    simp only [ok_ok, ok_noex, ok_var, ok_lit, ok_prim, ok_nil, ok_cons, ok_call, ok_and, ok_or, ok_iteE, ok_chain, ok_meth, ok_attr, ok_join, ok_jnil, ok_jcons, p_not, p_add, p_sub, p_adds, p_muls, p_mulr, p_fdiv, p_mod, p_pow, p_eqi, p_eqs, p_eqb, p_nei, p_nes, p_neb, p_lt, p_le, p_gt, p_ge, p_is, p_isnot, p_lens, p_lent, p_lenk, p_int, p_bool, p_min, p_max, p_tup, p_lst, p_fmts, p_ixt, p_ixs, p_slse, p_slsu, p_isity, p_isigl, bm_rm, bm_st, tr_bl, tr_non, tr_int, tr_tup, tr_kls, tr_str, Mp.isNon, List.getElem?_cons_zero, List.getElem?_cons_succ, List.set_cons_zero, List.set_cons_succ, ity_non, ity_bl, ity_int, ity_str, ity_tup, ity_kls, kb_NoneType_NoneType, kb_NoneType_bool, kb_NoneType_int, kb_NoneType_str, kb_NoneType_tuple, kb_NoneType_list, kb_bool_NoneType, kb_bool_bool, kb_bool_int, kb_bool_str, kb_bool_tuple, kb_bool_list, kb_int_NoneType, kb_int_bool, kb_int_int, kb_int_str, kb_int_tuple, kb_int_list, kb_str_NoneType, kb_str_bool, kb_str_int, kb_str_str, kb_str_tuple, kb_str_list, kb_tuple_NoneType, kb_tuple_bool, kb_tuple_int, kb_tuple_str, kb_tuple_tuple, kb_tuple_list, kb_list_NoneType, kb_list_bool, kb_list_int, kb_list_str, kb_list_tuple, kb_list_list, c_kind_height, c_has_ground, c_opened, c_same_shape, c_as_precise, c_value_fits, c_use_fits, c__law_draws, c__law_draw, c__law_number, c__law_same, c__law_kind, c__law_tall, c__law_any_kind, c__law_agreeing, c__law_has, c__law_open, c__law_value, c__law_used, c__law_value_fits, c__law_use_fits, c__law_changed, c_law, c_Kind, so_seq, so_nil, so_set, so_expr, so_ret, so_retN, so_pass, so_brk, so_cnt, so_never, so_raise, so_try, so_ite, ret_bl, ret_int, ret_str, ret_non, p_equ .bool (by decide), isU, kd_ty, isP, Bool.false_eq_true, if_false]
    exact tl
  | unit =>
    have tl := vtail m k (by omega) .unit n hn ds ds t [] Q q .unit (fun z => by cases z) (fun z => by cases z)
    rw [List.append_nil] at tl
    simp only [ok_ok, ok_noex, ok_var, ok_lit, ok_prim, ok_nil, ok_cons, ok_call, ok_and, ok_or, ok_iteE, ok_chain, ok_meth, ok_attr, ok_join, ok_jnil, ok_jcons, p_not, p_add, p_sub, p_adds, p_muls, p_mulr, p_fdiv, p_mod, p_pow, p_eqi, p_eqs, p_eqb, p_nei, p_nes, p_neb, p_lt, p_le, p_gt, p_ge, p_is, p_isnot, p_lens, p_lent, p_lenk, p_int, p_bool, p_min, p_max, p_tup, p_lst, p_fmts, p_ixt, p_ixs, p_slse, p_slsu, p_isity, p_isigl, bm_rm, bm_st, tr_bl, tr_non, tr_int, tr_tup, tr_kls, tr_str, Mp.isNon, List.getElem?_cons_zero, List.getElem?_cons_succ, List.set_cons_zero, List.set_cons_succ, ity_non, ity_bl, ity_int, ity_str, ity_tup, ity_kls, kb_NoneType_NoneType, kb_NoneType_bool, kb_NoneType_int, kb_NoneType_str, kb_NoneType_tuple, kb_NoneType_list, kb_bool_NoneType, kb_bool_bool, kb_bool_int, kb_bool_str, kb_bool_tuple, kb_bool_list, kb_int_NoneType, kb_int_bool, kb_int_int, kb_int_str, kb_int_tuple, kb_int_list, kb_str_NoneType, kb_str_bool, kb_str_int, kb_str_str, kb_str_tuple, kb_str_list, kb_tuple_NoneType, kb_tuple_bool, kb_tuple_int, kb_tuple_str, kb_tuple_tuple, kb_tuple_list, kb_list_NoneType, kb_list_bool, kb_list_int, kb_list_str, kb_list_tuple, kb_list_list, c_kind_height, c_has_ground, c_opened, c_same_shape, c_as_precise, c_value_fits, c_use_fits, c__law_draws, c__law_draw, c__law_number, c__law_same, c__law_kind, c__law_tall, c__law_any_kind, c__law_agreeing, c__law_has, c__law_open, c__law_value, c__law_used, c__law_value_fits, c__law_use_fits, c__law_changed, c_law, c_Kind, so_seq, so_nil, so_set, so_expr, so_ret, so_retN, so_pass, so_brk, so_cnt, so_never, so_raise, so_try, so_ite, ret_bl, ret_int, ret_str, ret_non, p_equ .unit (by decide), isU, kd_ty, isP, Bool.false_eq_true, if_false]
    exact tl
theorem use_step (m : Nat) (h60 : m ≤ 60) (ih : ∀ j, m = j + 1 → VAL j ∧ USE j) : USE m := by
  intro a n k ds t Q ha hn hk q
  obtain ⟨k, rfl⟩ : ∃ j, k = j + 2 := ⟨k - 2, by omega⟩
  rw [r__law_used, U2_eq]
  simp only [ok_ok, ok_noex, ok_var, ok_lit, ok_prim, ok_nil, ok_cons, ok_call, ok_and, ok_or, ok_iteE, ok_chain, ok_meth, ok_attr, ok_join, ok_jnil, ok_jcons, p_not, p_add, p_sub, p_adds, p_muls, p_mulr, p_fdiv, p_mod, p_pow, p_eqi, p_eqs, p_eqb, p_nei, p_nes, p_neb, p_lt, p_le, p_gt, p_ge, p_is, p_isnot, p_lens, p_lent, p_lenk, p_int, p_bool, p_min, p_max, p_tup, p_lst, p_fmts, p_ixt, p_ixs, p_slse, p_slsu, p_isity, p_isigl, bm_rm, bm_st, tr_bl, tr_non, tr_int, tr_tup, tr_kls, tr_str, Mp.isNon, List.getElem?_cons_zero, List.getElem?_cons_succ, List.set_cons_zero, List.set_cons_succ, ity_non, ity_bl, ity_int, ity_str, ity_tup, ity_kls, kb_NoneType_NoneType, kb_NoneType_bool, kb_NoneType_int, kb_NoneType_str, kb_NoneType_tuple, kb_NoneType_list, kb_bool_NoneType, kb_bool_bool, kb_bool_int, kb_bool_str, kb_bool_tuple, kb_bool_list, kb_int_NoneType, kb_int_bool, kb_int_int, kb_int_str, kb_int_tuple, kb_int_list, kb_str_NoneType, kb_str_bool, kb_str_int, kb_str_str, kb_str_tuple, kb_str_list, kb_tuple_NoneType, kb_tuple_bool, kb_tuple_int, kb_tuple_str, kb_tuple_tuple, kb_tuple_list, kb_list_NoneType, kb_list_bool, kb_list_int, kb_list_str, kb_list_tuple, kb_list_list, c_kind_height, c_has_ground, c_opened, c_same_shape, c_as_precise, c_value_fits, c_use_fits, c__law_draws, c__law_draw, c__law_number, c__law_same, c__law_kind, c__law_tall, c__law_any_kind, c__law_agreeing, c__law_has, c__law_open, c__law_value, c__law_used, c__law_value_fits, c__law_use_fits, c__law_changed, c_law, c_Kind, so_seq, so_nil, so_set, so_expr, so_ret, so_retN, so_pass, so_brk, so_cnt, so_never, so_raise, so_try, so_ite, ret_bl, ret_int, ret_str, ret_non]
  refine draw k ds t 4 (by decide) fun w d1 w0 w1 => ?_
  simp only [ok_ok, ok_noex, ok_var, ok_lit, ok_prim, ok_nil, ok_cons, ok_call, ok_and, ok_or, ok_iteE, ok_chain, ok_meth, ok_attr, ok_join, ok_jnil, ok_jcons, p_not, p_add, p_sub, p_adds, p_muls, p_mulr, p_fdiv, p_mod, p_pow, p_eqi, p_eqs, p_eqb, p_nei, p_nes, p_neb, p_lt, p_le, p_gt, p_ge, p_is, p_isnot, p_lens, p_lent, p_lenk, p_int, p_bool, p_min, p_max, p_tup, p_lst, p_fmts, p_ixt, p_ixs, p_slse, p_slsu, p_isity, p_isigl, bm_rm, bm_st, tr_bl, tr_non, tr_int, tr_tup, tr_kls, tr_str, Mp.isNon, List.getElem?_cons_zero, List.getElem?_cons_succ, List.set_cons_zero, List.set_cons_succ, ity_non, ity_bl, ity_int, ity_str, ity_tup, ity_kls, kb_NoneType_NoneType, kb_NoneType_bool, kb_NoneType_int, kb_NoneType_str, kb_NoneType_tuple, kb_NoneType_list, kb_bool_NoneType, kb_bool_bool, kb_bool_int, kb_bool_str, kb_bool_tuple, kb_bool_list, kb_int_NoneType, kb_int_bool, kb_int_int, kb_int_str, kb_int_tuple, kb_int_list, kb_str_NoneType, kb_str_bool, kb_str_int, kb_str_str, kb_str_tuple, kb_str_list, kb_tuple_NoneType, kb_tuple_bool, kb_tuple_int, kb_tuple_str, kb_tuple_tuple, kb_tuple_list, kb_list_NoneType, kb_list_bool, kb_list_int, kb_list_str, kb_list_tuple, kb_list_list, c_kind_height, c_has_ground, c_opened, c_same_shape, c_as_precise, c_value_fits, c_use_fits, c__law_draws, c__law_draw, c__law_number, c__law_same, c__law_kind, c__law_tall, c__law_any_kind, c__law_agreeing, c__law_has, c__law_open, c__law_value, c__law_used, c__law_value_fits, c__law_use_fits, c__law_changed, c_law, c_Kind, so_seq, so_nil, so_set, so_expr, so_ret, so_retN, so_pass, so_brk, so_cnt, so_never, so_raise, so_try, so_ite, ret_bl, ret_int, ret_str, ret_non]
  have look : ∀ ds', RetQ (li ds :: t) Q (.tup [.str "look"]) (li ds' :: t) := fun ds' => ofE (ret_li (d := ud .look) (ud_cl _ _)) (q .look ds' (Nat.zero_le _))
  by_cases h0 : n ≤ 0
  · simp only [h0, decide_true, if_true]
    exact ⟨t1 _, look _⟩
  · simp only [h0, decide_false, Bool.false_eq_true, if_false]
    obtain ⟨j, rfl⟩ : ∃ j, m = j + 1 := ⟨m - 1, by omega⟩
    obtain ⟨i1, i2⟩ := ih j rfl
    by_cases hw : w = 0
    · simp only [hw, decide_true, if_true]
      exact ⟨t1 _, look _⟩
    · simp only [hw, decide_false, Bool.false_eq_true, if_false, p_intu, inb_k a _ (Nat.le_trans ha h60), p_equ a (by omega), kd_ty]
      refine ⟨(by decide : 3 ≤ cap), ?_⟩
      have tl := fun a g hf => utail (j + 1) (k + 1) (by omega) a n w hn ds d1 t Q q g hf
      cases a with
      | unk =>
        simp only [isB, isU, isP, Bool.false_eq_true, if_false, if_true, ok_ok, ok_noex, ok_var, ok_lit, ok_prim, ok_nil, ok_cons, ok_call, ok_and, ok_or, ok_iteE, ok_chain, ok_meth, ok_attr, ok_join, ok_jnil, ok_jcons, p_not, p_add, p_sub, p_adds, p_muls, p_mulr, p_fdiv, p_mod, p_pow, p_eqi, p_eqs, p_eqb, p_nei, p_nes, p_neb, p_lt, p_le, p_gt, p_ge, p_is, p_isnot, p_lens, p_lent, p_lenk, p_int, p_bool, p_min, p_max, p_tup, p_lst, p_fmts, p_ixt, p_ixs, p_slse, p_slsu, p_isity, p_isigl, bm_rm, bm_st, tr_bl, tr_non, tr_int, tr_tup, tr_kls, tr_str, Mp.isNon, List.getElem?_cons_zero, List.getElem?_cons_succ, List.set_cons_zero, List.set_cons_succ, ity_non, ity_bl, ity_int, ity_str, ity_tup, ity_kls, kb_NoneType_NoneType, kb_NoneType_bool, kb_NoneType_int, kb_NoneType_str, kb_NoneType_tuple, kb_NoneType_list, kb_bool_NoneType, kb_bool_bool, kb_bool_int, kb_bool_str, kb_bool_tuple, kb_bool_list, kb_int_NoneType, kb_int_bool, kb_int_int, kb_int_str, kb_int_tuple, kb_int_list, kb_str_NoneType, kb_str_bool, kb_str_int, kb_str_str, kb_str_tuple, kb_str_list, kb_tuple_NoneType, kb_tuple_bool, kb_tuple_int, kb_tuple_str, kb_tuple_tuple, kb_tuple_list, kb_list_NoneType, kb_list_bool, kb_list_int, kb_list_str, kb_list_tuple, kb_list_list, c_kind_height, c_has_ground, c_opened, c_same_shape, c_as_precise, c_value_fits, c_use_fits, c__law_draws, c__law_draw, c__law_number, c__law_same, c__law_kind, c__law_tall, c__law_any_kind, c__law_agreeing, c__law_has, c__law_open, c__law_value, c__law_used, c__law_value_fits, c__law_use_fits, c__law_changed, c_law, c_Kind, so_seq, so_nil, so_set, so_expr, so_ret, so_retN, so_pass, so_brk, so_cnt, so_never, so_raise, so_try, so_ite, ret_bl, ret_int, ret_str, ret_non]
        by_cases h3 : w = 3
        · simp only [h3, decide_true, if_true]
          rw [h3] at tl
          exact tl .unk "pair" (.inr ⟨rfl, j, rfl, i1, i2, .unk, .unk, Nat.zero_le _, Nat.zero_le _, lop_up⟩)
        · simp only [h3, decide_false, Bool.false_eq_true, if_false]
          exact tl .unk "fun" (.inl ⟨rfl, j, rfl, i1, i2, .unk, .unk, Nat.zero_le _, Nat.zero_le _, lop_uf⟩)
      | fn a1 a2 =>
        have ha' : max (ht a1) (ht a2) + 1 ≤ j + 1 := ha
        simp only [isB, isU, isP, Bool.false_eq_true, if_false, if_true, ok_ok, ok_noex, ok_var, ok_lit, ok_prim, ok_nil, ok_cons, ok_call, ok_and, ok_or, ok_iteE, ok_chain, ok_meth, ok_attr, ok_join, ok_jnil, ok_jcons, p_not, p_add, p_sub, p_adds, p_muls, p_mulr, p_fdiv, p_mod, p_pow, p_eqi, p_eqs, p_eqb, p_nei, p_nes, p_neb, p_lt, p_le, p_gt, p_ge, p_is, p_isnot, p_lens, p_lent, p_lenk, p_int, p_bool, p_min, p_max, p_tup, p_lst, p_fmts, p_ixt, p_ixs, p_slse, p_slsu, p_isity, p_isigl, bm_rm, bm_st, tr_bl, tr_non, tr_int, tr_tup, tr_kls, tr_str, Mp.isNon, List.getElem?_cons_zero, List.getElem?_cons_succ, List.set_cons_zero, List.set_cons_succ, ity_non, ity_bl, ity_int, ity_str, ity_tup, ity_kls, kb_NoneType_NoneType, kb_NoneType_bool, kb_NoneType_int, kb_NoneType_str, kb_NoneType_tuple, kb_NoneType_list, kb_bool_NoneType, kb_bool_bool, kb_bool_int, kb_bool_str, kb_bool_tuple, kb_bool_list, kb_int_NoneType, kb_int_bool, kb_int_int, kb_int_str, kb_int_tuple, kb_int_list, kb_str_NoneType, kb_str_bool, kb_str_int, kb_str_str, kb_str_tuple, kb_str_list, kb_tuple_NoneType, kb_tuple_bool, kb_tuple_int, kb_tuple_str, kb_tuple_tuple, kb_tuple_list, kb_list_NoneType, kb_list_bool, kb_list_int, kb_list_str, kb_list_tuple, kb_list_list, c_kind_height, c_has_ground, c_opened, c_same_shape, c_as_precise, c_value_fits, c_use_fits, c__law_draws, c__law_draw, c__law_number, c__law_same, c__law_kind, c__law_tall, c__law_any_kind, c__law_agreeing, c__law_has, c__law_open, c__law_value, c__law_used, c__law_value_fits, c__law_use_fits, c__law_changed, c_law, c_Kind, so_seq, so_nil, so_set, so_expr, so_ret, so_retN, so_pass, so_brk, so_cnt, so_never, so_raise, so_try, so_ite, ret_bl, ret_int, ret_str, ret_non, ixf0]
        exact tl (.fn a1 a2) "fun" (.inl ⟨rfl, j, rfl, i1, i2, a1, a2, by omega, by omega, lop_f a1 a2 (by omega)⟩)
      | pr a1 a2 =>
        have ha' : max (ht a1) (ht a2) + 1 ≤ j + 1 := ha
        simp only [isB, isU, isP, Bool.false_eq_true, if_false, if_true, ok_ok, ok_noex, ok_var, ok_lit, ok_prim, ok_nil, ok_cons, ok_call, ok_and, ok_or, ok_iteE, ok_chain, ok_meth, ok_attr, ok_join, ok_jnil, ok_jcons, p_not, p_add, p_sub, p_adds, p_muls, p_mulr, p_fdiv, p_mod, p_pow, p_eqi, p_eqs, p_eqb, p_nei, p_nes, p_neb, p_lt, p_le, p_gt, p_ge, p_is, p_isnot, p_lens, p_lent, p_lenk, p_int, p_bool, p_min, p_max, p_tup, p_lst, p_fmts, p_ixt, p_ixs, p_slse, p_slsu, p_isity, p_isigl, bm_rm, bm_st, tr_bl, tr_non, tr_int, tr_tup, tr_kls, tr_str, Mp.isNon, List.getElem?_cons_zero, List.getElem?_cons_succ, List.set_cons_zero, List.set_cons_succ, ity_non, ity_bl, ity_int, ity_str, ity_tup, ity_kls, kb_NoneType_NoneType, kb_NoneType_bool, kb_NoneType_int, kb_NoneType_str, kb_NoneType_tuple, kb_NoneType_list, kb_bool_NoneType, kb_bool_bool, kb_bool_int, kb_bool_str, kb_bool_tuple, kb_bool_list, kb_int_NoneType, kb_int_bool, kb_int_int, kb_int_str, kb_int_tuple, kb_int_list, kb_str_NoneType, kb_str_bool, kb_str_int, kb_str_str, kb_str_tuple, kb_str_list, kb_tuple_NoneType, kb_tuple_bool, kb_tuple_int, kb_tuple_str, kb_tuple_tuple, kb_tuple_list, kb_list_NoneType, kb_list_bool, kb_list_int, kb_list_str, kb_list_tuple, kb_list_list, c_kind_height, c_has_ground, c_opened, c_same_shape, c_as_precise, c_value_fits, c_use_fits, c__law_draws, c__law_draw, c__law_number, c__law_same, c__law_kind, c__law_tall, c__law_any_kind, c__law_agreeing, c__law_has, c__law_open, c__law_value, c__law_used, c__law_value_fits, c__law_use_fits, c__law_changed, c_law, c_Kind, so_seq, so_nil, so_set, so_expr, so_ret, so_retN, so_pass, so_brk, so_cnt, so_never, so_raise, so_try, so_ite, ret_bl, ret_int, ret_str, ret_non, ixp0]
        exact tl (.pr a1 a2) "pair" (.inr ⟨rfl, j, rfl, i1, i2, a1, a2, by omega, by omega, lop_p a1 a2 (by omega)⟩)
      | int =>
        simp only [isB, if_true, ok_ok, ok_noex, ok_var, ok_lit, ok_prim, ok_nil, ok_cons, ok_call, ok_and, ok_or, ok_iteE, ok_chain, ok_meth, ok_attr, ok_join, ok_jnil, ok_jcons, p_not, p_add, p_sub, p_adds, p_muls, p_mulr, p_fdiv, p_mod, p_pow, p_eqi, p_eqs, p_eqb, p_nei, p_nes, p_neb, p_lt, p_le, p_gt, p_ge, p_is, p_isnot, p_lens, p_lent, p_lenk, p_int, p_bool, p_min, p_max, p_tup, p_lst, p_fmts, p_ixt, p_ixs, p_slse, p_slsu, p_isity, p_isigl, bm_rm, bm_st, tr_bl, tr_non, tr_int, tr_tup, tr_kls, tr_str, Mp.isNon, List.getElem?_cons_zero, List.getElem?_cons_succ, List.set_cons_zero, List.set_cons_succ, ity_non, ity_bl, ity_int, ity_str, ity_tup, ity_kls, kb_NoneType_NoneType, kb_NoneType_bool, kb_NoneType_int, kb_NoneType_str, kb_NoneType_tuple, kb_NoneType_list, kb_bool_NoneType, kb_bool_bool, kb_bool_int, kb_bool_str, kb_bool_tuple, kb_bool_list, kb_int_NoneType, kb_int_bool, kb_int_int, kb_int_str, kb_int_tuple, kb_int_list, kb_str_NoneType, kb_str_bool, kb_str_int, kb_str_str, kb_str_tuple, kb_str_list, kb_tuple_NoneType, kb_tuple_bool, kb_tuple_int, kb_tuple_str, kb_tuple_tuple, kb_tuple_list, kb_list_NoneType, kb_list_bool, kb_list_int, kb_list_str, kb_list_tuple, kb_list_list, c_kind_height, c_has_ground, c_opened, c_same_shape, c_as_precise, c_value_fits, c_use_fits, c__law_draws, c__law_draw, c__law_number, c__law_same, c__law_kind, c__law_tall, c__law_any_kind, c__law_agreeing, c__law_has, c__law_open, c__law_value, c__law_used, c__law_value_fits, c__law_use_fits, c__law_changed, c_law, c_Kind, so_seq, so_nil, so_set, so_expr, so_ret, so_retN, so_pass, so_brk, so_cnt, so_never, so_raise, so_try, so_ite, ret_bl, ret_int, ret_str, ret_non]
        exact ⟨t1 _, look _⟩
      | bool =>
        simp only [isB, if_true, ok_ok, ok_noex, ok_var, ok_lit, ok_prim, ok_nil, ok_cons, ok_call, ok_and, ok_or, ok_iteE, ok_chain, ok_meth, ok_attr, ok_join, ok_jnil, ok_jcons, p_not, p_add, p_sub, p_adds, p_muls, p_mulr, p_fdiv, p_mod, p_pow, p_eqi, p_eqs, p_eqb, p_nei, p_nes, p_neb, p_lt, p_le, p_gt, p_ge, p_is, p_isnot, p_lens, p_lent, p_lenk, p_int, p_bool, p_min, p_max, p_tup, p_lst, p_fmts, p_ixt, p_ixs, p_slse, p_slsu, p_isity, p_isigl, bm_rm, bm_st, tr_bl, tr_non, tr_int, tr_tup, tr_kls, tr_str, Mp.isNon, List.getElem?_cons_zero, List.getElem?_cons_succ, List.set_cons_zero, List.set_cons_succ, ity_non, ity_bl, ity_int, ity_str, ity_tup, ity_kls, kb_NoneType_NoneType, kb_NoneType_bool, kb_NoneType_int, kb_NoneType_str, kb_NoneType_tuple, kb_NoneType_list, kb_bool_NoneType, kb_bool_bool, kb_bool_int, kb_bool_str, kb_bool_tuple, kb_bool_list, kb_int_NoneType, kb_int_bool, kb_int_int, kb_int_str, kb_int_tuple, kb_int_list, kb_str_NoneType, kb_str_bool, kb_str_int, kb_str_str, kb_str_tuple, kb_str_list, kb_tuple_NoneType, kb_tuple_bool, kb_tuple_int, kb_tuple_str, kb_tuple_tuple, kb_tuple_list, kb_list_NoneType, kb_list_bool, kb_list_int, kb_list_str, kb_list_tuple, kb_list_list, c_kind_height, c_has_ground, c_opened, c_same_shape, c_as_precise, c_value_fits, c_use_fits, c__law_draws, c__law_draw, c__law_number, c__law_same, c__law_kind, c__law_tall, c__law_any_kind, c__law_agreeing, c__law_has, c__law_open, c__law_value, c__law_used, c__law_value_fits, c__law_use_fits, c__law_changed, c_law, c_Kind, so_seq, so_nil, so_set, so_expr, so_ret, so_retN, so_pass, so_brk, so_cnt, so_never, so_raise, so_try, so_ite, ret_bl, ret_int, ret_str, ret_non]
        exact ⟨t1 _, look _⟩
      | unit =>
        simp only [isB, if_true, ok_ok, ok_noex, ok_var, ok_lit, ok_prim, ok_nil, ok_cons, ok_call, ok_and, ok_or, ok_iteE, ok_chain, ok_meth, ok_attr, ok_join, ok_jnil, ok_jcons, p_not, p_add, p_sub, p_adds, p_muls, p_mulr, p_fdiv, p_mod, p_pow, p_eqi, p_eqs, p_eqb, p_nei, p_nes, p_neb, p_lt, p_le, p_gt, p_ge, p_is, p_isnot, p_lens, p_lent, p_lenk, p_int, p_bool, p_min, p_max, p_tup, p_lst, p_fmts, p_ixt, p_ixs, p_slse, p_slsu, p_isity, p_isigl, bm_rm, bm_st, tr_bl, tr_non, tr_int, tr_tup, tr_kls, tr_str, Mp.isNon, List.getElem?_cons_zero, List.getElem?_cons_succ, List.set_cons_zero, List.set_cons_succ, ity_non, ity_bl, ity_int, ity_str, ity_tup, ity_kls, kb_NoneType_NoneType, kb_NoneType_bool, kb_NoneType_int, kb_NoneType_str, kb_NoneType_tuple, kb_NoneType_list, kb_bool_NoneType, kb_bool_bool, kb_bool_int, kb_bool_str, kb_bool_tuple, kb_bool_list, kb_int_NoneType, kb_int_bool, kb_int_int, kb_int_str, kb_int_tuple, kb_int_list, kb_str_NoneType, kb_str_bool, kb_str_int, kb_str_str, kb_str_tuple, kb_str_list, kb_tuple_NoneType, kb_tuple_bool, kb_tuple_int, kb_tuple_str, kb_tuple_tuple, kb_tuple_list, kb_list_NoneType, kb_list_bool, kb_list_int, kb_list_str, kb_list_tuple, kb_list_list, c_kind_height, c_has_ground, c_opened, c_same_shape, c_as_precise, c_value_fits, c_use_fits, c__law_draws, c__law_draw, c__law_number, c__law_same, c__law_kind, c__law_tall, c__law_any_kind, c__law_agreeing, c__law_has, c__law_open, c__law_value, c__law_used, c__law_value_fits, c__law_use_fits, c__law_changed, c_law, c_Kind, so_seq, so_nil, so_set, so_expr, so_ret, so_retN, so_pass, so_brk, so_cnt, so_never, so_raise, so_try, so_ite, ret_bl, ret_int, ret_str, ret_non]
        exact ⟨t1 _, look _⟩
theorem vu : ∀ m : Nat, m ≤ 60 → VAL m ∧ USE m
  | 0, h => ⟨val_step 0 h (fun j e => by omega), use_step 0 h (fun j e => by omega)⟩
  | m + 1, h => ⟨val_step (m + 1) h (fun j e => by cases e; exact vu m (by omega)), use_step (m + 1) h (fun j e => by cases e; exact vu m (by omega))⟩

end Lk25

set_option Elab.async false
set_option linter.all false
set_option maxRecDepth 100000
set_option maxHeartbeats 2000000
namespace Lk25
open PySem Mp
/-! ### drawn neighbours of a kind -/
theorem kindZ (n : Int) (m : Nat) (hn : n ≤ (m : Int)) (hm : m ≤ 8) (k : Nat) (ds : List Int) (t : HD) {Q : D → HD → Prop} (q : ∀ a ds', ht a ≤ m → Q (kd a) (li ds' :: t)) : okx (fun _ _ => False) (run tb.prog (k + 10) "_law_kind" [.ref 0, .int n] (li ds :: t)) Q := by
  by_cases h0 : 0 ≤ n
  · obtain ⟨j, rfl⟩ : ∃ j : Nat, n = (j : Int) := ⟨n.toNat, by omega⟩
    have hj : j ≤ m := by omega
    have e : k + 10 = (k + (8 - j)) + j + 2 := by omega
    rw [e]
    exact kindE j (k + (8 - j)) ds t fun a d ha => q a d (by omega)
  · rw [r__law_kind]
    simp only [F__law_kind, ok_ok, ok_noex, ok_var, ok_lit, ok_prim, ok_nil, ok_cons, ok_call, ok_and, ok_or, ok_iteE, ok_chain, ok_meth, ok_attr, ok_join, ok_jnil, ok_jcons, p_not, p_add, p_sub, p_adds, p_muls, p_mulr, p_fdiv, p_mod, p_pow, p_eqi, p_eqs, p_eqb, p_nei, p_nes, p_neb, p_lt, p_le, p_gt, p_ge, p_is, p_isnot, p_lens, p_lent, p_lenk, p_int, p_bool, p_min, p_max, p_tup, p_lst, p_fmts, p_ixt, p_ixs, p_slse, p_slsu, p_isity, p_isigl, bm_rm, bm_st, tr_bl, tr_non, tr_int, tr_tup, tr_kls, tr_str, Mp.isNon, List.getElem?_cons_zero, List.getElem?_cons_succ, List.set_cons_zero, List.set_cons_succ, ity_non, ity_bl, ity_int, ity_str, ity_tup, ity_kls, kb_NoneType_NoneType, kb_NoneType_bool, kb_NoneType_int, kb_NoneType_str, kb_NoneType_tuple, kb_NoneType_list, kb_bool_NoneType, kb_bool_bool, kb_bool_int, kb_bool_str, kb_bool_tuple, kb_bool_list, kb_int_NoneType, kb_int_bool, kb_int_int, kb_int_str, kb_int_tuple, kb_int_list, kb_str_NoneType, kb_str_bool, kb_str_int, kb_str_str, kb_str_tuple, kb_str_list, kb_tuple_NoneType, kb_tuple_bool, kb_tuple_int, kb_tuple_str, kb_tuple_tuple, kb_tuple_list, kb_list_NoneType, kb_list_bool, kb_list_int, kb_list_str, kb_list_tuple, kb_list_list, c_kind_height, c_has_ground, c_opened, c_same_shape, c_as_precise, c_value_fits, c_use_fits, c__law_draws, c__law_draw, c__law_number, c__law_same, c__law_kind, c__law_tall, c__law_any_kind, c__law_agreeing, c__law_has, c__law_open, c__law_value, c__law_used, c__law_value_fits, c__law_use_fits, c__law_changed, c_law, c_Kind, so_seq, so_nil, so_set, so_expr, so_ret, so_retN, so_pass, so_brk, so_cnt, so_never, so_raise, so_try, so_ite, ret_bl, ret_int, ret_str, ret_non]
    refine draw (k + 8) ds t 9 (by decide) fun way d1 w0 w1 => ?_
    simp only [ok_ok, ok_noex, ok_var, ok_lit, ok_prim, ok_nil, ok_cons, ok_call, ok_and, ok_or, ok_iteE, ok_chain, ok_meth, ok_attr, ok_join, ok_jnil, ok_jcons, p_not, p_add, p_sub, p_adds, p_muls, p_mulr, p_fdiv, p_mod, p_pow, p_eqi, p_eqs, p_eqb, p_nei, p_nes, p_neb, p_lt, p_le, p_gt, p_ge, p_is, p_isnot, p_lens, p_lent, p_lenk, p_int, p_bool, p_min, p_max, p_tup, p_lst, p_fmts, p_ixt, p_ixs, p_slse, p_slsu, p_isity, p_isigl, bm_rm, bm_st, tr_bl, tr_non, tr_int, tr_tup, tr_kls, tr_str, Mp.isNon, List.getElem?_cons_zero, List.getElem?_cons_succ, List.set_cons_zero, List.set_cons_succ, ity_non, ity_bl, ity_int, ity_str, ity_tup, ity_kls, kb_NoneType_NoneType, kb_NoneType_bool, kb_NoneType_int, kb_NoneType_str, kb_NoneType_tuple, kb_NoneType_list, kb_bool_NoneType, kb_bool_bool, kb_bool_int, kb_bool_str, kb_bool_tuple, kb_bool_list, kb_int_NoneType, kb_int_bool, kb_int_int, kb_int_str, kb_int_tuple, kb_int_list, kb_str_NoneType, kb_str_bool, kb_str_int, kb_str_str, kb_str_tuple, kb_str_list, kb_tuple_NoneType, kb_tuple_bool, kb_tuple_int, kb_tuple_str, kb_tuple_tuple, kb_tuple_list, kb_list_NoneType, kb_list_bool, kb_list_int, kb_list_str, kb_list_tuple, kb_list_list, c_kind_height, c_has_ground, c_opened, c_same_shape, c_as_precise, c_value_fits, c_use_fits, c__law_draws, c__law_draw, c__law_number, c__law_same, c__law_kind, c__law_tall, c__law_any_kind, c__law_agreeing, c__law_has, c__law_open, c__law_value, c__law_used, c__law_value_fits, c__law_use_fits, c__law_changed, c_law, c_Kind, so_seq, so_nil, so_set, so_expr, so_ret, so_retN, so_pass, so_brk, so_cnt, so_never, so_raise, so_try, so_ite, ret_bl, ret_int, ret_str, ret_non]
    rw [show decide ((0 : Int) < n) = false from decide_eq_false (by omega)]
    simp only [ok_ok, ok_noex, ok_var, ok_lit, ok_prim, ok_nil, ok_cons, ok_call, ok_and, ok_or, ok_iteE, ok_chain, ok_meth, ok_attr, ok_join, ok_jnil, ok_jcons, p_not, p_add, p_sub, p_adds, p_muls, p_mulr, p_fdiv, p_mod, p_pow, p_eqi, p_eqs, p_eqb, p_nei, p_nes, p_neb, p_lt, p_le, p_gt, p_ge, p_is, p_isnot, p_lens, p_lent, p_lenk, p_int, p_bool, p_min, p_max, p_tup, p_lst, p_fmts, p_ixt, p_ixs, p_slse, p_slsu, p_isity, p_isigl, bm_rm, bm_st, tr_bl, tr_non, tr_int, tr_tup, tr_kls, tr_str, Mp.isNon, List.getElem?_cons_zero, List.getElem?_cons_succ, List.set_cons_zero, List.set_cons_succ, ity_non, ity_bl, ity_int, ity_str, ity_tup, ity_kls, kb_NoneType_NoneType, kb_NoneType_bool, kb_NoneType_int, kb_NoneType_str, kb_NoneType_tuple, kb_NoneType_list, kb_bool_NoneType, kb_bool_bool, kb_bool_int, kb_bool_str, kb_bool_tuple, kb_bool_list, kb_int_NoneType, kb_int_bool, kb_int_int, kb_int_str, kb_int_tuple, kb_int_list, kb_str_NoneType, kb_str_bool, kb_str_int, kb_str_str, kb_str_tuple, kb_str_list, kb_tuple_NoneType, kb_tuple_bool, kb_tuple_int, kb_tuple_str, kb_tuple_tuple, kb_tuple_list, kb_list_NoneType, kb_list_bool, kb_list_int, kb_list_str, kb_list_tuple, kb_list_list, c_kind_height, c_has_ground, c_opened, c_same_shape, c_as_precise, c_value_fits, c_use_fits, c__law_draws, c__law_draw, c__law_number, c__law_same, c__law_kind, c__law_tall, c__law_any_kind, c__law_agreeing, c__law_has, c__law_open, c__law_value, c__law_used, c__law_value_fits, c__law_use_fits, c__law_changed, c_law, c_Kind, so_seq, so_nil, so_set, so_expr, so_ret, so_retN, so_pass, so_brk, so_cnt, so_never, so_raise, so_try, so_ite, ret_bl, ret_int, ret_str, ret_non, Bool.false_eq_true, if_false]
    refine ⟨(by decide : 6 ≤ cap), ?_⟩
    rw [p_mod _ _ (by decide), p_ixl _ (lst_at (li d1 :: t) _)]
    obtain ⟨a, ha, e⟩ := l6_at (Int.fmod_nonneg_of_pos way (by decide : (0 : Int) < 6)) (Int.fmod_lt_of_pos way (by decide : (0 : Int) < 6))
    rw [e]
    show RetQ _ _ (kd a) (li d1 :: (t ++ [_]))
    rw [ret_li2 (kd_cl _ _)]
    exact q a d1 (by omega)
theorem agreeing : ∀ (a : Kn) (M : Nat) (n : Int) (k : Nat) (ds : List Int) (t : HD) {Q : D → HD → Prop}, ht a ≤ M → n ≤ (M : Int) → M ≤ 8 → ht a + 12 ≤ k → (∀ b ds', ht b ≤ M → Q (kd b) (li ds' :: t)) → okx (fun _ _ => False) (run tb.prog k "_law_agreeing" [.ref 0, kd a, .int n] (li ds :: t)) Q := by
  intro a
  induction a with
  | fn a1 a2 ih1 ih2 =>
    intro M n k ds t Q ha hn hM hk q
    have ha' : max (ht a1) (ht a2) + 1 ≤ M := ha
    have hk : max (ht a1) (ht a2) + 1 + 12 ≤ k := hk
    obtain ⟨k, rfl⟩ : ∃ j, k = j + 2 := ⟨k - 2, by omega⟩
    rw [r__law_agreeing]
    simp only [F__law_agreeing, ok_ok, ok_noex, ok_var, ok_lit, ok_prim, ok_nil, ok_cons, ok_call, ok_and, ok_or, ok_iteE, ok_chain, ok_meth, ok_attr, ok_join, ok_jnil, ok_jcons, p_not, p_add, p_sub, p_adds, p_muls, p_mulr, p_fdiv, p_mod, p_pow, p_eqi, p_eqs, p_eqb, p_nei, p_nes, p_neb, p_lt, p_le, p_gt, p_ge, p_is, p_isnot, p_lens, p_lent, p_lenk, p_int, p_bool, p_min, p_max, p_tup, p_lst, p_fmts, p_ixt, p_ixs, p_slse, p_slsu, p_isity, p_isigl, bm_rm, bm_st, tr_bl, tr_non, tr_int, tr_tup, tr_kls, tr_str, Mp.isNon, List.getElem?_cons_zero, List.getElem?_cons_succ, List.set_cons_zero, List.set_cons_succ, ity_non, ity_bl, ity_int, ity_str, ity_tup, ity_kls, kb_NoneType_NoneType, kb_NoneType_bool, kb_NoneType_int, kb_NoneType_str, kb_NoneType_tuple, kb_NoneType_list, kb_bool_NoneType, kb_bool_bool, kb_bool_int, kb_bool_str, kb_bool_tuple, kb_bool_list, kb_int_NoneType, kb_int_bool, kb_int_int, kb_int_str, kb_int_tuple, kb_int_list, kb_str_NoneType, kb_str_bool, kb_str_int, kb_str_str, kb_str_tuple, kb_str_list, kb_tuple_NoneType, kb_tuple_bool, kb_tuple_int, kb_tuple_str, kb_tuple_tuple, kb_tuple_list, kb_list_NoneType, kb_list_bool, kb_list_int, kb_list_str, kb_list_tuple, kb_list_list, c_kind_height, c_has_ground, c_opened, c_same_shape, c_as_precise, c_value_fits, c_use_fits, c__law_draws, c__law_draw, c__law_number, c__law_same, c__law_kind, c__law_tall, c__law_any_kind, c__law_agreeing, c__law_has, c__law_open, c__law_value, c__law_used, c__law_value_fits, c__law_use_fits, c__law_changed, c_law, c_Kind, so_seq, so_nil, so_set, so_expr, so_ret, so_retN, so_pass, so_brk, so_cnt, so_never, so_raise, so_try, so_ite, ret_bl, ret_int, ret_str, ret_non, p_equ (.fn a1 a2) (by omega), isU, Bool.false_eq_true, if_false]
    refine draw k ds t 4 (by decide) fun r d1 r0 r1 => ?_
    simp only [ok_ok, ok_noex, ok_var, ok_lit, ok_prim, ok_nil, ok_cons, ok_call, ok_and, ok_or, ok_iteE, ok_chain, ok_meth, ok_attr, ok_join, ok_jnil, ok_jcons, p_not, p_add, p_sub, p_adds, p_muls, p_mulr, p_fdiv, p_mod, p_pow, p_eqi, p_eqs, p_eqb, p_nei, p_nes, p_neb, p_lt, p_le, p_gt, p_ge, p_is, p_isnot, p_lens, p_lent, p_lenk, p_int, p_bool, p_min, p_max, p_tup, p_lst, p_fmts, p_ixt, p_ixs, p_slse, p_slsu, p_isity, p_isigl, bm_rm, bm_st, tr_bl, tr_non, tr_int, tr_tup, tr_kls, tr_str, Mp.isNon, List.getElem?_cons_zero, List.getElem?_cons_succ, List.set_cons_zero, List.set_cons_succ, ity_non, ity_bl, ity_int, ity_str, ity_tup, ity_kls, kb_NoneType_NoneType, kb_NoneType_bool, kb_NoneType_int, kb_NoneType_str, kb_NoneType_tuple, kb_NoneType_list, kb_bool_NoneType, kb_bool_bool, kb_bool_int, kb_bool_str, kb_bool_tuple, kb_bool_list, kb_int_NoneType, kb_int_bool, kb_int_int, kb_int_str, kb_int_tuple, kb_int_list, kb_str_NoneType, kb_str_bool, kb_str_int, kb_str_str, kb_str_tuple, kb_str_list, kb_tuple_NoneType, kb_tuple_bool, kb_tuple_int, kb_tuple_str, kb_tuple_tuple, kb_tuple_list, kb_list_NoneType, kb_list_bool, kb_list_int, kb_list_str, kb_list_tuple, kb_list_list, c_kind_height, c_has_ground, c_opened, c_same_shape, c_as_precise, c_value_fits, c_use_fits, c__law_draws, c__law_draw, c__law_number, c__law_same, c__law_kind, c__law_tall, c__law_any_kind, c__law_agreeing, c__law_has, c__law_open, c__law_value, c__law_used, c__law_value_fits, c__law_use_fits, c__law_changed, c_law, c_Kind, so_seq, so_nil, so_set, so_expr, so_ret, so_retN, so_pass, so_brk, so_cnt, so_never, so_raise, so_try, so_ite, ret_bl, ret_int, ret_str, ret_non, kd_ty, isP, if_true]
    by_cases h3 : r = 3
    · simp only [h3, decide_true, if_true]
      rw [ret_li rfl]
      exact q .unk d1 (Nat.zero_le _)
    · simp only [h3, decide_false, Bool.false_eq_true, if_false]
      refine ofE (ixf1 a1 a2) ?_
      refine ih1 (M - 1) (n - 1) (k + 1) d1 t (by omega) (by omega) (by omega) (by omega) fun b1 d2 hb1 => ?_
      refine ofE (ixf2 a1 a2) ?_
      refine ih2 (M - 1) (n - 1) (k + 1) d2 t (by omega) (by omega) (by omega) (by omega) fun b2 d3 hb2 => ?_
      refine ofE (ixf0 a1 a2) ?_
      simp only [ok_ok, ok_noex, ok_var, ok_lit, ok_prim, ok_nil, ok_cons, ok_call, ok_and, ok_or, ok_iteE, ok_chain, ok_meth, ok_attr, ok_join, ok_jnil, ok_jcons, p_not, p_add, p_sub, p_adds, p_muls, p_mulr, p_fdiv, p_mod, p_pow, p_eqi, p_eqs, p_eqb, p_nei, p_nes, p_neb, p_lt, p_le, p_gt, p_ge, p_is, p_isnot, p_lens, p_lent, p_lenk, p_int, p_bool, p_min, p_max, p_tup, p_lst, p_fmts, p_ixt, p_ixs, p_slse, p_slsu, p_isity, p_isigl, bm_rm, bm_st, tr_bl, tr_non, tr_int, tr_tup, tr_kls, tr_str, Mp.isNon, List.getElem?_cons_zero, List.getElem?_cons_succ, List.set_cons_zero, List.set_cons_succ, ity_non, ity_bl, ity_int, ity_str, ity_tup, ity_kls, kb_NoneType_NoneType, kb_NoneType_bool, kb_NoneType_int, kb_NoneType_str, kb_NoneType_tuple, kb_NoneType_list, kb_bool_NoneType, kb_bool_bool, kb_bool_int, kb_bool_str, kb_bool_tuple, kb_bool_list, kb_int_NoneType, kb_int_bool, kb_int_int, kb_int_str, kb_int_tuple, kb_int_list, kb_str_NoneType, kb_str_bool, kb_str_int, kb_str_str, kb_str_tuple, kb_str_list, kb_tuple_NoneType, kb_tuple_bool, kb_tuple_int, kb_tuple_str, kb_tuple_tuple, kb_tuple_list, kb_list_NoneType, kb_list_bool, kb_list_int, kb_list_str, kb_list_tuple, kb_list_list, c_kind_height, c_has_ground, c_opened, c_same_shape, c_as_precise, c_value_fits, c_use_fits, c__law_draws, c__law_draw, c__law_number, c__law_same, c__law_kind, c__law_tall, c__law_any_kind, c__law_agreeing, c__law_has, c__law_open, c__law_value, c__law_used, c__law_value_fits, c__law_use_fits, c__law_changed, c_law, c_Kind, so_seq, so_nil, so_set, so_expr, so_ret, so_retN, so_pass, so_brk, so_cnt, so_never, so_raise, so_try, so_ite, ret_bl, ret_int, ret_str, ret_non, c3, true_and]
      refine ofE (ret_li (d := kd (.fn b1 b2)) (kd_cl _ _)) (q (.fn b1 b2) d3 ?_)
      show max (ht b1) (ht b2) + 1 ≤ M
      omega
  | pr a1 a2 ih1 ih2 =>
    intro M n k ds t Q ha hn hM hk q
    have ha' : max (ht a1) (ht a2) + 1 ≤ M := ha
    have hk : max (ht a1) (ht a2) + 1 + 12 ≤ k := hk
    obtain ⟨k, rfl⟩ : ∃ j, k = j + 2 := ⟨k - 2, by omega⟩
    rw [r__law_agreeing]
    simp only [F__law_agreeing, ok_ok, ok_noex, ok_var, ok_lit, ok_prim, ok_nil, ok_cons, ok_call, ok_and, ok_or, ok_iteE, ok_chain, ok_meth, ok_attr, ok_join, ok_jnil, ok_jcons, p_not, p_add, p_sub, p_adds, p_muls, p_mulr, p_fdiv, p_mod, p_pow, p_eqi, p_eqs, p_eqb, p_nei, p_nes, p_neb, p_lt, p_le, p_gt, p_ge, p_is, p_isnot, p_lens, p_lent, p_lenk, p_int, p_bool, p_min, p_max, p_tup, p_lst, p_fmts, p_ixt, p_ixs, p_slse, p_slsu, p_isity, p_isigl, bm_rm, bm_st, tr_bl, tr_non, tr_int, tr_tup, tr_kls, tr_str, Mp.isNon, List.getElem?_cons_zero, List.getElem?_cons_succ, List.set_cons_zero, List.set_cons_succ, ity_non, ity_bl, ity_int, ity_str, ity_tup, ity_kls, kb_NoneType_NoneType, kb_NoneType_bool, kb_NoneType_int, kb_NoneType_str, kb_NoneType_tuple, kb_NoneType_list, kb_bool_NoneType, kb_bool_bool, kb_bool_int, kb_bool_str, kb_bool_tuple, kb_bool_list, kb_int_NoneType, kb_int_bool, kb_int_int, kb_int_str, kb_int_tuple, kb_int_list, kb_str_NoneType, kb_str_bool, kb_str_int, kb_str_str, kb_str_tuple, kb_str_list, kb_tuple_NoneType, kb_tuple_bool, kb_tuple_int, kb_tuple_str, kb_tuple_tuple, kb_tuple_list, kb_list_NoneType, kb_list_bool, kb_list_int, kb_list_str, kb_list_tuple, kb_list_list, c_kind_height, c_has_ground, c_opened, c_same_shape, c_as_precise, c_value_fits, c_use_fits, c__law_draws, c__law_draw, c__law_number, c__law_same, c__law_kind, c__law_tall, c__law_any_kind, c__law_agreeing, c__law_has, c__law_open, c__law_value, c__law_used, c__law_value_fits, c__law_use_fits, c__law_changed, c_law, c_Kind, so_seq, so_nil, so_set, so_expr, so_ret, so_retN, so_pass, so_brk, so_cnt, so_never, so_raise, so_try, so_ite, ret_bl, ret_int, ret_str, ret_non, p_equ (.pr a1 a2) (by omega), isU, Bool.false_eq_true, if_false]
    refine draw k ds t 4 (by decide) fun r d1 r0 r1 => ?_
    simp only [ok_ok, ok_noex, ok_var, ok_lit, ok_prim, ok_nil, ok_cons, ok_call, ok_and, ok_or, ok_iteE, ok_chain, ok_meth, ok_attr, ok_join, ok_jnil, ok_jcons, p_not, p_add, p_sub, p_adds, p_muls, p_mulr, p_fdiv, p_mod, p_pow, p_eqi, p_eqs, p_eqb, p_nei, p_nes, p_neb, p_lt, p_le, p_gt, p_ge, p_is, p_isnot, p_lens, p_lent, p_lenk, p_int, p_bool, p_min, p_max, p_tup, p_lst, p_fmts, p_ixt, p_ixs, p_slse, p_slsu, p_isity, p_isigl, bm_rm, bm_st, tr_bl, tr_non, tr_int, tr_tup, tr_kls, tr_str, Mp.isNon, List.getElem?_cons_zero, List.getElem?_cons_succ, List.set_cons_zero, List.set_cons_succ, ity_non, ity_bl, ity_int, ity_str, ity_tup, ity_kls, kb_NoneType_NoneType, kb_NoneType_bool, kb_NoneType_int, kb_NoneType_str, kb_NoneType_tuple, kb_NoneType_list, kb_bool_NoneType, kb_bool_bool, kb_bool_int, kb_bool_str, kb_bool_tuple, kb_bool_list, kb_int_NoneType, kb_int_bool, kb_int_int, kb_int_str, kb_int_tuple, kb_int_list, kb_str_NoneType, kb_str_bool, kb_str_int, kb_str_str, kb_str_tuple, kb_str_list, kb_tuple_NoneType, kb_tuple_bool, kb_tuple_int, kb_tuple_str, kb_tuple_tuple, kb_tuple_list, kb_list_NoneType, kb_list_bool, kb_list_int, kb_list_str, kb_list_tuple, kb_list_list, c_kind_height, c_has_ground, c_opened, c_same_shape, c_as_precise, c_value_fits, c_use_fits, c__law_draws, c__law_draw, c__law_number, c__law_same, c__law_kind, c__law_tall, c__law_any_kind, c__law_agreeing, c__law_has, c__law_open, c__law_value, c__law_used, c__law_value_fits, c__law_use_fits, c__law_changed, c_law, c_Kind, so_seq, so_nil, so_set, so_expr, so_ret, so_retN, so_pass, so_brk, so_cnt, so_never, so_raise, so_try, so_ite, ret_bl, ret_int, ret_str, ret_non, kd_ty, isP, if_true]
    by_cases h3 : r = 3
    · simp only [h3, decide_true, if_true]
      rw [ret_li rfl]
      exact q .unk d1 (Nat.zero_le _)
    · simp only [h3, decide_false, Bool.false_eq_true, if_false]
      refine ofE (ixp1 a1 a2) ?_
      refine ih1 (M - 1) (n - 1) (k + 1) d1 t (by omega) (by omega) (by omega) (by omega) fun b1 d2 hb1 => ?_
      refine ofE (ixp2 a1 a2) ?_
      refine ih2 (M - 1) (n - 1) (k + 1) d2 t (by omega) (by omega) (by omega) (by omega) fun b2 d3 hb2 => ?_
      refine ofE (ixp0 a1 a2) ?_
      simp only [ok_ok, ok_noex, ok_var, ok_lit, ok_prim, ok_nil, ok_cons, ok_call, ok_and, ok_or, ok_iteE, ok_chain, ok_meth, ok_attr, ok_join, ok_jnil, ok_jcons, p_not, p_add, p_sub, p_adds, p_muls, p_mulr, p_fdiv, p_mod, p_pow, p_eqi, p_eqs, p_eqb, p_nei, p_nes, p_neb, p_lt, p_le, p_gt, p_ge, p_is, p_isnot, p_lens, p_lent, p_lenk, p_int, p_bool, p_min, p_max, p_tup, p_lst, p_fmts, p_ixt, p_ixs, p_slse, p_slsu, p_isity, p_isigl, bm_rm, bm_st, tr_bl, tr_non, tr_int, tr_tup, tr_kls, tr_str, Mp.isNon, List.getElem?_cons_zero, List.getElem?_cons_succ, List.set_cons_zero, List.set_cons_succ, ity_non, ity_bl, ity_int, ity_str, ity_tup, ity_kls, kb_NoneType_NoneType, kb_NoneType_bool, kb_NoneType_int, kb_NoneType_str, kb_NoneType_tuple, kb_NoneType_list, kb_bool_NoneType, kb_bool_bool, kb_bool_int, kb_bool_str, kb_bool_tuple, kb_bool_list, kb_int_NoneType, kb_int_bool, kb_int_int, kb_int_str, kb_int_tuple, kb_int_list, kb_str_NoneType, kb_str_bool, kb_str_int, kb_str_str, kb_str_tuple, kb_str_list, kb_tuple_NoneType, kb_tuple_bool, kb_tuple_int, kb_tuple_str, kb_tuple_tuple, kb_tuple_list, kb_list_NoneType, kb_list_bool, kb_list_int, kb_list_str, kb_list_tuple, kb_list_list, c_kind_height, c_has_ground, c_opened, c_same_shape, c_as_precise, c_value_fits, c_use_fits, c__law_draws, c__law_draw, c__law_number, c__law_same, c__law_kind, c__law_tall, c__law_any_kind, c__law_agreeing, c__law_has, c__law_open, c__law_value, c__law_used, c__law_value_fits, c__law_use_fits, c__law_changed, c_law, c_Kind, so_seq, so_nil, so_set, so_expr, so_ret, so_retN, so_pass, so_brk, so_cnt, so_never, so_raise, so_try, so_ite, ret_bl, ret_int, ret_str, ret_non, c3, true_and]
      refine ofE (ret_li (d := kd (.pr b1 b2)) (kd_cl _ _)) (q (.pr b1 b2) d3 ?_)
      show max (ht b1) (ht b2) + 1 ≤ M
      omega
  | unk =>
    intro M n k ds t Q ha hn hM hk q
    obtain ⟨k, rfl⟩ : ∃ j, k = j + 11 := ⟨k - 11, by have : 0 + 12 ≤ k := hk; omega⟩
    rw [r__law_agreeing]
    simp only [F__law_agreeing, ok_ok, ok_noex, ok_var, ok_lit, ok_prim, ok_nil, ok_cons, ok_call, ok_and, ok_or, ok_iteE, ok_chain, ok_meth, ok_attr, ok_join, ok_jnil, ok_jcons, p_not, p_add, p_sub, p_adds, p_muls, p_mulr, p_fdiv, p_mod, p_pow, p_eqi, p_eqs, p_eqb, p_nei, p_nes, p_neb, p_lt, p_le, p_gt, p_ge, p_is, p_isnot, p_lens, p_lent, p_lenk, p_int, p_bool, p_min, p_max, p_tup, p_lst, p_fmts, p_ixt, p_ixs, p_slse, p_slsu, p_isity, p_isigl, bm_rm, bm_st, tr_bl, tr_non, tr_int, tr_tup, tr_kls, tr_str, Mp.isNon, List.getElem?_cons_zero, List.getElem?_cons_succ, List.set_cons_zero, List.set_cons_succ, ity_non, ity_bl, ity_int, ity_str, ity_tup, ity_kls, kb_NoneType_NoneType, kb_NoneType_bool, kb_NoneType_int, kb_NoneType_str, kb_NoneType_tuple, kb_NoneType_list, kb_bool_NoneType, kb_bool_bool, kb_bool_int, kb_bool_str, kb_bool_tuple, kb_bool_list, kb_int_NoneType, kb_int_bool, kb_int_int, kb_int_str, kb_int_tuple, kb_int_list, kb_str_NoneType, kb_str_bool, kb_str_int, kb_str_str, kb_str_tuple, kb_str_list, kb_tuple_NoneType, kb_tuple_bool, kb_tuple_int, kb_tuple_str, kb_tuple_tuple, kb_tuple_list, kb_list_NoneType, kb_list_bool, kb_list_int, kb_list_str, kb_list_tuple, kb_list_list, c_kind_height, c_has_ground, c_opened, c_same_shape, c_as_precise, c_value_fits, c_use_fits, c__law_draws, c__law_draw, c__law_number, c__law_same, c__law_kind, c__law_tall, c__law_any_kind, c__law_agreeing, c__law_has, c__law_open, c__law_value, c__law_used, c__law_value_fits, c__law_use_fits, c__law_changed, c_law, c_Kind, so_seq, so_nil, so_set, so_expr, so_ret, so_retN, so_pass, so_brk, so_cnt, so_never, so_raise, so_try, so_ite, ret_bl, ret_int, ret_str, ret_non, p_equ .unk (by decide), isU, if_true]
    refine kindZ n M hn hM k ds t fun b d1 hb => ?_
    rw [ret_li (kd_cl _ _)]
    exact q b d1 hb
  | _ =>
    intro M n k ds t Q ha hn hM hk q
    obtain ⟨k, rfl⟩ : ∃ j, k = j + 2 := ⟨k - 2, by omega⟩
    rw [r__law_agreeing]
    simp only [F__law_agreeing, ok_ok, ok_noex, ok_var, ok_lit, ok_prim, ok_nil, ok_cons, ok_call, ok_and, ok_or, ok_iteE, ok_chain, ok_meth, ok_attr, ok_join, ok_jnil, ok_jcons, p_not, p_add, p_sub, p_adds, p_muls, p_mulr, p_fdiv, p_mod, p_pow, p_eqi, p_eqs, p_eqb, p_nei, p_nes, p_neb, p_lt, p_le, p_gt, p_ge, p_is, p_isnot, p_lens, p_lent, p_lenk, p_int, p_bool, p_min, p_max, p_tup, p_lst, p_fmts, p_ixt, p_ixs, p_slse, p_slsu, p_isity, p_isigl, bm_rm, bm_st, tr_bl, tr_non, tr_int, tr_tup, tr_kls, tr_str, Mp.isNon, List.getElem?_cons_zero, List.getElem?_cons_succ, List.set_cons_zero, List.set_cons_succ, ity_non, ity_bl, ity_int, ity_str, ity_tup, ity_kls, kb_NoneType_NoneType, kb_NoneType_bool, kb_NoneType_int, kb_NoneType_str, kb_NoneType_tuple, kb_NoneType_list, kb_bool_NoneType, kb_bool_bool, kb_bool_int, kb_bool_str, kb_bool_tuple, kb_bool_list, kb_int_NoneType, kb_int_bool, kb_int_int, kb_int_str, kb_int_tuple, kb_int_list, kb_str_NoneType, kb_str_bool, kb_str_int, kb_str_str, kb_str_tuple, kb_str_list, kb_tuple_NoneType, kb_tuple_bool, kb_tuple_int, kb_tuple_str, kb_tuple_tuple, kb_tuple_list, kb_list_NoneType, kb_list_bool, kb_list_int, kb_list_str, kb_list_tuple, kb_list_list, c_kind_height, c_has_ground, c_opened, c_same_shape, c_as_precise, c_value_fits, c_use_fits, c__law_draws, c__law_draw, c__law_number, c__law_same, c__law_kind, c__law_tall, c__law_any_kind, c__law_agreeing, c__law_has, c__law_open, c__law_value, c__law_used, c__law_value_fits, c__law_use_fits, c__law_changed, c_law, c_Kind, so_seq, so_nil, so_set, so_expr, so_ret, so_retN, so_pass, so_brk, so_cnt, so_never, so_raise, so_try, so_ite, ret_bl, ret_int, ret_str, ret_non, p_equ _ (Nat.le_trans ha (Nat.le_trans hM (by decide : 8 ≤ 64))), isU, Bool.false_eq_true, if_false]
    refine draw k ds t 4 (by decide) fun r d1 r0 r1 => ?_
    simp only [ok_ok, ok_noex, ok_var, ok_lit, ok_prim, ok_nil, ok_cons, ok_call, ok_and, ok_or, ok_iteE, ok_chain, ok_meth, ok_attr, ok_join, ok_jnil, ok_jcons, p_not, p_add, p_sub, p_adds, p_muls, p_mulr, p_fdiv, p_mod, p_pow, p_eqi, p_eqs, p_eqb, p_nei, p_nes, p_neb, p_lt, p_le, p_gt, p_ge, p_is, p_isnot, p_lens, p_lent, p_lenk, p_int, p_bool, p_min, p_max, p_tup, p_lst, p_fmts, p_ixt, p_ixs, p_slse, p_slsu, p_isity, p_isigl, bm_rm, bm_st, tr_bl, tr_non, tr_int, tr_tup, tr_kls, tr_str, Mp.isNon, List.getElem?_cons_zero, List.getElem?_cons_succ, List.set_cons_zero, List.set_cons_succ, ity_non, ity_bl, ity_int, ity_str, ity_tup, ity_kls, kb_NoneType_NoneType, kb_NoneType_bool, kb_NoneType_int, kb_NoneType_str, kb_NoneType_tuple, kb_NoneType_list, kb_bool_NoneType, kb_bool_bool, kb_bool_int, kb_bool_str, kb_bool_tuple, kb_bool_list, kb_int_NoneType, kb_int_bool, kb_int_int, kb_int_str, kb_int_tuple, kb_int_list, kb_str_NoneType, kb_str_bool, kb_str_int, kb_str_str, kb_str_tuple, kb_str_list, kb_tuple_NoneType, kb_tuple_bool, kb_tuple_int, kb_tuple_str, kb_tuple_tuple, kb_tuple_list, kb_list_NoneType, kb_list_bool, kb_list_int, kb_list_str, kb_list_tuple, kb_list_list, c_kind_height, c_has_ground, c_opened, c_same_shape, c_as_precise, c_value_fits, c_use_fits, c__law_draws, c__law_draw, c__law_number, c__law_same, c__law_kind, c__law_tall, c__law_any_kind, c__law_agreeing, c__law_has, c__law_open, c__law_value, c__law_used, c__law_value_fits, c__law_use_fits, c__law_changed, c_law, c_Kind, so_seq, so_nil, so_set, so_expr, so_ret, so_retN, so_pass, so_brk, so_cnt, so_never, so_raise, so_try, so_ite, ret_bl, ret_int, ret_str, ret_non, kd_ty, isP, Bool.false_eq_true, if_false]
    by_cases h3 : r = 3
    · simp only [h3, decide_true, if_true]
      rw [ret_li rfl]
      exact q .unk d1 (Nat.zero_le _)
    · simp only [h3, decide_false, Bool.false_eq_true, if_false]
      rw [ret_li (kd_cl _ _)]
      exact q _ d1 ha
theorem p_intb {C : Cal} {h : HD} {Q : D → HD → Prop} (b : Bool) : okx (fun _ _ => False) (Mp.prD tb.gi C (.b .int) [.bl b] h) Q = Q (.int (if b then 1 else 0)) h := rfl
theorem wEf : decide (("fun" : Str) = "pair") = false := by decide +kernel
theorem wEp : decide (("pair" : Str) = "pair") = true := by decide +kernel
theorem wIf : Mp.atI [D.str "pair", D.str "fun"] (if false = true then 1 else 0) = some (.str "pair") := rfl
theorem wIp : Mp.atI [D.str "pair", D.str "fun"] (if true = true then 1 else 0) = some (.str "fun") := rfl
theorem anyk (k : Nat) (ds : List Int) (t : HD) {Q : D → HD → Prop} (q : ∀ a ds', ht a ≤ 8 → Q (kd a) (li ds' :: t)) : okx (fun _ _ => False) (run tb.prog (k + 7) "_law_any_kind" [.ref 0] (li ds :: t)) Q := by
  rw [r__law_any_kind]
  simp only [F__law_any_kind, ok_ok, ok_noex, ok_var, ok_lit, ok_prim, ok_nil, ok_cons, ok_call, ok_and, ok_or, ok_iteE, ok_chain, ok_meth, ok_attr, ok_join, ok_jnil, ok_jcons, p_not, p_add, p_sub, p_adds, p_muls, p_mulr, p_fdiv, p_mod, p_pow, p_eqi, p_eqs, p_eqb, p_nei, p_nes, p_neb, p_lt, p_le, p_gt, p_ge, p_is, p_isnot, p_lens, p_lent, p_lenk, p_int, p_bool, p_min, p_max, p_tup, p_lst, p_fmts, p_ixt, p_ixs, p_slse, p_slsu, p_isity, p_isigl, bm_rm, bm_st, tr_bl, tr_non, tr_int, tr_tup, tr_kls, tr_str, Mp.isNon, List.getElem?_cons_zero, List.getElem?_cons_succ, List.set_cons_zero, List.set_cons_succ, ity_non, ity_bl, ity_int, ity_str, ity_tup, ity_kls, kb_NoneType_NoneType, kb_NoneType_bool, kb_NoneType_int, kb_NoneType_str, kb_NoneType_tuple, kb_NoneType_list, kb_bool_NoneType, kb_bool_bool, kb_bool_int, kb_bool_str, kb_bool_tuple, kb_bool_list, kb_int_NoneType, kb_int_bool, kb_int_int, kb_int_str, kb_int_tuple, kb_int_list, kb_str_NoneType, kb_str_bool, kb_str_int, kb_str_str, kb_str_tuple, kb_str_list, kb_tuple_NoneType, kb_tuple_bool, kb_tuple_int, kb_tuple_str, kb_tuple_tuple, kb_tuple_list, kb_list_NoneType, kb_list_bool, kb_list_int, kb_list_str, kb_list_tuple, kb_list_list, c_kind_height, c_has_ground, c_opened, c_same_shape, c_as_precise, c_value_fits, c_use_fits, c__law_draws, c__law_draw, c__law_number, c__law_same, c__law_kind, c__law_tall, c__law_any_kind, c__law_agreeing, c__law_has, c__law_open, c__law_value, c__law_used, c__law_value_fits, c__law_use_fits, c__law_changed, c_law, c_Kind, so_seq, so_nil, so_set, so_expr, so_ret, so_retN, so_pass, so_brk, so_cnt, so_never, so_raise, so_try, so_ite, ret_bl, ret_int, ret_str, ret_non]
  refine draw (k + 5) ds t 6 (by decide) fun r d1 r0 r1 => ?_
  simp only [ok_ok, ok_noex, ok_var, ok_lit, ok_prim, ok_nil, ok_cons, ok_call, ok_and, ok_or, ok_iteE, ok_chain, ok_meth, ok_attr, ok_join, ok_jnil, ok_jcons, p_not, p_add, p_sub, p_adds, p_muls, p_mulr, p_fdiv, p_mod, p_pow, p_eqi, p_eqs, p_eqb, p_nei, p_nes, p_neb, p_lt, p_le, p_gt, p_ge, p_is, p_isnot, p_lens, p_lent, p_lenk, p_int, p_bool, p_min, p_max, p_tup, p_lst, p_fmts, p_ixt, p_ixs, p_slse, p_slsu, p_isity, p_isigl, bm_rm, bm_st, tr_bl, tr_non, tr_int, tr_tup, tr_kls, tr_str, Mp.isNon, List.getElem?_cons_zero, List.getElem?_cons_succ, List.set_cons_zero, List.set_cons_succ, ity_non, ity_bl, ity_int, ity_str, ity_tup, ity_kls, kb_NoneType_NoneType, kb_NoneType_bool, kb_NoneType_int, kb_NoneType_str, kb_NoneType_tuple, kb_NoneType_list, kb_bool_NoneType, kb_bool_bool, kb_bool_int, kb_bool_str, kb_bool_tuple, kb_bool_list, kb_int_NoneType, kb_int_bool, kb_int_int, kb_int_str, kb_int_tuple, kb_int_list, kb_str_NoneType, kb_str_bool, kb_str_int, kb_str_str, kb_str_tuple, kb_str_list, kb_tuple_NoneType, kb_tuple_bool, kb_tuple_int, kb_tuple_str, kb_tuple_tuple, kb_tuple_list, kb_list_NoneType, kb_list_bool, kb_list_int, kb_list_str, kb_list_tuple, kb_list_list, c_kind_height, c_has_ground, c_opened, c_same_shape, c_as_precise, c_value_fits, c_use_fits, c__law_draws, c__law_draw, c__law_number, c__law_same, c__law_kind, c__law_tall, c__law_any_kind, c__law_agreeing, c__law_has, c__law_open, c__law_value, c__law_used, c__law_value_fits, c__law_use_fits, c__law_changed, c_law, c_Kind, so_seq, so_nil, so_set, so_expr, so_ret, so_retN, so_pass, so_brk, so_cnt, so_never, so_raise, so_try, so_ite, ret_bl, ret_int, ret_str, ret_non]
  by_cases h5 : r = 5
  · simp only [h5, decide_true, if_true]
    refine tall (k + 3) d1 t fun a d2 ha => ?_
    rw [ret_li (kd_cl _ _)]
    exact q a d2 ha
  · simp only [h5, decide_false, Bool.false_eq_true, if_false]
    refine kindE 3 (k + 1) d1 t fun a d2 ha => ?_
    rw [ret_li (kd_cl _ _)]
    exact q a d2 (by omega)
theorem fE : decide (("fun" : Str) = "fun") = true := by decide +kernel
theorem pE : decide (("pair" : Str) = "fun") = false := by decide +kernel
theorem fI : Mp.atI [D.str "fun", D.str "pair"] (if true = true then 1 else 0) = some (.str "pair") := rfl
theorem pI : Mp.atI [D.str "fun", D.str "pair"] (if false = true then 1 else 0) = some (.str "fun") := rfl
theorem minle (M : Nat) : (if (M : Int) < 1 then (M : Int) else 1) ≤ (M : Int) := by split <;> omega
theorem changed : ∀ (a : Kn) (M : Nat) (k : Nat) (ds : List Int) (t : HD) {Q : D → HD → Prop}, ht a ≤ M → M ≤ 8 → ht a + 13 ≤ k → (∀ b ds', ht b ≤ M → Q (kd b) (li ds' :: t)) → okx (fun _ _ => False) (run tb.prog k "_law_changed" [.ref 0, kd a, .int (M : Int)] (li ds :: t)) Q := by
  intro a
  induction a with
  | fn a1 a2 ih1 ih2 =>
    intro M k ds t Q ha hM hk q
    have ha' : max (ht a1) (ht a2) + 1 ≤ M := ha
    have hk : max (ht a1) (ht a2) + 1 + 13 ≤ k := hk
    obtain ⟨k, rfl⟩ : ∃ j, k = j + 11 := ⟨k - 11, by omega⟩
    obtain ⟨M, rfl⟩ : ∃ j, M = j + 1 := ⟨M - 1, by omega⟩
    have e1 : (((M + 1 : Nat) : Int) - 1) = (M : Int) := by omega
    rw [r__law_changed]
    simp only [F__law_changed, ok_ok, ok_noex, ok_var, ok_lit, ok_prim, ok_nil, ok_cons, ok_call, ok_and, ok_or, ok_iteE, ok_chain, ok_meth, ok_attr, ok_join, ok_jnil, ok_jcons, p_not, p_add, p_sub, p_adds, p_muls, p_mulr, p_fdiv, p_mod, p_pow, p_eqi, p_eqs, p_eqb, p_nei, p_nes, p_neb, p_lt, p_le, p_gt, p_ge, p_is, p_isnot, p_lens, p_lent, p_lenk, p_int, p_bool, p_min, p_max, p_tup, p_lst, p_fmts, p_ixt, p_ixs, p_slse, p_slsu, p_isity, p_isigl, bm_rm, bm_st, tr_bl, tr_non, tr_int, tr_tup, tr_kls, tr_str, Mp.isNon, List.getElem?_cons_zero, List.getElem?_cons_succ, List.set_cons_zero, List.set_cons_succ, ity_non, ity_bl, ity_int, ity_str, ity_tup, ity_kls, kb_NoneType_NoneType, kb_NoneType_bool, kb_NoneType_int, kb_NoneType_str, kb_NoneType_tuple, kb_NoneType_list, kb_bool_NoneType, kb_bool_bool, kb_bool_int, kb_bool_str, kb_bool_tuple, kb_bool_list, kb_int_NoneType, kb_int_bool, kb_int_int, kb_int_str, kb_int_tuple, kb_int_list, kb_str_NoneType, kb_str_bool, kb_str_int, kb_str_str, kb_str_tuple, kb_str_list, kb_tuple_NoneType, kb_tuple_bool, kb_tuple_int, kb_tuple_str, kb_tuple_tuple, kb_tuple_list, kb_list_NoneType, kb_list_bool, kb_list_int, kb_list_str, kb_list_tuple, kb_list_list, c_kind_height, c_has_ground, c_opened, c_same_shape, c_as_precise, c_value_fits, c_use_fits, c__law_draws, c__law_draw, c__law_number, c__law_same, c__law_kind, c__law_tall, c__law_any_kind, c__law_agreeing, c__law_has, c__law_open, c__law_value, c__law_used, c__law_value_fits, c__law_use_fits, c__law_changed, c_law, c_Kind, so_seq, so_nil, so_set, so_expr, so_ret, so_retN, so_pass, so_brk, so_cnt, so_never, so_raise, so_try, so_ite, ret_bl, ret_int, ret_str, ret_non, kd_ty, isP, if_true]
    refine draw (k + 9) ds t 3 (by decide) fun r d1 r0 r1 => ?_
    simp only [ok_ok, ok_noex, ok_var, ok_lit, ok_prim, ok_nil, ok_cons, ok_call, ok_and, ok_or, ok_iteE, ok_chain, ok_meth, ok_attr, ok_join, ok_jnil, ok_jcons, p_not, p_add, p_sub, p_adds, p_muls, p_mulr, p_fdiv, p_mod, p_pow, p_eqi, p_eqs, p_eqb, p_nei, p_nes, p_neb, p_lt, p_le, p_gt, p_ge, p_is, p_isnot, p_lens, p_lent, p_lenk, p_int, p_bool, p_min, p_max, p_tup, p_lst, p_fmts, p_ixt, p_ixs, p_slse, p_slsu, p_isity, p_isigl, bm_rm, bm_st, tr_bl, tr_non, tr_int, tr_tup, tr_kls, tr_str, Mp.isNon, List.getElem?_cons_zero, List.getElem?_cons_succ, List.set_cons_zero, List.set_cons_succ, ity_non, ity_bl, ity_int, ity_str, ity_tup, ity_kls, kb_NoneType_NoneType, kb_NoneType_bool, kb_NoneType_int, kb_NoneType_str, kb_NoneType_tuple, kb_NoneType_list, kb_bool_NoneType, kb_bool_bool, kb_bool_int, kb_bool_str, kb_bool_tuple, kb_bool_list, kb_int_NoneType, kb_int_bool, kb_int_int, kb_int_str, kb_int_tuple, kb_int_list, kb_str_NoneType, kb_str_bool, kb_str_int, kb_str_str, kb_str_tuple, kb_str_list, kb_tuple_NoneType, kb_tuple_bool, kb_tuple_int, kb_tuple_str, kb_tuple_tuple, kb_tuple_list, kb_list_NoneType, kb_list_bool, kb_list_int, kb_list_str, kb_list_tuple, kb_list_list, c_kind_height, c_has_ground, c_opened, c_same_shape, c_as_precise, c_value_fits, c_use_fits, c__law_draws, c__law_draw, c__law_number, c__law_same, c__law_kind, c__law_tall, c__law_any_kind, c__law_agreeing, c__law_has, c__law_open, c__law_value, c__law_used, c__law_value_fits, c__law_use_fits, c__law_changed, c_law, c_Kind, so_seq, so_nil, so_set, so_expr, so_ret, so_retN, so_pass, so_brk, so_cnt, so_never, so_raise, so_try, so_ite, ret_bl, ret_int, ret_str, ret_non]
    by_cases h0 : 0 < r
    · simp only [h0, decide_true, if_true]
      refine draw (k + 9) d1 t 2 (by decide) fun s d2 s0 s1 => ?_
      simp only [ok_ok, ok_noex, ok_var, ok_lit, ok_prim, ok_nil, ok_cons, ok_call, ok_and, ok_or, ok_iteE, ok_chain, ok_meth, ok_attr, ok_join, ok_jnil, ok_jcons, p_not, p_add, p_sub, p_adds, p_muls, p_mulr, p_fdiv, p_mod, p_pow, p_eqi, p_eqs, p_eqb, p_nei, p_nes, p_neb, p_lt, p_le, p_gt, p_ge, p_is, p_isnot, p_lens, p_lent, p_lenk, p_int, p_bool, p_min, p_max, p_tup, p_lst, p_fmts, p_ixt, p_ixs, p_slse, p_slsu, p_isity, p_isigl, bm_rm, bm_st, tr_bl, tr_non, tr_int, tr_tup, tr_kls, tr_str, Mp.isNon, List.getElem?_cons_zero, List.getElem?_cons_succ, List.set_cons_zero, List.set_cons_succ, ity_non, ity_bl, ity_int, ity_str, ity_tup, ity_kls, kb_NoneType_NoneType, kb_NoneType_bool, kb_NoneType_int, kb_NoneType_str, kb_NoneType_tuple, kb_NoneType_list, kb_bool_NoneType, kb_bool_bool, kb_bool_int, kb_bool_str, kb_bool_tuple, kb_bool_list, kb_int_NoneType, kb_int_bool, kb_int_int, kb_int_str, kb_int_tuple, kb_int_list, kb_str_NoneType, kb_str_bool, kb_str_int, kb_str_str, kb_str_tuple, kb_str_list, kb_tuple_NoneType, kb_tuple_bool, kb_tuple_int, kb_tuple_str, kb_tuple_tuple, kb_tuple_list, kb_list_NoneType, kb_list_bool, kb_list_int, kb_list_str, kb_list_tuple, kb_list_list, c_kind_height, c_has_ground, c_opened, c_same_shape, c_as_precise, c_value_fits, c_use_fits, c__law_draws, c__law_draw, c__law_number, c__law_same, c__law_kind, c__law_tall, c__law_any_kind, c__law_agreeing, c__law_has, c__law_open, c__law_value, c__law_used, c__law_value_fits, c__law_use_fits, c__law_changed, c_law, c_Kind, so_seq, so_nil, so_set, so_expr, so_ret, so_retN, so_pass, so_brk, so_cnt, so_never, so_raise, so_try, so_ite, ret_bl, ret_int, ret_str, ret_non]
      by_cases hs : s = 0
      · simp only [hs, decide_true, if_true]
        refine ofE (ixf0 a1 a2) (ofE (ixf1 a1 a2) ?_)
        rw [e1]
        refine ih1 M (k + 10) d2 t (by omega) (by omega) (by omega) fun b d3 hb => ?_
        refine ofE (ixf2 a1 a2) ?_
        simp only [ok_ok, ok_noex, ok_var, ok_lit, ok_prim, ok_nil, ok_cons, ok_call, ok_and, ok_or, ok_iteE, ok_chain, ok_meth, ok_attr, ok_join, ok_jnil, ok_jcons, p_not, p_add, p_sub, p_adds, p_muls, p_mulr, p_fdiv, p_mod, p_pow, p_eqi, p_eqs, p_eqb, p_nei, p_nes, p_neb, p_lt, p_le, p_gt, p_ge, p_is, p_isnot, p_lens, p_lent, p_lenk, p_int, p_bool, p_min, p_max, p_tup, p_lst, p_fmts, p_ixt, p_ixs, p_slse, p_slsu, p_isity, p_isigl, bm_rm, bm_st, tr_bl, tr_non, tr_int, tr_tup, tr_kls, tr_str, Mp.isNon, List.getElem?_cons_zero, List.getElem?_cons_succ, List.set_cons_zero, List.set_cons_succ, ity_non, ity_bl, ity_int, ity_str, ity_tup, ity_kls, kb_NoneType_NoneType, kb_NoneType_bool, kb_NoneType_int, kb_NoneType_str, kb_NoneType_tuple, kb_NoneType_list, kb_bool_NoneType, kb_bool_bool, kb_bool_int, kb_bool_str, kb_bool_tuple, kb_bool_list, kb_int_NoneType, kb_int_bool, kb_int_int, kb_int_str, kb_int_tuple, kb_int_list, kb_str_NoneType, kb_str_bool, kb_str_int, kb_str_str, kb_str_tuple, kb_str_list, kb_tuple_NoneType, kb_tuple_bool, kb_tuple_int, kb_tuple_str, kb_tuple_tuple, kb_tuple_list, kb_list_NoneType, kb_list_bool, kb_list_int, kb_list_str, kb_list_tuple, kb_list_list, c_kind_height, c_has_ground, c_opened, c_same_shape, c_as_precise, c_value_fits, c_use_fits, c__law_draws, c__law_draw, c__law_number, c__law_same, c__law_kind, c__law_tall, c__law_any_kind, c__law_agreeing, c__law_has, c__law_open, c__law_value, c__law_used, c__law_value_fits, c__law_use_fits, c__law_changed, c_law, c_Kind, so_seq, so_nil, so_set, so_expr, so_ret, so_retN, so_pass, so_brk, so_cnt, so_never, so_raise, so_try, so_ite, ret_bl, ret_int, ret_str, ret_non, c3, true_and]
        refine ofE (ret_li (d := kd (.fn b a2)) (kd_cl _ _)) (q (.fn b a2) d3 ?_)
        show max (ht b) (ht a2) + 1 ≤ M + 1
        omega
      · simp only [hs, decide_false, Bool.false_eq_true, if_false]
        refine ofE (ixf0 a1 a2) (ofE (ixf1 a1 a2) (ofE (ixf2 a1 a2) ?_))
        rw [e1]
        refine ih2 M (k + 10) d2 t (by omega) (by omega) (by omega) fun b d3 hb => ?_
        simp only [ok_ok, ok_noex, ok_var, ok_lit, ok_prim, ok_nil, ok_cons, ok_call, ok_and, ok_or, ok_iteE, ok_chain, ok_meth, ok_attr, ok_join, ok_jnil, ok_jcons, p_not, p_add, p_sub, p_adds, p_muls, p_mulr, p_fdiv, p_mod, p_pow, p_eqi, p_eqs, p_eqb, p_nei, p_nes, p_neb, p_lt, p_le, p_gt, p_ge, p_is, p_isnot, p_lens, p_lent, p_lenk, p_int, p_bool, p_min, p_max, p_tup, p_lst, p_fmts, p_ixt, p_ixs, p_slse, p_slsu, p_isity, p_isigl, bm_rm, bm_st, tr_bl, tr_non, tr_int, tr_tup, tr_kls, tr_str, Mp.isNon, List.getElem?_cons_zero, List.getElem?_cons_succ, List.set_cons_zero, List.set_cons_succ, ity_non, ity_bl, ity_int, ity_str, ity_tup, ity_kls, kb_NoneType_NoneType, kb_NoneType_bool, kb_NoneType_int, kb_NoneType_str, kb_NoneType_tuple, kb_NoneType_list, kb_bool_NoneType, kb_bool_bool, kb_bool_int, kb_bool_str, kb_bool_tuple, kb_bool_list, kb_int_NoneType, kb_int_bool, kb_int_int, kb_int_str, kb_int_tuple, kb_int_list, kb_str_NoneType, kb_str_bool, kb_str_int, kb_str_str, kb_str_tuple, kb_str_list, kb_tuple_NoneType, kb_tuple_bool, kb_tuple_int, kb_tuple_str, kb_tuple_tuple, kb_tuple_list, kb_list_NoneType, kb_list_bool, kb_list_int, kb_list_str, kb_list_tuple, kb_list_list, c_kind_height, c_has_ground, c_opened, c_same_shape, c_as_precise, c_value_fits, c_use_fits, c__law_draws, c__law_draw, c__law_number, c__law_same, c__law_kind, c__law_tall, c__law_any_kind, c__law_agreeing, c__law_has, c__law_open, c__law_value, c__law_used, c__law_value_fits, c__law_use_fits, c__law_changed, c_law, c_Kind, so_seq, so_nil, so_set, so_expr, so_ret, so_retN, so_pass, so_brk, so_cnt, so_never, so_raise, so_try, so_ite, ret_bl, ret_int, ret_str, ret_non, c3, true_and]
        refine ofE (ret_li (d := kd (.fn a1 b)) (kd_cl _ _)) (q (.fn a1 b) d3 ?_)
        show max (ht a1) (ht b) + 1 ≤ M + 1
        omega
    · simp only [h0, decide_false, Bool.false_eq_true, if_false, if_true]
      refine draw (k + 9) d1 t 2 (by decide) fun s d2 s0 s1 => ?_
      simp only [ok_ok, ok_noex, ok_var, ok_lit, ok_prim, ok_nil, ok_cons, ok_call, ok_and, ok_or, ok_iteE, ok_chain, ok_meth, ok_attr, ok_join, ok_jnil, ok_jcons, p_not, p_add, p_sub, p_adds, p_muls, p_mulr, p_fdiv, p_mod, p_pow, p_eqi, p_eqs, p_eqb, p_nei, p_nes, p_neb, p_lt, p_le, p_gt, p_ge, p_is, p_isnot, p_lens, p_lent, p_lenk, p_int, p_bool, p_min, p_max, p_tup, p_lst, p_fmts, p_ixt, p_ixs, p_slse, p_slsu, p_isity, p_isigl, bm_rm, bm_st, tr_bl, tr_non, tr_int, tr_tup, tr_kls, tr_str, Mp.isNon, List.getElem?_cons_zero, List.getElem?_cons_succ, List.set_cons_zero, List.set_cons_succ, ity_non, ity_bl, ity_int, ity_str, ity_tup, ity_kls, kb_NoneType_NoneType, kb_NoneType_bool, kb_NoneType_int, kb_NoneType_str, kb_NoneType_tuple, kb_NoneType_list, kb_bool_NoneType, kb_bool_bool, kb_bool_int, kb_bool_str, kb_bool_tuple, kb_bool_list, kb_int_NoneType, kb_int_bool, kb_int_int, kb_int_str, kb_int_tuple, kb_int_list, kb_str_NoneType, kb_str_bool, kb_str_int, kb_str_str, kb_str_tuple, kb_str_list, kb_tuple_NoneType, kb_tuple_bool, kb_tuple_int, kb_tuple_str, kb_tuple_tuple, kb_tuple_list, kb_list_NoneType, kb_list_bool, kb_list_int, kb_list_str, kb_list_tuple, kb_list_list, c_kind_height, c_has_ground, c_opened, c_same_shape, c_as_precise, c_value_fits, c_use_fits, c__law_draws, c__law_draw, c__law_number, c__law_same, c__law_kind, c__law_tall, c__law_any_kind, c__law_agreeing, c__law_has, c__law_open, c__law_value, c__law_used, c__law_value_fits, c__law_use_fits, c__law_changed, c_law, c_Kind, so_seq, so_nil, so_set, so_expr, so_ret, so_retN, so_pass, so_brk, so_cnt, so_never, so_raise, so_try, so_ite, ret_bl, ret_int, ret_str, ret_non]
      by_cases hs : s = 0
      · simp only [hs, decide_true, if_true]
        refine ⟨(by decide : 2 ≤ cap), ?_⟩
        refine ofE (ixf0 a1 a2) ?_
        refine ofE (p_eqs _ _) ?_
        rw [fE]
        refine ofE (p_intb _) ?_
        refine ofE (p_ixl _ (lst_at (li d2 :: t) _)) ?_
        simp only [fI]
        refine ofE (ixf1 a1 a2) (ofE (ixf2 a1 a2) ?_)
        simp only [ok_ok, ok_noex, ok_var, ok_lit, ok_prim, ok_nil, ok_cons, ok_call, ok_and, ok_or, ok_iteE, ok_chain, ok_meth, ok_attr, ok_join, ok_jnil, ok_jcons, p_not, p_add, p_sub, p_adds, p_muls, p_mulr, p_fdiv, p_mod, p_pow, p_eqi, p_eqs, p_eqb, p_nei, p_nes, p_neb, p_lt, p_le, p_gt, p_ge, p_is, p_isnot, p_lens, p_lent, p_lenk, p_int, p_bool, p_min, p_max, p_tup, p_lst, p_fmts, p_ixt, p_ixs, p_slse, p_slsu, p_isity, p_isigl, bm_rm, bm_st, tr_bl, tr_non, tr_int, tr_tup, tr_kls, tr_str, Mp.isNon, List.getElem?_cons_zero, List.getElem?_cons_succ, List.set_cons_zero, List.set_cons_succ, ity_non, ity_bl, ity_int, ity_str, ity_tup, ity_kls, kb_NoneType_NoneType, kb_NoneType_bool, kb_NoneType_int, kb_NoneType_str, kb_NoneType_tuple, kb_NoneType_list, kb_bool_NoneType, kb_bool_bool, kb_bool_int, kb_bool_str, kb_bool_tuple, kb_bool_list, kb_int_NoneType, kb_int_bool, kb_int_int, kb_int_str, kb_int_tuple, kb_int_list, kb_str_NoneType, kb_str_bool, kb_str_int, kb_str_str, kb_str_tuple, kb_str_list, kb_tuple_NoneType, kb_tuple_bool, kb_tuple_int, kb_tuple_str, kb_tuple_tuple, kb_tuple_list, kb_list_NoneType, kb_list_bool, kb_list_int, kb_list_str, kb_list_tuple, kb_list_list, c_kind_height, c_has_ground, c_opened, c_same_shape, c_as_precise, c_value_fits, c_use_fits, c__law_draws, c__law_draw, c__law_number, c__law_same, c__law_kind, c__law_tall, c__law_any_kind, c__law_agreeing, c__law_has, c__law_open, c__law_value, c__law_used, c__law_value_fits, c__law_use_fits, c__law_changed, c_law, c_Kind, so_seq, so_nil, so_set, so_expr, so_ret, so_retN, so_pass, so_brk, so_cnt, so_never, so_raise, so_try, so_ite, ret_bl, ret_int, ret_str, ret_non, c3, true_and]
        exact ofE (ret_li2 (d := kd (.pr a1 a2)) (kd_cl _ _)) (q (.pr a1 a2) d2 ha)
      · simp only [hs, decide_false, Bool.false_eq_true, if_false]
        refine kindZ _ (M + 1) (minle (M + 1)) hM k d2 t fun b d3 hb => ?_
        rw [ret_li (kd_cl _ _)]
        exact q b d3 hb
  | pr a1 a2 ih1 ih2 =>
    intro M k ds t Q ha hM hk q
    have ha' : max (ht a1) (ht a2) + 1 ≤ M := ha
    have hk : max (ht a1) (ht a2) + 1 + 13 ≤ k := hk
    obtain ⟨k, rfl⟩ : ∃ j, k = j + 11 := ⟨k - 11, by omega⟩
    obtain ⟨M, rfl⟩ : ∃ j, M = j + 1 := ⟨M - 1, by omega⟩
    have e1 : (((M + 1 : Nat) : Int) - 1) = (M : Int) := by omega
    rw [r__law_changed]
    simp only [F__law_changed, ok_ok, ok_noex, ok_var, ok_lit, ok_prim, ok_nil, ok_cons, ok_call, ok_and, ok_or, ok_iteE, ok_chain, ok_meth, ok_attr, ok_join, ok_jnil, ok_jcons, p_not, p_add, p_sub, p_adds, p_muls, p_mulr, p_fdiv, p_mod, p_pow, p_eqi, p_eqs, p_eqb, p_nei, p_nes, p_neb, p_lt, p_le, p_gt, p_ge, p_is, p_isnot, p_lens, p_lent, p_lenk, p_int, p_bool, p_min, p_max, p_tup, p_lst, p_fmts, p_ixt, p_ixs, p_slse, p_slsu, p_isity, p_isigl, bm_rm, bm_st, tr_bl, tr_non, tr_int, tr_tup, tr_kls, tr_str, Mp.isNon, List.getElem?_cons_zero, List.getElem?_cons_succ, List.set_cons_zero, List.set_cons_succ, ity_non, ity_bl, ity_int, ity_str, ity_tup, ity_kls, kb_NoneType_NoneType, kb_NoneType_bool, kb_NoneType_int, kb_NoneType_str, kb_NoneType_tuple, kb_NoneType_list, kb_bool_NoneType, kb_bool_bool, kb_bool_int, kb_bool_str, kb_bool_tuple, kb_bool_list, kb_int_NoneType, kb_int_bool, kb_int_int, kb_int_str, kb_int_tuple, kb_int_list, kb_str_NoneType, kb_str_bool, kb_str_int, kb_str_str, kb_str_tuple, kb_str_list, kb_tuple_NoneType, kb_tuple_bool, kb_tuple_int, kb_tuple_str, kb_tuple_tuple, kb_tuple_list, kb_list_NoneType, kb_list_bool, kb_list_int, kb_list_str, kb_list_tuple, kb_list_list, c_kind_height, c_has_ground, c_opened, c_same_shape, c_as_precise, c_value_fits, c_use_fits, c__law_draws, c__law_draw, c__law_number, c__law_same, c__law_kind, c__law_tall, c__law_any_kind, c__law_agreeing, c__law_has, c__law_open, c__law_value, c__law_used, c__law_value_fits, c__law_use_fits, c__law_changed, c_law, c_Kind, so_seq, so_nil, so_set, so_expr, so_ret, so_retN, so_pass, so_brk, so_cnt, so_never, so_raise, so_try, so_ite, ret_bl, ret_int, ret_str, ret_non, kd_ty, isP, if_true]
    refine draw (k + 9) ds t 3 (by decide) fun r d1 r0 r1 => ?_
    simp only [ok_ok, ok_noex, ok_var, ok_lit, ok_prim, ok_nil, ok_cons, ok_call, ok_and, ok_or, ok_iteE, ok_chain, ok_meth, ok_attr, ok_join, ok_jnil, ok_jcons, p_not, p_add, p_sub, p_adds, p_muls, p_mulr, p_fdiv, p_mod, p_pow, p_eqi, p_eqs, p_eqb, p_nei, p_nes, p_neb, p_lt, p_le, p_gt, p_ge, p_is, p_isnot, p_lens, p_lent, p_lenk, p_int, p_bool, p_min, p_max, p_tup, p_lst, p_fmts, p_ixt, p_ixs, p_slse, p_slsu, p_isity, p_isigl, bm_rm, bm_st, tr_bl, tr_non, tr_int, tr_tup, tr_kls, tr_str, Mp.isNon, List.getElem?_cons_zero, List.getElem?_cons_succ, List.set_cons_zero, List.set_cons_succ, ity_non, ity_bl, ity_int, ity_str, ity_tup, ity_kls, kb_NoneType_NoneType, kb_NoneType_bool, kb_NoneType_int, kb_NoneType_str, kb_NoneType_tuple, kb_NoneType_list, kb_bool_NoneType, kb_bool_bool, kb_bool_int, kb_bool_str, kb_bool_tuple, kb_bool_list, kb_int_NoneType, kb_int_bool, kb_int_int, kb_int_str, kb_int_tuple, kb_int_list, kb_str_NoneType, kb_str_bool, kb_str_int, kb_str_str, kb_str_tuple, kb_str_list, kb_tuple_NoneType, kb_tuple_bool, kb_tuple_int, kb_tuple_str, kb_tuple_tuple, kb_tuple_list, kb_list_NoneType, kb_list_bool, kb_list_int, kb_list_str, kb_list_tuple, kb_list_list, c_kind_height, c_has_ground, c_opened, c_same_shape, c_as_precise, c_value_fits, c_use_fits, c__law_draws, c__law_draw, c__law_number, c__law_same, c__law_kind, c__law_tall, c__law_any_kind, c__law_agreeing, c__law_has, c__law_open, c__law_value, c__law_used, c__law_value_fits, c__law_use_fits, c__law_changed, c_law, c_Kind, so_seq, so_nil, so_set, so_expr, so_ret, so_retN, so_pass, so_brk, so_cnt, so_never, so_raise, so_try, so_ite, ret_bl, ret_int, ret_str, ret_non]
    by_cases h0 : 0 < r
    · simp only [h0, decide_true, if_true]
      refine draw (k + 9) d1 t 2 (by decide) fun s d2 s0 s1 => ?_
      simp only [ok_ok, ok_noex, ok_var, ok_lit, ok_prim, ok_nil, ok_cons, ok_call, ok_and, ok_or, ok_iteE, ok_chain, ok_meth, ok_attr, ok_join, ok_jnil, ok_jcons, p_not, p_add, p_sub, p_adds, p_muls, p_mulr, p_fdiv, p_mod, p_pow, p_eqi, p_eqs, p_eqb, p_nei, p_nes, p_neb, p_lt, p_le, p_gt, p_ge, p_is, p_isnot, p_lens, p_lent, p_lenk, p_int, p_bool, p_min, p_max, p_tup, p_lst, p_fmts, p_ixt, p_ixs, p_slse, p_slsu, p_isity, p_isigl, bm_rm, bm_st, tr_bl, tr_non, tr_int, tr_tup, tr_kls, tr_str, Mp.isNon, List.getElem?_cons_zero, List.getElem?_cons_succ, List.set_cons_zero, List.set_cons_succ, ity_non, ity_bl, ity_int, ity_str, ity_tup, ity_kls, kb_NoneType_NoneType, kb_NoneType_bool, kb_NoneType_int, kb_NoneType_str, kb_NoneType_tuple, kb_NoneType_list, kb_bool_NoneType, kb_bool_bool, kb_bool_int, kb_bool_str, kb_bool_tuple, kb_bool_list, kb_int_NoneType, kb_int_bool, kb_int_int, kb_int_str, kb_int_tuple, kb_int_list, kb_str_NoneType, kb_str_bool, kb_str_int, kb_str_str, kb_str_tuple, kb_str_list, kb_tuple_NoneType, kb_tuple_bool, kb_tuple_int, kb_tuple_str, kb_tuple_tuple, kb_tuple_list, kb_list_NoneType, kb_list_bool, kb_list_int, kb_list_str, kb_list_tuple, kb_list_list, c_kind_height, c_has_ground, c_opened, c_same_shape, c_as_precise, c_value_fits, c_use_fits, c__law_draws, c__law_draw, c__law_number, c__law_same, c__law_kind, c__law_tall, c__law_any_kind, c__law_agreeing, c__law_has, c__law_open, c__law_value, c__law_used, c__law_value_fits, c__law_use_fits, c__law_changed, c_law, c_Kind, so_seq, so_nil, so_set, so_expr, so_ret, so_retN, so_pass, so_brk, so_cnt, so_never, so_raise, so_try, so_ite, ret_bl, ret_int, ret_str, ret_non]
      by_cases hs : s = 0
      · simp only [hs, decide_true, if_true]
        refine ofE (ixp0 a1 a2) (ofE (ixp1 a1 a2) ?_)
        rw [e1]
        refine ih1 M (k + 10) d2 t (by omega) (by omega) (by omega) fun b d3 hb => ?_
        refine ofE (ixp2 a1 a2) ?_
        simp only [ok_ok, ok_noex, ok_var, ok_lit, ok_prim, ok_nil, ok_cons, ok_call, ok_and, ok_or, ok_iteE, ok_chain, ok_meth, ok_attr, ok_join, ok_jnil, ok_jcons, p_not, p_add, p_sub, p_adds, p_muls, p_mulr, p_fdiv, p_mod, p_pow, p_eqi, p_eqs, p_eqb, p_nei, p_nes, p_neb, p_lt, p_le, p_gt, p_ge, p_is, p_isnot, p_lens, p_lent, p_lenk, p_int, p_bool, p_min, p_max, p_tup, p_lst, p_fmts, p_ixt, p_ixs, p_slse, p_slsu, p_isity, p_isigl, bm_rm, bm_st, tr_bl, tr_non, tr_int, tr_tup, tr_kls, tr_str, Mp.isNon, List.getElem?_cons_zero, List.getElem?_cons_succ, List.set_cons_zero, List.set_cons_succ, ity_non, ity_bl, ity_int, ity_str, ity_tup, ity_kls, kb_NoneType_NoneType, kb_NoneType_bool, kb_NoneType_int, kb_NoneType_str, kb_NoneType_tuple, kb_NoneType_list, kb_bool_NoneType, kb_bool_bool, kb_bool_int, kb_bool_str, kb_bool_tuple, kb_bool_list, kb_int_NoneType, kb_int_bool, kb_int_int, kb_int_str, kb_int_tuple, kb_int_list, kb_str_NoneType, kb_str_bool, kb_str_int, kb_str_str, kb_str_tuple, kb_str_list, kb_tuple_NoneType, kb_tuple_bool, kb_tuple_int, kb_tuple_str, kb_tuple_tuple, kb_tuple_list, kb_list_NoneType, kb_list_bool, kb_list_int, kb_list_str, kb_list_tuple, kb_list_list, c_kind_height, c_has_ground, c_opened, c_same_shape, c_as_precise, c_value_fits, c_use_fits, c__law_draws, c__law_draw, c__law_number, c__law_same, c__law_kind, c__law_tall, c__law_any_kind, c__law_agreeing, c__law_has, c__law_open, c__law_value, c__law_used, c__law_value_fits, c__law_use_fits, c__law_changed, c_law, c_Kind, so_seq, so_nil, so_set, so_expr, so_ret, so_retN, so_pass, so_brk, so_cnt, so_never, so_raise, so_try, so_ite, ret_bl, ret_int, ret_str, ret_non, c3, true_and]
        refine ofE (ret_li (d := kd (.pr b a2)) (kd_cl _ _)) (q (.pr b a2) d3 ?_)
        show max (ht b) (ht a2) + 1 ≤ M + 1
        omega
      · simp only [hs, decide_false, Bool.false_eq_true, if_false]
        refine ofE (ixp0 a1 a2) (ofE (ixp1 a1 a2) (ofE (ixp2 a1 a2) ?_))
        rw [e1]
        refine ih2 M (k + 10) d2 t (by omega) (by omega) (by omega) fun b d3 hb => ?_
        simp only [ok_ok, ok_noex, ok_var, ok_lit, ok_prim, ok_nil, ok_cons, ok_call, ok_and, ok_or, ok_iteE, ok_chain, ok_meth, ok_attr, ok_join, ok_jnil, ok_jcons, p_not, p_add, p_sub, p_adds, p_muls, p_mulr, p_fdiv, p_mod, p_pow, p_eqi, p_eqs, p_eqb, p_nei, p_nes, p_neb, p_lt, p_le, p_gt, p_ge, p_is, p_isnot, p_lens, p_lent, p_lenk, p_int, p_bool, p_min, p_max, p_tup, p_lst, p_fmts, p_ixt, p_ixs, p_slse, p_slsu, p_isity, p_isigl, bm_rm, bm_st, tr_bl, tr_non, tr_int, tr_tup, tr_kls, tr_str, Mp.isNon, List.getElem?_cons_zero, List.getElem?_cons_succ, List.set_cons_zero, List.set_cons_succ, ity_non, ity_bl, ity_int, ity_str, ity_tup, ity_kls, kb_NoneType_NoneType, kb_NoneType_bool, kb_NoneType_int, kb_NoneType_str, kb_NoneType_tuple, kb_NoneType_list, kb_bool_NoneType, kb_bool_bool, kb_bool_int, kb_bool_str, kb_bool_tuple, kb_bool_list, kb_int_NoneType, kb_int_bool, kb_int_int, kb_int_str, kb_int_tuple, kb_int_list, kb_str_NoneType, kb_str_bool, kb_str_int, kb_str_str, kb_str_tuple, kb_str_list, kb_tuple_NoneType, kb_tuple_bool, kb_tuple_int, kb_tuple_str, kb_tuple_tuple, kb_tuple_list, kb_list_NoneType, kb_list_bool, kb_list_int, kb_list_str, kb_list_tuple, kb_list_list, c_kind_height, c_has_ground, c_opened, c_same_shape, c_as_precise, c_value_fits, c_use_fits, c__law_draws, c__law_draw, c__law_number, c__law_same, c__law_kind, c__law_tall, c__law_any_kind, c__law_agreeing, c__law_has, c__law_open, c__law_value, c__law_used, c__law_value_fits, c__law_use_fits, c__law_changed, c_law, c_Kind, so_seq, so_nil, so_set, so_expr, so_ret, so_retN, so_pass, so_brk, so_cnt, so_never, so_raise, so_try, so_ite, ret_bl, ret_int, ret_str, ret_non, c3, true_and]
        refine ofE (ret_li (d := kd (.pr a1 b)) (kd_cl _ _)) (q (.pr a1 b) d3 ?_)
        show max (ht a1) (ht b) + 1 ≤ M + 1
        omega
    · simp only [h0, decide_false, Bool.false_eq_true, if_false, if_true]
      refine draw (k + 9) d1 t 2 (by decide) fun s d2 s0 s1 => ?_
      simp only [ok_ok, ok_noex, ok_var, ok_lit, ok_prim, ok_nil, ok_cons, ok_call, ok_and, ok_or, ok_iteE, ok_chain, ok_meth, ok_attr, ok_join, ok_jnil, ok_jcons, p_not, p_add, p_sub, p_adds, p_muls, p_mulr, p_fdiv, p_mod, p_pow, p_eqi, p_eqs, p_eqb, p_nei, p_nes, p_neb, p_lt, p_le, p_gt, p_ge, p_is, p_isnot, p_lens, p_lent, p_lenk, p_int, p_bool, p_min, p_max, p_tup, p_lst, p_fmts, p_ixt, p_ixs, p_slse, p_slsu, p_isity, p_isigl, bm_rm, bm_st, tr_bl, tr_non, tr_int, tr_tup, tr_kls, tr_str, Mp.isNon, List.getElem?_cons_zero, List.getElem?_cons_succ, List.set_cons_zero, List.set_cons_succ, ity_non, ity_bl, ity_int, ity_str, ity_tup, ity_kls, kb_NoneType_NoneType, kb_NoneType_bool, kb_NoneType_int, kb_NoneType_str, kb_NoneType_tuple, kb_NoneType_list, kb_bool_NoneType, kb_bool_bool, kb_bool_int, kb_bool_str, kb_bool_tuple, kb_bool_list, kb_int_NoneType, kb_int_bool, kb_int_int, kb_int_str, kb_int_tuple, kb_int_list, kb_str_NoneType, kb_str_bool, kb_str_int, kb_str_str, kb_str_tuple, kb_str_list, kb_tuple_NoneType, kb_tuple_bool, kb_tuple_int, kb_tuple_str, kb_tuple_tuple, kb_tuple_list, kb_list_NoneType, kb_list_bool, kb_list_int, kb_list_str, kb_list_tuple, kb_list_list, c_kind_height, c_has_ground, c_opened, c_same_shape, c_as_precise, c_value_fits, c_use_fits, c__law_draws, c__law_draw, c__law_number, c__law_same, c__law_kind, c__law_tall, c__law_any_kind, c__law_agreeing, c__law_has, c__law_open, c__law_value, c__law_used, c__law_value_fits, c__law_use_fits, c__law_changed, c_law, c_Kind, so_seq, so_nil, so_set, so_expr, so_ret, so_retN, so_pass, so_brk, so_cnt, so_never, so_raise, so_try, so_ite, ret_bl, ret_int, ret_str, ret_non]
      by_cases hs : s = 0
      · simp only [hs, decide_true, if_true]
        refine ⟨(by decide : 2 ≤ cap), ?_⟩
        refine ofE (ixp0 a1 a2) ?_
        refine ofE (p_eqs _ _) ?_
        rw [pE]
        refine ofE (p_intb _) ?_
        refine ofE (p_ixl _ (lst_at (li d2 :: t) _)) ?_
        simp only [pI]
        refine ofE (ixp1 a1 a2) (ofE (ixp2 a1 a2) ?_)
        simp only [ok_ok, ok_noex, ok_var, ok_lit, ok_prim, ok_nil, ok_cons, ok_call, ok_and, ok_or, ok_iteE, ok_chain, ok_meth, ok_attr, ok_join, ok_jnil, ok_jcons, p_not, p_add, p_sub, p_adds, p_muls, p_mulr, p_fdiv, p_mod, p_pow, p_eqi, p_eqs, p_eqb, p_nei, p_nes, p_neb, p_lt, p_le, p_gt, p_ge, p_is, p_isnot, p_lens, p_lent, p_lenk, p_int, p_bool, p_min, p_max, p_tup, p_lst, p_fmts, p_ixt, p_ixs, p_slse, p_slsu, p_isity, p_isigl, bm_rm, bm_st, tr_bl, tr_non, tr_int, tr_tup, tr_kls, tr_str, Mp.isNon, List.getElem?_cons_zero, List.getElem?_cons_succ, List.set_cons_zero, List.set_cons_succ, ity_non, ity_bl, ity_int, ity_str, ity_tup, ity_kls, kb_NoneType_NoneType, kb_NoneType_bool, kb_NoneType_int, kb_NoneType_str, kb_NoneType_tuple, kb_NoneType_list, kb_bool_NoneType, kb_bool_bool, kb_bool_int, kb_bool_str, kb_bool_tuple, kb_bool_list, kb_int_NoneType, kb_int_bool, kb_int_int, kb_int_str, kb_int_tuple, kb_int_list, kb_str_NoneType, kb_str_bool, kb_str_int, kb_str_str, kb_str_tuple, kb_str_list, kb_tuple_NoneType, kb_tuple_bool, kb_tuple_int, kb_tuple_str, kb_tuple_tuple, kb_tuple_list, kb_list_NoneType, kb_list_bool, kb_list_int, kb_list_str, kb_list_tuple, kb_list_list, c_kind_height, c_has_ground, c_opened, c_same_shape, c_as_precise, c_value_fits, c_use_fits, c__law_draws, c__law_draw, c__law_number, c__law_same, c__law_kind, c__law_tall, c__law_any_kind, c__law_agreeing, c__law_has, c__law_open, c__law_value, c__law_used, c__law_value_fits, c__law_use_fits, c__law_changed, c_law, c_Kind, so_seq, so_nil, so_set, so_expr, so_ret, so_retN, so_pass, so_brk, so_cnt, so_never, so_raise, so_try, so_ite, ret_bl, ret_int, ret_str, ret_non, c3, true_and]
        exact ofE (ret_li2 (d := kd (.fn a1 a2)) (kd_cl _ _)) (q (.fn a1 a2) d2 ha)
      · simp only [hs, decide_false, Bool.false_eq_true, if_false]
        refine kindZ _ (M + 1) (minle (M + 1)) hM k d2 t fun b d3 hb => ?_
        rw [ret_li (kd_cl _ _)]
        exact q b d3 hb
  | _ =>
    intro M k ds t Q ha hM hk q
    obtain ⟨k, rfl⟩ : ∃ j, k = j + 11 := ⟨k - 11, by omega⟩
    rw [r__law_changed]
    simp only [F__law_changed, ok_ok, ok_noex, ok_var, ok_lit, ok_prim, ok_nil, ok_cons, ok_call, ok_and, ok_or, ok_iteE, ok_chain, ok_meth, ok_attr, ok_join, ok_jnil, ok_jcons, p_not, p_add, p_sub, p_adds, p_muls, p_mulr, p_fdiv, p_mod, p_pow, p_eqi, p_eqs, p_eqb, p_nei, p_nes, p_neb, p_lt, p_le, p_gt, p_ge, p_is, p_isnot, p_lens, p_lent, p_lenk, p_int, p_bool, p_min, p_max, p_tup, p_lst, p_fmts, p_ixt, p_ixs, p_slse, p_slsu, p_isity, p_isigl, bm_rm, bm_st, tr_bl, tr_non, tr_int, tr_tup, tr_kls, tr_str, Mp.isNon, List.getElem?_cons_zero, List.getElem?_cons_succ, List.set_cons_zero, List.set_cons_succ, ity_non, ity_bl, ity_int, ity_str, ity_tup, ity_kls, kb_NoneType_NoneType, kb_NoneType_bool, kb_NoneType_int, kb_NoneType_str, kb_NoneType_tuple, kb_NoneType_list, kb_bool_NoneType, kb_bool_bool, kb_bool_int, kb_bool_str, kb_bool_tuple, kb_bool_list, kb_int_NoneType, kb_int_bool, kb_int_int, kb_int_str, kb_int_tuple, kb_int_list, kb_str_NoneType, kb_str_bool, kb_str_int, kb_str_str, kb_str_tuple, kb_str_list, kb_tuple_NoneType, kb_tuple_bool, kb_tuple_int, kb_tuple_str, kb_tuple_tuple, kb_tuple_list, kb_list_NoneType, kb_list_bool, kb_list_int, kb_list_str, kb_list_tuple, kb_list_list, c_kind_height, c_has_ground, c_opened, c_same_shape, c_as_precise, c_value_fits, c_use_fits, c__law_draws, c__law_draw, c__law_number, c__law_same, c__law_kind, c__law_tall, c__law_any_kind, c__law_agreeing, c__law_has, c__law_open, c__law_value, c__law_used, c__law_value_fits, c__law_use_fits, c__law_changed, c_law, c_Kind, so_seq, so_nil, so_set, so_expr, so_ret, so_retN, so_pass, so_brk, so_cnt, so_never, so_raise, so_try, so_ite, ret_bl, ret_int, ret_str, ret_non, kd_ty, isP, Bool.false_eq_true, if_false]
    refine kindZ _ M (minle M) hM k ds t fun b d3 hb => ?_
    rw [ret_li (kd_cl _ _)]
    exact q b d3 hb

/-! ### kinds made behind any heap -/
abbrev rg (n m : Nat) : List D := (List.range m).map fun i => .ref (n + i)
theorem rg_snoc (n m : Nat) : rg n m ++ [.ref (n + m)] = rg n (m + 1) := by simp [rg, List.range_succ]
theorem rg_at {n m i : Nat} (hi : i < m) : Mp.atI (rg n m) (0 + (i : Int)) = some (.ref (n + i)) := by
  rw [Int.zero_add]
  refine atI_of ?_
  rw [List.getElem?_map, List.getElem?_range hi]
  rfl
theorem tk_at {T : List Kn} {i : Nat} {a : Kn} (e : T[i]? = some a) : Mp.atI (T.map kd) (0 + (i : Int)) = some (kd a) := by
  rw [Int.zero_add]
  exact atI_of (by rw [List.getElem?_map, e]; rfl)
abbrev HG (b : HD) (T : List Kn) : HD := b ++ (T.map ko ++ [.lst (rg b.length T.length)])
theorem hg1 {b : HD} {j : Nat} {o : O} (T : List Kn) (e : b[j]? = some o) : (HG b T)[j]? = some o := by
  have hj : j < b.length := (List.getElem?_eq_some_iff.mp e).1
  rw [List.getElem?_append_left hj]
  exact e
theorem hg2 (b : HD) (T : List Kn) : (HG b T)[b.length + T.length]? = some (.lst (rg b.length T.length)) := by
  rw [List.getElem?_append_right (by omega), List.getElem?_append_right (by simp)]
  simp
theorem hg3 (b : HD) {T : List Kn} {i : Nat} {a : Kn} (e : T[i]? = some a) : (HG b T)[b.length + i]? = some (ko a) := by
  have hi : i < T.length := (List.getElem?_eq_some_iff.mp e).1
  rw [List.getElem?_append_right (by omega), List.getElem?_append_left (by simp; omega), Nat.add_sub_cancel_left, List.getElem?_map, e]
  rfl
theorem mkkindsG (k : Nat) (b : HD) (j : Nat) (T : List Kn) (e : b[j]? = some (.lst (T.map kd))) (hT : ∀ a ∈ T, ht a ≤ 8) (hl : T.length ≤ 1000) {v : Ev} {i s : Nat} (hv : v[i]? = some (some (.ref j))) (hs : s < v.length) {Q : D → HD → Prop} (q : Q (.ref (b.length + T.length)) (HG b T)) :
    okx (fun _ _ => False) (evE tb.gi (run tb.prog (k + 2)) (.lc (.one s) [s] (.val (.var i)) [] (.call (.lit (.gl ("Kind" : Str))) [.var s])) v b) Q := by
  simp only [ok_lc, ok_itval, ok_var, hv, wk_ref e]
  refine lc_ind (I := fun items acc h => ∃ (done rest : List Kn), T = done ++ rest ∧ items = rest.map kd ∧ acc = rg b.length done.length ∧ h = b ++ done.map ko) ?_ ?_ ?_ _ _ _ ?_
  · rintro items acc h ⟨done, rest, _, _, _, rfl⟩
    refine still_one ?_
    rw [List.getElem?_append_left (List.getElem?_eq_some_iff.mp e).1]
    exact e
  · rintro d items acc h ⟨done, rest, eT, ei, rfl, rfl⟩
    cases rest with
    | nil => cases ei
    | cons a rest =>
      cases ei
      have ha : ht a ≤ 8 := hT a (by rw [eT]; simp)
      have hd : done.length < 1001 := by
        have := congrArg List.length eT
        rw [List.length_append, List.length_cons] at this
        omega
      have gs : ((v.set s none).set s (some (kd a)))[s]? = some (some (kd a)) := List.getElem?_set_self (by rw [List.length_set]; exact hs)
      simp only [tgt, Mp.wipe, ok_bind, ok_ts0, if_true, ok_ok, ok_noex, ok_var, ok_lit, ok_prim, ok_nil, ok_cons, ok_call, ok_and, ok_or, ok_iteE, ok_chain, ok_meth, ok_attr, ok_join, ok_jnil, ok_jcons, p_not, p_add, p_sub, p_adds, p_muls, p_mulr, p_fdiv, p_mod, p_pow, p_eqi, p_eqs, p_eqb, p_nei, p_nes, p_neb, p_lt, p_le, p_gt, p_ge, p_is, p_isnot, p_lens, p_lent, p_lenk, p_int, p_bool, p_min, p_max, p_tup, p_lst, p_fmts, p_ixt, p_ixs, p_slse, p_slsu, p_isity, p_isigl, bm_rm, bm_st, tr_bl, tr_non, tr_int, tr_tup, tr_kls, tr_str, Mp.isNon, List.getElem?_cons_zero, List.getElem?_cons_succ, List.set_cons_zero, List.set_cons_succ, ity_non, ity_bl, ity_int, ity_str, ity_tup, ity_kls, kb_NoneType_NoneType, kb_NoneType_bool, kb_NoneType_int, kb_NoneType_str, kb_NoneType_tuple, kb_NoneType_list, kb_bool_NoneType, kb_bool_bool, kb_bool_int, kb_bool_str, kb_bool_tuple, kb_bool_list, kb_int_NoneType, kb_int_bool, kb_int_int, kb_int_str, kb_int_tuple, kb_int_list, kb_str_NoneType, kb_str_bool, kb_str_int, kb_str_str, kb_str_tuple, kb_str_list, kb_tuple_NoneType, kb_tuple_bool, kb_tuple_int, kb_tuple_str, kb_tuple_tuple, kb_tuple_list, kb_list_NoneType, kb_list_bool, kb_list_int, kb_list_str, kb_list_tuple, kb_list_list, c_kind_height, c_has_ground, c_opened, c_same_shape, c_as_precise, c_value_fits, c_use_fits, c__law_draws, c__law_draw, c__law_number, c__law_same, c__law_kind, c__law_tall, c__law_any_kind, c__law_agreeing, c__law_has, c__law_open, c__law_value, c__law_used, c__law_value_fits, c__law_use_fits, c__law_changed, c_law, c_Kind, gs]
      refine ofE (mk k _ a ha) ⟨by rw [List.length_map, List.length_range]; exact Nat.lt_trans hd (by decide), done ++ [a], rest, by rw [eT]; simp, rfl, ?_, ?_⟩
      · have e1 : (b ++ done.map ko : HD).length = b.length + done.length := by simp
        have e2 : (done ++ [a]).length = done.length + 1 := by simp
        rw [e1, e2, rg_snoc]
      · simp
  · rintro acc h ⟨done, rest, eT, ei, rfl, rfl⟩
    have er : rest = [] := by
      cases rest with
      | nil => rfl
      | cons _ _ => cases ei
    rw [er, List.append_nil] at eT
    rw [← eT]
    have hlen : (b ++ T.map ko : HD).length = b.length + T.length := by simp
    rw [hlen, List.append_assoc]
    exact q
  · exact ⟨[], T, rfl, rfl, rfl, by simp⟩
theorem p_ixlS {C : Cal} {h : HD} {Q : D → HD → Prop} {j : Nat} {xs : List D} {i : Int} {d : D} (e : h[j]? = some (.lst xs)) (e2 : Mp.atI xs i = some d) : okx (fun _ _ => False) (Mp.prD tb.gi C .ix [.ref j, .int i] h) Q = Q d h := by
  rw [p_ixl _ e, e2]
theorem app1 {h : HD} {Q : D → HD → Prop} {j : Nat} {xs : List D} {y : D} (e : h[j]? = some (.lst xs)) (hc : xs.length < cap) (q : Q .non (h.set j (.lst (xs ++ [y])))) : okx (fun _ _ => False) (bmD .append (.ref j) [y] h) Q := by
  rw [bm_append e]
  exact ⟨hc, q⟩
theorem p_addlN {C : Cal} {h h' : HD} {Q : D → HD → Prop} {i j n : Nat} {xs ys : List D} (e1 : h[i]? = some (.lst xs)) (e2 : h[j]? = some (.lst ys)) (hc : xs.length + ys.length ≤ cap) (eh : h ++ [.lst (xs ++ ys)] = h') (en : h.length = n) (q : Q (.ref n) h') : okx (fun _ _ => False) (Mp.prD tb.gi C (.bin .Add) [.ref i, .ref j] h) Q := by
  rw [p_addl e1 e2 hc, eh, en]
  exact q

end Lk25

set_option Elab.async false
set_option linter.all false
set_option maxRecDepth 100000
set_option maxHeartbeats 2000000
namespace Lk25
open PySem Mp
theorem x_takes (k : Nat) (h : HD) (i : Nat) (u : Us) (a : Kn) (e : h[i]? = some (ko a)) (r : Bool) (f : run tb.prog k "use_fits" [ud u, kd a] h = .ok (.bl r) h) : run tb.prog (k + 1) "Kind.takes" [.ref i, ud u] h = .ok (.bl r) h := by
  apply of_ok
  simp only [r_Kind_takes, F_Kind_takes, ok_ok, ok_noex, ok_var, ok_lit, ok_prim, ok_nil, ok_cons, ok_call, ok_and, ok_or, ok_iteE, ok_chain, ok_meth, ok_attr, ok_join, ok_jnil, ok_jcons, p_not, p_add, p_sub, p_adds, p_muls, p_mulr, p_fdiv, p_mod, p_pow, p_eqi, p_eqs, p_eqb, p_nei, p_nes, p_neb, p_lt, p_le, p_gt, p_ge, p_is, p_isnot, p_lens, p_lent, p_lenk, p_int, p_bool, p_min, p_max, p_tup, p_lst, p_fmts, p_ixt, p_ixs, p_slse, p_slsu, p_isity, p_isigl, bm_rm, bm_st, tr_bl, tr_non, tr_int, tr_tup, tr_kls, tr_str, Mp.isNon, List.getElem?_cons_zero, List.getElem?_cons_succ, List.set_cons_zero, List.set_cons_succ, ity_non, ity_bl, ity_int, ity_str, ity_tup, ity_kls, kb_NoneType_NoneType, kb_NoneType_bool, kb_NoneType_int, kb_NoneType_str, kb_NoneType_tuple, kb_NoneType_list, kb_bool_NoneType, kb_bool_bool, kb_bool_int, kb_bool_str, kb_bool_tuple, kb_bool_list, kb_int_NoneType, kb_int_bool, kb_int_int, kb_int_str, kb_int_tuple, kb_int_list, kb_str_NoneType, kb_str_bool, kb_str_int, kb_str_str, kb_str_tuple, kb_str_list, kb_tuple_NoneType, kb_tuple_bool, kb_tuple_int, kb_tuple_str, kb_tuple_tuple, kb_tuple_list, kb_list_NoneType, kb_list_bool, kb_list_int, kb_list_str, kb_list_tuple, kb_list_list, c_kind_height, c_has_ground, c_opened, c_same_shape, c_as_precise, c_value_fits, c_use_fits, c__law_draws, c__law_draw, c__law_number, c__law_same, c__law_kind, c__law_tall, c__law_any_kind, c__law_agreeing, c__law_has, c__law_open, c__law_value, c__law_used, c__law_value_fits, c__law_use_fits, c__law_changed, c_law, c_Kind, so_seq, so_nil, so_set, so_expr, so_ret, so_retN, so_pass, so_brk, so_cnt, so_never, so_raise, so_try, so_ite, ret_bl, ret_int, ret_str, ret_non, ko_tree e, f]
  exact ⟨trivial, trivial⟩
theorem pure (ns : List Int) (hn : ns.length ≤ 63) : ∃ h', exF tb.gi (run tb.prog 100) F_law [.kls (ns.map .int)] [] = .ok (.bl true) h' := by
  apply ok_true
  rw [ok_exF (F := F_law) (ds := [.kls (ns.map .int)]) ⟨(by decide : 1 ≤ 1), (by decide : 1 ≤ 1 + 0)⟩]
  show sox (fun _ _ _ => False) (exB tb.gi (run tb.prog (80 + 20)) F_law.body [some (.kls (ns.map .int)), none, none, none, none, none, none, none, none, none, none, none, none] []) _ _ _ _
  simp (config := { maxSteps := 10000000 }) only [F_law, so_for, ok_itrng1, ok_itval, ok_ok, ok_noex, ok_var, ok_lit, ok_prim, ok_nil, ok_cons, ok_call, ok_and, ok_or, ok_iteE, ok_chain, ok_meth, ok_attr, ok_join, ok_jnil, ok_jcons, p_not, p_add, p_sub, p_adds, p_muls, p_mulr, p_fdiv, p_mod, p_pow, p_eqi, p_eqs, p_eqb, p_nei, p_nes, p_neb, p_lt, p_le, p_gt, p_ge, p_is, p_isnot, p_lens, p_lent, p_lenk, p_int, p_bool, p_min, p_max, p_tup, p_lst, p_fmts, p_ixt, p_ixs, p_slse, p_slsu, p_isity, p_isigl, bm_rm, bm_st, tr_bl, tr_non, tr_int, tr_tup, tr_kls, tr_str, Mp.isNon, List.getElem?_cons_zero, List.getElem?_cons_succ, List.set_cons_zero, List.set_cons_succ, ity_non, ity_bl, ity_int, ity_str, ity_tup, ity_kls, kb_NoneType_NoneType, kb_NoneType_bool, kb_NoneType_int, kb_NoneType_str, kb_NoneType_tuple, kb_NoneType_list, kb_bool_NoneType, kb_bool_bool, kb_bool_int, kb_bool_str, kb_bool_tuple, kb_bool_list, kb_int_NoneType, kb_int_bool, kb_int_int, kb_int_str, kb_int_tuple, kb_int_list, kb_str_NoneType, kb_str_bool, kb_str_int, kb_str_str, kb_str_tuple, kb_str_list, kb_tuple_NoneType, kb_tuple_bool, kb_tuple_int, kb_tuple_str, kb_tuple_tuple, kb_tuple_list, kb_list_NoneType, kb_list_bool, kb_list_int, kb_list_str, kb_list_tuple, kb_list_list, c_kind_height, c_has_ground, c_opened, c_same_shape, c_as_precise, c_value_fits, c_use_fits, c__law_draws, c__law_draw, c__law_number, c__law_same, c__law_kind, c__law_tall, c__law_any_kind, c__law_agreeing, c__law_has, c__law_open, c__law_value, c__law_used, c__law_value_fits, c__law_use_fits, c__law_changed, c_law, c_Kind, so_seq, so_nil, so_set, so_expr, so_ret, so_retN, so_pass, so_brk, so_cnt, so_never, so_raise, so_try, so_ite, ret_bl, ret_int, ret_str, ret_non]
  refine draws 99 ns hn fun ds => ?_
  refine anyk 93 ds [] fun c d1 hc => ?_
  refine kindE 2 96 d1 [] fun l d2 hl => ?_
  refine kindE 2 96 d2 [] fun r d3 hr => ?_
  refine (vu 2 (by decide)).1 l 2 100 d3 [] _ hl (by decide) (by decide) fun v1 d4 hv1 => ?_
  refine (vu 2 (by decide)).2 l 2 100 d4 [] _ hl (by decide) (by decide) fun u1 d5 hu1 => ?_
  refine (vu 2 (by decide)).2 r 2 100 d5 [] _ hr (by decide) (by decide) fun u2 d6 hu2 => ?_
  try simp only [ok_ok, ok_noex, ok_var, ok_lit, ok_prim, ok_nil, ok_cons, ok_call, ok_and, ok_or, ok_iteE, ok_chain, ok_meth, ok_attr, ok_join, ok_jnil, ok_jcons, p_not, p_add, p_sub, p_adds, p_muls, p_mulr, p_fdiv, p_mod, p_pow, p_eqi, p_eqs, p_eqb, p_nei, p_nes, p_neb, p_lt, p_le, p_gt, p_ge, p_is, p_isnot, p_lens, p_lent, p_lenk, p_int, p_bool, p_min, p_max, p_tup, p_lst, p_fmts, p_ixt, p_ixs, p_slse, p_slsu, p_isity, p_isigl, bm_rm, bm_st, tr_bl, tr_non, tr_int, tr_tup, tr_kls, tr_str, Mp.isNon, List.getElem?_cons_zero, List.getElem?_cons_succ, List.set_cons_zero, List.set_cons_succ, ity_non, ity_bl, ity_int, ity_str, ity_tup, ity_kls, kb_NoneType_NoneType, kb_NoneType_bool, kb_NoneType_int, kb_NoneType_str, kb_NoneType_tuple, kb_NoneType_list, kb_bool_NoneType, kb_bool_bool, kb_bool_int, kb_bool_str, kb_bool_tuple, kb_bool_list, kb_int_NoneType, kb_int_bool, kb_int_int, kb_int_str, kb_int_tuple, kb_int_list, kb_str_NoneType, kb_str_bool, kb_str_int, kb_str_str, kb_str_tuple, kb_str_list, kb_tuple_NoneType, kb_tuple_bool, kb_tuple_int, kb_tuple_str, kb_tuple_tuple, kb_tuple_list, kb_list_NoneType, kb_list_bool, kb_list_int, kb_list_str, kb_list_tuple, kb_list_list, c_kind_height, c_has_ground, c_opened, c_same_shape, c_as_precise, c_value_fits, c_use_fits, c__law_draws, c__law_draw, c__law_number, c__law_same, c__law_kind, c__law_tall, c__law_any_kind, c__law_agreeing, c__law_has, c__law_open, c__law_value, c__law_used, c__law_value_fits, c__law_use_fits, c__law_changed, c_law, c_Kind, so_seq, so_nil, so_set, so_expr, so_ret, so_retN, so_pass, so_brk, so_cnt, so_never, so_raise, so_try, so_ite, ret_bl, ret_int, ret_str, ret_non, t2, true_and]
  refine (vu 8 (by decide)).2 c 3 100 d6 _ _ hc (by decide) (by decide) fun u0 d7 hu0 => ?_
  have lt : ∀ n : Nat, n ≤ 1000 → n ≤ cap := fun n h => Nat.le_trans h (by decide)
  have lt' : ∀ n : Nat, n ≤ 1000 → n < cap := fun n h => Nat.lt_of_le_of_lt h (by decide)
  refine ⟨t1 _, ?_⟩
  refine ofE (p_ixlS (xs := [ud u1, ud u2]) (d := ud u2) rfl rfl) ?_
  refine ⟨c3 _ _ _, ?_⟩
  refine ofE (p_ixlS (xs := [ud u1, ud u2]) (d := ud u1) rfl rfl) ?_
  refine ⟨c3 _ _ _, lt 4 (by decide), ?_⟩
  show sox (fun _ _ _ => False) (loopF ⟨[u1, u2].map ud, [(1, [u1, u2].map ud)]⟩ _ ([u1, u2].map ud) _ [li d7, .lst [ud u1, ud u2], .lst ([u0, .look, .call v1 u2, .call v1 u1].map ud)]) _ _ _ _
  have q1 : ∀ u, up (.first u) = up u + 1 := fun _ => rfl
  have q2 : ∀ u, up (.second u) = up u + 1 := fun _ => rfl
  have q3 : ∀ v u, up (.call v u) = max (vp v) (up u) + 1 := fun _ _ => rfl
  have q4 : up .look = 0 := rfl
  refine for_atW (w := ⟨[u1, u2].map ud, [(1, [u1, u2].map ud)]⟩) (t := .one 8) (I := fun i v h => ∃ (UL : List Us) (x : Option D), v = [some (.kls (ns.map .int)), some (.ref 0), some (kd c), some (kd l), some (kd r), some (vd v1), some (.ref 1), some (.ref 2), x, none, none, none, none] ∧ h = [li d7, .lst [ud u1, ud u2], .lst (UL.map ud)] ∧ (∀ u ∈ UL, up u ≤ 18) ∧ UL.length = 4 + 2 * i ∧ UL[0]? = some u0 ∧ UL[2]? = some (.call v1 u2)) ?_ ?_ ?_ ?_
  · rintro i v h ⟨UL, x, rfl, rfl, _⟩
    exact still_one rfl
  · rintro i d v h hd ⟨UL, x, rfl, rfl, hU, lU, g0, g2⟩
    obtain ⟨q, eq, rfl⟩ : ∃ q, [u1, u2][i]? = some q ∧ d = ud q := by
      have hd : ([u1, u2].map ud)[i]? = some d := hd
      rw [List.getElem?_map] at hd
      cases e : [u1, u2][i]? with
      | none => rw [e] at hd; cases hd
      | some q => rw [e] at hd; cases hd; exact ⟨q, rfl, rfl⟩
    have hi : i < 2 := (List.getElem?_eq_some_iff.mp eq).1
    have hq : up q ≤ 2 := by
      have := List.mem_of_getElem? eq
      simp only [List.mem_cons, List.not_mem_nil, or_false] at this
      rcases this with rfl | rfl <;> assumption
    have at2 : ∀ L : List D, ([li d7, .lst [ud u1, ud u2], .lst L] : HD)[2]? = some (.lst L) := fun _ => rfl
    simp only [tgt, ok_ok, ok_noex, ok_var, ok_lit, ok_prim, ok_nil, ok_cons, ok_call, ok_and, ok_or, ok_iteE, ok_chain, ok_meth, ok_attr, ok_join, ok_jnil, ok_jcons, p_not, p_add, p_sub, p_adds, p_muls, p_mulr, p_fdiv, p_mod, p_pow, p_eqi, p_eqs, p_eqb, p_nei, p_nes, p_neb, p_lt, p_le, p_gt, p_ge, p_is, p_isnot, p_lens, p_lent, p_lenk, p_int, p_bool, p_min, p_max, p_tup, p_lst, p_fmts, p_ixt, p_ixs, p_slse, p_slsu, p_isity, p_isigl, bm_rm, bm_st, tr_bl, tr_non, tr_int, tr_tup, tr_kls, tr_str, Mp.isNon, List.getElem?_cons_zero, List.getElem?_cons_succ, List.set_cons_zero, List.set_cons_succ, ity_non, ity_bl, ity_int, ity_str, ity_tup, ity_kls, kb_NoneType_NoneType, kb_NoneType_bool, kb_NoneType_int, kb_NoneType_str, kb_NoneType_tuple, kb_NoneType_list, kb_bool_NoneType, kb_bool_bool, kb_bool_int, kb_bool_str, kb_bool_tuple, kb_bool_list, kb_int_NoneType, kb_int_bool, kb_int_int, kb_int_str, kb_int_tuple, kb_int_list, kb_str_NoneType, kb_str_bool, kb_str_int, kb_str_str, kb_str_tuple, kb_str_list, kb_tuple_NoneType, kb_tuple_bool, kb_tuple_int, kb_tuple_str, kb_tuple_tuple, kb_tuple_list, kb_list_NoneType, kb_list_bool, kb_list_int, kb_list_str, kb_list_tuple, kb_list_list, c_kind_height, c_has_ground, c_opened, c_same_shape, c_as_precise, c_value_fits, c_use_fits, c__law_draws, c__law_draw, c__law_number, c__law_same, c__law_kind, c__law_tall, c__law_any_kind, c__law_agreeing, c__law_has, c__law_open, c__law_value, c__law_used, c__law_value_fits, c__law_use_fits, c__law_changed, c_law, c_Kind, so_seq, so_nil, so_set, so_expr, so_ret, so_retN, so_pass, so_brk, so_cnt, so_never, so_raise, so_try, so_ite, ret_bl, ret_int, ret_str, ret_non, mth_lst (at2 _) (bt_lst (at2 _)).1, t2, true_and]
    refine app1 (at2 _) (by rw [List.length_map]; exact lt' _ (by omega)) ?_
    show mth _ _ _ _ _ _ _ [li d7, .lst [ud u1, ud u2], .lst (UL.map ud ++ [ud (.first q)])] _
    rw [mth_lst (at2 _) (bt_lst (at2 _)).1]
    refine app1 (at2 _) (by rw [List.length_append, List.length_map]; exact lt' _ (by simp; omega)) ?_
    refine ⟨UL ++ [.first q, .second q], _, rfl, by rw [List.map_append]; show ([_, _, _] : HD) = _; rw [List.append_assoc]; rfl, fun u hu => ?_, by simp; omega, ?_, ?_⟩
    · rcases List.mem_append.mp hu with hu | hu
      · exact hU u hu
      · simp only [List.mem_cons, List.not_mem_nil, or_false] at hu
        rcases hu with rfl | rfl <;> (first | rw [q1] | rw [q2]) <;> omega
    · rw [List.getElem?_append_left (by omega)]; exact g0
    · rw [List.getElem?_append_left (by omega)]; exact g2
  rotate_left
  · refine ⟨[u0, .look, .call v1 u2, .call v1 u1], _, rfl, rfl, fun u hu => ?_, rfl, rfl, rfl⟩
    simp only [List.mem_cons, List.not_mem_nil, or_false] at hu
    rcases hu with rfl | rfl | rfl | rfl <;> (try rw [q3]) <;> (try rw [q4]) <;> omega
  rintro v h ⟨U0, x0, rfl, rfl, hU, lU, g0, g2⟩
  have lU : U0.length = 8 := lU
  have at2 : ∀ L : List D, ([li d7, .lst [ud u1, ud u2], .lst L] : HD)[2]? = some (.lst L) := fun _ => rfl
  simp only [List.getElem?_cons_succ, List.getElem?_cons_zero, List.set_cons_succ, List.set_cons_zero]
  rw [mth_lst (at2 _) (bt_lst (at2 _)).1]
  refine ofE (p_ixlS (xs := [ud u1, ud u2]) (d := ud u2) rfl rfl) ?_
  refine ⟨c3 _ _ _, app1 (at2 _) (by rw [List.length_map]; exact lt' _ (by omega)) ?_⟩
  show mth _ _ _ _ _ _ _ [li d7, .lst [ud u1, ud u2], .lst (U0.map ud ++ [ud (.first (.call v1 u2))])] _
  rw [mth_lst (at2 _) (bt_lst (at2 _)).1]
  refine ofE (p_ixlS (xs := [ud u1, ud u2]) (d := ud u1) rfl rfl) ?_
  refine app1 (at2 _) (by rw [List.length_append, List.length_map]; exact lt' _ (by simp; omega)) ?_
  obtain ⟨UL, eUL, hUL, lUL, g0, g2⟩ : ∃ UL : List Us, U0.map ud ++ [ud (.first (.call v1 u2))] ++ [ud (.second (.first u1))] = UL.map ud ∧ (∀ u ∈ UL, up u ≤ 18) ∧ UL.length = 10 ∧ UL[0]? = some u0 ∧ UL[2]? = some (.call v1 u2) := by
    refine ⟨U0 ++ [.first (.call v1 u2), .second (.first u1)], by simp, fun u hu => ?_, by simp; omega, by rw [List.getElem?_append_left (by omega)]; exact g0, by rw [List.getElem?_append_left (by omega)]; exact g2⟩
    rcases List.mem_append.mp hu with hu | hu
    · exact hU u hu
    · simp only [List.mem_cons, List.not_mem_nil, or_false] at hu
      rcases hu with rfl | rfl <;> simp only [q1, q2, q3] <;> omega
  refine p_addlN (n := 3) (h' := [li d7, .lst [ud u1, ud u2], .lst (UL.map ud), .lst (UL.map ud ++ [ud u1, ud u2])]) (xs := UL.map ud) (ys := [ud u1, ud u2]) (by rw [← eUL]; rfl) rfl (by rw [List.length_map, lUL]; exact lt 12 (by decide)) (by rw [← eUL]; rfl) rfl ?_
  refine ofE (p_ixlS (xs := UL.map ud) (d := ud u0) rfl (by rw [atI_nat _ _ (by decide), List.getElem?_map]; show (UL[0]?).map ud = _; rw [g0]; rfl)) ?_
  refine ofE (p_ixlS (xs := UL.map ud) (d := ud (.call v1 u2)) rfl (by rw [atI_nat _ _ (by decide), List.getElem?_map]; show (UL[2]?).map ud = _; rw [g2]; rfl)) ?_
  refine p_addlN (n := 5) (h' := [li d7, .lst [ud u1, ud u2], .lst (UL.map ud), .lst (UL.map ud ++ [ud u1, ud u2]), .lst [ud u0, ud (.call v1 u2)], .lst (UL.map ud ++ [ud u1, ud u2] ++ [ud u0, ud (.call v1 u2)])]) (xs := UL.map ud ++ [ud u1, ud u2]) (ys := [ud u0, ud (.call v1 u2)]) rfl rfl (by rw [List.length_append, List.length_map, lUL]; exact lt 14 (by decide)) rfl rfl ?_
  refine ⟨c3 _ _ _, c3 _ _ _, lt 6 (by decide), c3 _ _ _, c3 _ _ _, ?_⟩
  refine p_addlN (n := 8) (h' := [li d7, .lst [ud u1, ud u2], .lst (UL.map ud), .lst (UL.map ud ++ [ud u1, ud u2]), .lst [ud u0, ud (.call v1 u2)], .lst (UL.map ud ++ [ud u1, ud u2] ++ [ud u0, ud (.call v1 u2)]), .lst ([.unk, c, l, r, .pr l r, .pr r l].map kd), .lst ([.fn l r, .fn r l].map kd), .lst ([.unk, c, l, r, .pr l r, .pr r l, .fn l r, .fn r l].map kd)]) (xs := [.unk, c, l, r, .pr l r, .pr r l].map kd) (ys := [.fn l r, .fn r l].map kd) rfl rfl (lt 8 (by decide)) rfl rfl ?_
  refine ⟨c3 _ _ _, c3 _ _ _, c3 _ _ _, c3 _ _ _, ?_⟩
  refine p_addlN (n := 10) (h' := [li d7, .lst [ud u1, ud u2], .lst (UL.map ud), .lst (UL.map ud ++ [ud u1, ud u2]), .lst [ud u0, ud (.call v1 u2)], .lst (UL.map ud ++ [ud u1, ud u2] ++ [ud u0, ud (.call v1 u2)]), .lst ([.unk, c, l, r, .pr l r, .pr r l].map kd), .lst ([.fn l r, .fn r l].map kd), .lst ([.unk, c, l, r, .pr l r, .pr r l, .fn l r, .fn r l].map kd), .lst ([.pr (.fn l r) l, .pr r (.pr l r)].map kd), .lst ([.unk, c, l, r, .pr l r, .pr r l, .fn l r, .fn r l, .pr (.fn l r) l, .pr r (.pr l r)].map kd)]) (xs := [.unk, c, l, r, .pr l r, .pr r l, .fn l r, .fn r l].map kd) (ys := [.pr (.fn l r) l, .pr r (.pr l r)].map kd) rfl rfl (lt 10 (by decide)) rfl rfl ?_
  refine ⟨c3 _ _ _, c3 _ _ _, c3 _ _ _, c3 _ _ _, c3 _ _ _, lt 4 (by decide), ?_⟩
  have h3 : ∀ a b : Kn, ht (.fn a b) = max (ht a) (ht b) + 1 := fun _ _ => rfl
  have h4 : ∀ a b : Kn, ht (.pr a b) = max (ht a) (ht b) + 1 := fun _ _ => rfl
  obtain ⟨VV, eVV, hVV⟩ : ∃ VV : List Us, UL.map ud ++ [ud u1, ud u2] ++ [ud u0, ud (.call v1 u2)] = VV.map ud ∧ ∀ v ∈ VV, up v ≤ 20 := by
    refine ⟨UL ++ [u1, u2] ++ [u0, .call v1 u2], by simp, fun v hv => ?_⟩
    have z : up (.call v1 u2) = max (vp v1) (up u2) + 1 := rfl
    rcases List.mem_append.mp hv with hv | hv
    · rcases List.mem_append.mp hv with hv | hv
      · have := hUL v hv; omega
      · simp only [List.mem_cons, List.not_mem_nil, or_false] at hv
        rcases hv with rfl | rfl <;> omega
    · simp only [List.mem_cons, List.not_mem_nil, or_false] at hv
      rcases hv with rfl | rfl <;> omega
  obtain ⟨T0, eT0, hT0, lT0⟩ : ∃ T0 : List Kn, [Kn.unk, c, l, r, .pr l r, .pr r l, .fn l r, .fn r l, .pr (.fn l r) l, .pr r (.pr l r)] = T0 ∧ (∀ a ∈ T0, ht a ≤ 8) ∧ T0.length = 10 := by
    refine ⟨_, rfl, fun a ha => ?_, rfl⟩
    simp only [List.mem_cons, List.not_mem_nil, or_false] at ha
    have z : ht .unk = 0 := rfl
    rcases ha with rfl | rfl | rfl | rfl | rfl | rfl | rfl | rfl | rfl | rfl <;> (try simp only [h3, h4, z]) <;> omega
  obtain ⟨It, eIt, hIt, lIt⟩ : ∃ It : List Kn, [c, .pr l r, .fn l r, .pr (.fn l .unk) (.pr l .unk)] = It ∧ (∀ a ∈ It, ht a ≤ 8) ∧ It.length = 4 := by
    refine ⟨_, rfl, fun a ha => ?_, rfl⟩
    simp only [List.mem_cons, List.not_mem_nil, or_false] at ha
    have z : ht .unk = 0 := rfl
    rcases ha with rfl | rfl | rfl | rfl <;> (try simp only [h3, h4, z]) <;> omega
  rw [eVV, eT0]
  generalize [Kn.unk, c, l, r, .pr l r, .pr r l].map kd = x6
  generalize [Kn.fn l r, .fn r l].map kd = x7
  generalize [Kn.unk, c, l, r, .pr l r, .pr r l, .fn l r, .fn r l].map kd = x8
  generalize [Kn.pr (.fn l r) l, .pr r (.pr l r)].map kd = x9
  generalize hb : ([.lst [ud u1, ud u2], .lst (UL.map ud), .lst (UL.map ud ++ [ud u1, ud u2]), .lst [ud u0, ud (.call v1 u2)], .lst (VV.map ud), .lst x6, .lst x7, .lst x8, .lst x9] : HD) = B
  have lB : B.length = 9 := by rw [← hb]; rfl
  have B4 : B[4]? = some (.lst (VV.map ud)) := by rw [← hb]; rfl
  have eH : ∀ X Y : O, ([li d7, .lst [ud u1, ud u2], .lst (UL.map ud), .lst (UL.map ud ++ [ud u1, ud u2]), .lst [ud u0, ud (.call v1 u2)], .lst (VV.map ud), .lst x6, .lst x7, .lst x8, .lst x9, X] ++ [Y] : HD) = li d7 :: (B ++ [X, Y]) := fun X Y => by rw [← hb]; rfl
  show sox (fun _ _ _ => False) (loopF ⟨[c, .pr l r, .fn l r, .pr (.fn l .unk) (.pr l .unk)].map kd, [(11, [c, .pr l r, .fn l r, .pr (.fn l .unk) (.pr l .unk)].map kd)]⟩ _ ([c, .pr l r, .fn l r, .pr (.fn l .unk) (.pr l .unk)].map kd) _ ([li d7, .lst [ud u1, ud u2], .lst (UL.map ud), .lst (UL.map ud ++ [ud u1, ud u2]), .lst [ud u0, ud (.call v1 u2)], .lst (VV.map ud), .lst x6, .lst x7, .lst x8, .lst x9, .lst (T0.map kd)] ++ [.lst ([c, .pr l r, .fn l r, .pr (.fn l .unk) (.pr l .unk)].map kd)])) _ _ _ _
  rw [eH, eIt]
  have at10 : ∀ (ds : List Int) (X Y : O), (li ds :: (B ++ [X, Y]))[10]? = some X := fun ds X Y => by
    rw [List.getElem?_cons_succ, List.getElem?_append_right (by omega), lB]
    rfl
  have at11 : ∀ (ds : List Int) (X Y : O), (li ds :: (B ++ [X, Y]))[11]? = some Y := fun ds X Y => by
    rw [List.getElem?_cons_succ, List.getElem?_append_right (by omega), lB]
    rfl
  have set10 : ∀ (ds : List Int) (X Y Z : O), (li ds :: (B ++ [X, Y])).set 10 Z = li ds :: (B ++ [Z, Y]) := fun ds X Y Z => by
    rw [List.set_cons_succ, List.set_append_right _ _ (by omega), lB]
    rfl
  refine for_atW (w := ⟨It.map kd, [(11, It.map kd)]⟩) (t := .one 10) (I := fun i v h => ∃ (ds' : List Int) (T : List Kn) (x : Option D), v = [some (.kls (ns.map .int)), some (.ref 0), some (kd c), some (kd l), some (kd r), some (vd v1), some (.ref 1), some (.ref 5), x0, some (.ref 10), x, none, none] ∧ h = li ds' :: (B ++ [.lst (T.map kd), .lst (It.map kd)]) ∧ (∀ a ∈ T, ht a ≤ 8) ∧ T.length = 10 + 2 * i) ?_ ?_ ?_ ⟨d7, T0, _, rfl, rfl, hT0, lT0⟩
  · rintro i v h ⟨ds', T, x, rfl, rfl, _, _⟩
    exact still_one (at11 _ _ _)
  · rintro i d v h hd ⟨ds', T, x, rfl, rfl, hT, lT⟩
    obtain ⟨q, eq, rfl⟩ : ∃ q, It[i]? = some q ∧ d = kd q := by
      have hd : (It.map kd)[i]? = some d := hd
      rw [List.getElem?_map] at hd
      cases e : It[i]? with
      | none => rw [e] at hd; cases hd
      | some q => rw [e] at hd; cases hd; exact ⟨q, rfl, rfl⟩
    have hq := hIt q (List.mem_of_getElem? eq)
    have hi : i < 4 := by rw [← lIt]; exact (List.getElem?_eq_some_iff.mp eq).1
    simp only [tgt, ok_ok, ok_noex, ok_var, ok_lit, ok_prim, ok_nil, ok_cons, ok_call, ok_and, ok_or, ok_iteE, ok_chain, ok_meth, ok_attr, ok_join, ok_jnil, ok_jcons, p_not, p_add, p_sub, p_adds, p_muls, p_mulr, p_fdiv, p_mod, p_pow, p_eqi, p_eqs, p_eqb, p_nei, p_nes, p_neb, p_lt, p_le, p_gt, p_ge, p_is, p_isnot, p_lens, p_lent, p_lenk, p_int, p_bool, p_min, p_max, p_tup, p_lst, p_fmts, p_ixt, p_ixs, p_slse, p_slsu, p_isity, p_isigl, bm_rm, bm_st, tr_bl, tr_non, tr_int, tr_tup, tr_kls, tr_str, Mp.isNon, List.getElem?_cons_zero, List.getElem?_cons_succ, List.set_cons_zero, List.set_cons_succ, ity_non, ity_bl, ity_int, ity_str, ity_tup, ity_kls, kb_NoneType_NoneType, kb_NoneType_bool, kb_NoneType_int, kb_NoneType_str, kb_NoneType_tuple, kb_NoneType_list, kb_bool_NoneType, kb_bool_bool, kb_bool_int, kb_bool_str, kb_bool_tuple, kb_bool_list, kb_int_NoneType, kb_int_bool, kb_int_int, kb_int_str, kb_int_tuple, kb_int_list, kb_str_NoneType, kb_str_bool, kb_str_int, kb_str_str, kb_str_tuple, kb_str_list, kb_tuple_NoneType, kb_tuple_bool, kb_tuple_int, kb_tuple_str, kb_tuple_tuple, kb_tuple_list, kb_list_NoneType, kb_list_bool, kb_list_int, kb_list_str, kb_list_tuple, kb_list_list, c_kind_height, c_has_ground, c_opened, c_same_shape, c_as_precise, c_value_fits, c_use_fits, c__law_draws, c__law_draw, c__law_number, c__law_same, c__law_kind, c__law_tall, c__law_any_kind, c__law_agreeing, c__law_has, c__law_open, c__law_value, c__law_used, c__law_value_fits, c__law_use_fits, c__law_changed, c_law, c_Kind, so_seq, so_nil, so_set, so_expr, so_ret, so_retN, so_pass, so_brk, so_cnt, so_never, so_raise, so_try, so_ite, ret_bl, ret_int, ret_str, ret_non, mth_lst (at10 _ _ _) (bt_lst (at10 _ _ _)).1]
    refine changed q 8 100 ds' _ hq (by decide) (by omega) fun b d9 hb1 => ?_
    refine app1 (at10 _ _ _) (by rw [List.length_map]; exact lt' _ (by omega)) ?_
    rw [set10]
    rw [mth_lst (at10 _ _ _) (bt_lst (at10 _ _ _)).1]
    refine agreeing q 8 3 100 d9 _ hq (by decide) (by decide) (by omega) fun b2 d10 hb2 => ?_
    refine app1 (at10 _ _ _) (by rw [List.length_append, List.length_map]; exact lt' _ (by simp; omega)) ?_
    rw [set10]
    refine ⟨d10, T ++ [b, b2], _, rfl, by simp, fun a ha => ?_, by simp; omega⟩
    rcases List.mem_append.mp ha with ha | ha
    · exact hT a ha
    · simp only [List.mem_cons, List.not_mem_nil, or_false] at ha
      rcases ha with rfl | rfl <;> assumption
  · rintro v h ⟨ds', T, x, rfl, rfl, hT, lT⟩
    have lT : T.length = 18 := by
      have z : (It.map kd).length = 4 := by rw [List.length_map]; exact lIt
      have z2 : T.length = 10 + 2 * (It.map kd).length := lT
      omega
    refine mkkindsG 98 _ 10 T (at10 _ _ _) hT (by omega) rfl (by decide : 10 < 13) ?_
    generalize hbb : (li ds' :: (B ++ [.lst (T.map kd), .lst (It.map kd)]) : HD) = b
    have b5 : b[5]? = some (.lst (VV.map ud)) := by
      rw [← hbb, List.getElem?_cons_succ, List.getElem?_append_left (by omega)]
      exact B4
    have b10 : b[10]? = some (.lst (T.map kd)) := by rw [← hbb]; exact at10 _ _ _
    have f5 := hg1 T b5
    have f10 := hg1 T b10
    have fk := hg2 b T
    simp only [List.set_cons_succ, List.set_cons_zero, List.getElem?_cons_succ, List.getElem?_cons_zero, wk_ref f5]
    refine for_atW (w := ⟨VV.map ud, [(5, VV.map ud)]⟩) (t := .one 8) (I := fun i v h => ∃ y z : Option D, v = [some (.kls (ns.map .int)), some (.ref 0), some (kd c), some (kd l), some (kd r), some (vd v1), some (.ref 1), some (.ref 5), y, some (.ref 10), x, some (.ref (b.length + T.length)), z] ∧ h = HG b T) ?_ ?_ ?_ ⟨_, _, rfl, rfl⟩
    · rintro i v h ⟨y, z, rfl, rfl⟩
      exact still_one f5
    · rintro i d v h hd ⟨y, z, rfl, rfl⟩
      obtain ⟨w, ew, rfl⟩ : ∃ w, VV[i]? = some w ∧ d = ud w := by
        have hd : (VV.map ud)[i]? = some d := hd
        rw [List.getElem?_map] at hd
        cases e : VV[i]? with
        | none => rw [e] at hd; cases hd
        | some q => rw [e] at hd; cases hd; exact ⟨q, rfl, rfl⟩
      have hw := hVV w (List.mem_of_getElem? ew)
      simp only [tgt, ok_ok, ok_noex, ok_var, ok_lit, ok_prim, ok_nil, ok_cons, ok_call, ok_and, ok_or, ok_iteE, ok_chain, ok_meth, ok_attr, ok_join, ok_jnil, ok_jcons, p_not, p_add, p_sub, p_adds, p_muls, p_mulr, p_fdiv, p_mod, p_pow, p_eqi, p_eqs, p_eqb, p_nei, p_nes, p_neb, p_lt, p_le, p_gt, p_ge, p_is, p_isnot, p_lens, p_lent, p_lenk, p_int, p_bool, p_min, p_max, p_tup, p_lst, p_fmts, p_ixt, p_ixs, p_slse, p_slsu, p_isity, p_isigl, bm_rm, bm_st, tr_bl, tr_non, tr_int, tr_tup, tr_kls, tr_str, Mp.isNon, List.getElem?_cons_zero, List.getElem?_cons_succ, List.set_cons_zero, List.set_cons_succ, ity_non, ity_bl, ity_int, ity_str, ity_tup, ity_kls, kb_NoneType_NoneType, kb_NoneType_bool, kb_NoneType_int, kb_NoneType_str, kb_NoneType_tuple, kb_NoneType_list, kb_bool_NoneType, kb_bool_bool, kb_bool_int, kb_bool_str, kb_bool_tuple, kb_bool_list, kb_int_NoneType, kb_int_bool, kb_int_int, kb_int_str, kb_int_tuple, kb_int_list, kb_str_NoneType, kb_str_bool, kb_str_int, kb_str_str, kb_str_tuple, kb_str_list, kb_tuple_NoneType, kb_tuple_bool, kb_tuple_int, kb_tuple_str, kb_tuple_tuple, kb_tuple_list, kb_list_NoneType, kb_list_bool, kb_list_int, kb_list_str, kb_list_tuple, kb_list_list, c_kind_height, c_has_ground, c_opened, c_same_shape, c_as_precise, c_value_fits, c_use_fits, c__law_draws, c__law_draw, c__law_number, c__law_same, c__law_kind, c__law_tall, c__law_any_kind, c__law_agreeing, c__law_has, c__law_open, c__law_value, c__law_used, c__law_value_fits, c__law_use_fits, c__law_changed, c_law, c_Kind, so_seq, so_nil, so_set, so_expr, so_ret, so_retN, so_pass, so_brk, so_cnt, so_never, so_raise, so_try, so_ite, ret_bl, ret_int, ret_str, ret_non, so_for, ok_itrng1, p_lenl fk, List.length_map, List.length_range]
      refine ⟨by unfold big; omega, by unfold big; omega, ?_⟩
      refine for_rng (t := .one 12) (I := fun i v h => ∃ z : Option D, v = [some (.kls (ns.map .int)), some (.ref 0), some (kd c), some (kd l), some (kd r), some (vd v1), some (.ref 1), some (.ref 5), some (ud w), some (.ref 10), x, some (.ref (b.length + T.length)), z] ∧ h = HG b T) ?_ ?_ ⟨_, rfl, rfl⟩
      · rintro k v h hk ⟨z, rfl, rfl⟩
        have hk : k < T.length := by omega
        obtain ⟨q, eq⟩ : ∃ q, T[k]? = some q := ⟨_, List.getElem?_eq_getElem hk⟩
        have hq := hT q (List.mem_of_getElem? eq)
        have e1 := hg3 b eq
        obtain ⟨rr, fr⟩ := fitU w q (by omega)
        have g1 := (fr 99 (HG b T) (by omega)).1
        have g2 := (fr 100 (HG b T) (by omega)).2
        simp only [tgt, ok_ok, ok_noex, ok_var, ok_lit, ok_prim, ok_nil, ok_cons, ok_call, ok_and, ok_or, ok_iteE, ok_chain, ok_meth, ok_attr, ok_join, ok_jnil, ok_jcons, p_not, p_add, p_sub, p_adds, p_muls, p_mulr, p_fdiv, p_mod, p_pow, p_eqi, p_eqs, p_eqb, p_nei, p_nes, p_neb, p_lt, p_le, p_gt, p_ge, p_is, p_isnot, p_lens, p_lent, p_lenk, p_int, p_bool, p_min, p_max, p_tup, p_lst, p_fmts, p_ixt, p_ixs, p_slse, p_slsu, p_isity, p_isigl, bm_rm, bm_st, tr_bl, tr_non, tr_int, tr_tup, tr_kls, tr_str, Mp.isNon, List.getElem?_cons_zero, List.getElem?_cons_succ, List.set_cons_zero, List.set_cons_succ, ity_non, ity_bl, ity_int, ity_str, ity_tup, ity_kls, kb_NoneType_NoneType, kb_NoneType_bool, kb_NoneType_int, kb_NoneType_str, kb_NoneType_tuple, kb_NoneType_list, kb_bool_NoneType, kb_bool_bool, kb_bool_int, kb_bool_str, kb_bool_tuple, kb_bool_list, kb_int_NoneType, kb_int_bool, kb_int_int, kb_int_str, kb_int_tuple, kb_int_list, kb_str_NoneType, kb_str_bool, kb_str_int, kb_str_str, kb_str_tuple, kb_str_list, kb_tuple_NoneType, kb_tuple_bool, kb_tuple_int, kb_tuple_str, kb_tuple_tuple, kb_tuple_list, kb_list_NoneType, kb_list_bool, kb_list_int, kb_list_str, kb_list_tuple, kb_list_list, c_kind_height, c_has_ground, c_opened, c_same_shape, c_as_precise, c_value_fits, c_use_fits, c__law_draws, c__law_draw, c__law_number, c__law_same, c__law_kind, c__law_tall, c__law_any_kind, c__law_agreeing, c__law_has, c__law_open, c__law_value, c__law_used, c__law_value_fits, c__law_use_fits, c__law_changed, c_law, c_Kind, so_seq, so_nil, so_set, so_expr, so_ret, so_retN, so_pass, so_brk, so_cnt, so_never, so_raise, so_try, so_ite, ret_bl, ret_int, ret_str, ret_non, p_ixl _ fk, rg_at hk]
        rw [mth_ins "Kind.takes" e1 o_Kind (by rfl) a_Kind_takes]
        simp only [ok_ok, ok_noex, ok_var, ok_lit, ok_prim, ok_nil, ok_cons, ok_call, ok_and, ok_or, ok_iteE, ok_chain, ok_meth, ok_attr, ok_join, ok_jnil, ok_jcons, p_not, p_add, p_sub, p_adds, p_muls, p_mulr, p_fdiv, p_mod, p_pow, p_eqi, p_eqs, p_eqb, p_nei, p_nes, p_neb, p_lt, p_le, p_gt, p_ge, p_is, p_isnot, p_lens, p_lent, p_lenk, p_int, p_bool, p_min, p_max, p_tup, p_lst, p_fmts, p_ixt, p_ixs, p_slse, p_slsu, p_isity, p_isigl, bm_rm, bm_st, tr_bl, tr_non, tr_int, tr_tup, tr_kls, tr_str, Mp.isNon, List.getElem?_cons_zero, List.getElem?_cons_succ, List.set_cons_zero, List.set_cons_succ, ity_non, ity_bl, ity_int, ity_str, ity_tup, ity_kls, kb_NoneType_NoneType, kb_NoneType_bool, kb_NoneType_int, kb_NoneType_str, kb_NoneType_tuple, kb_NoneType_list, kb_bool_NoneType, kb_bool_bool, kb_bool_int, kb_bool_str, kb_bool_tuple, kb_bool_list, kb_int_NoneType, kb_int_bool, kb_int_int, kb_int_str, kb_int_tuple, kb_int_list, kb_str_NoneType, kb_str_bool, kb_str_int, kb_str_str, kb_str_tuple, kb_str_list, kb_tuple_NoneType, kb_tuple_bool, kb_tuple_int, kb_tuple_str, kb_tuple_tuple, kb_tuple_list, kb_list_NoneType, kb_list_bool, kb_list_int, kb_list_str, kb_list_tuple, kb_list_list, c_kind_height, c_has_ground, c_opened, c_same_shape, c_as_precise, c_value_fits, c_use_fits, c__law_draws, c__law_draw, c__law_number, c__law_same, c__law_kind, c__law_tall, c__law_any_kind, c__law_agreeing, c__law_has, c__law_open, c__law_value, c__law_used, c__law_value_fits, c__law_use_fits, c__law_changed, c_law, c_Kind, so_seq, so_nil, so_set, so_expr, so_ret, so_retN, so_pass, so_brk, so_cnt, so_never, so_raise, so_try, so_ite, ret_bl, ret_int, ret_str, ret_non, x_takes 99 _ _ w q e1 rr g1, p_ixl _ f10, tk_at eq, g2, same_b 99, beq_self_eq_true, Bool.not_true, Bool.false_eq_true, if_false]
        exact ⟨_, rfl, by trivial⟩
      · rintro v h ⟨z, rfl, rfl⟩
        exact ⟨_, _, rfl, rfl⟩
    · rintro v h ⟨y, z, rfl, rfl⟩
      simp only [List.getElem?_cons_succ, List.getElem?_cons_zero, p_lenl fk, List.length_map, List.length_range]
      refine ⟨by unfold big; omega, by unfold big; omega, ?_⟩
      refine for_rng (t := .one 12) (I := fun i v h => ∃ y z : Option D, v = [some (.kls (ns.map .int)), some (.ref 0), some (kd c), some (kd l), some (kd r), some (vd v1), some (.ref 1), some (.ref 5), y, some (.ref 10), x, some (.ref (b.length + T.length)), z] ∧ h = HG b T) ?_ ?_ ⟨_, _, rfl, rfl⟩
      · rintro k v h hk ⟨y, z, rfl, rfl⟩
        have hk : k < T.length := by omega
        obtain ⟨q, eq⟩ : ∃ q, T[k]? = some q := ⟨_, List.getElem?_eq_getElem hk⟩
        have hq := hT q (List.mem_of_getElem? eq)
        have e1 := hg3 b eq
        simp only [tgt, ok_ok, ok_noex, ok_var, ok_lit, ok_prim, ok_nil, ok_cons, ok_call, ok_and, ok_or, ok_iteE, ok_chain, ok_meth, ok_attr, ok_join, ok_jnil, ok_jcons, p_not, p_add, p_sub, p_adds, p_muls, p_mulr, p_fdiv, p_mod, p_pow, p_eqi, p_eqs, p_eqb, p_nei, p_nes, p_neb, p_lt, p_le, p_gt, p_ge, p_is, p_isnot, p_lens, p_lent, p_lenk, p_int, p_bool, p_min, p_max, p_tup, p_lst, p_fmts, p_ixt, p_ixs, p_slse, p_slsu, p_isity, p_isigl, bm_rm, bm_st, tr_bl, tr_non, tr_int, tr_tup, tr_kls, tr_str, Mp.isNon, List.getElem?_cons_zero, List.getElem?_cons_succ, List.set_cons_zero, List.set_cons_succ, ity_non, ity_bl, ity_int, ity_str, ity_tup, ity_kls, kb_NoneType_NoneType, kb_NoneType_bool, kb_NoneType_int, kb_NoneType_str, kb_NoneType_tuple, kb_NoneType_list, kb_bool_NoneType, kb_bool_bool, kb_bool_int, kb_bool_str, kb_bool_tuple, kb_bool_list, kb_int_NoneType, kb_int_bool, kb_int_int, kb_int_str, kb_int_tuple, kb_int_list, kb_str_NoneType, kb_str_bool, kb_str_int, kb_str_str, kb_str_tuple, kb_str_list, kb_tuple_NoneType, kb_tuple_bool, kb_tuple_int, kb_tuple_str, kb_tuple_tuple, kb_tuple_list, kb_list_NoneType, kb_list_bool, kb_list_int, kb_list_str, kb_list_tuple, kb_list_list, c_kind_height, c_has_ground, c_opened, c_same_shape, c_as_precise, c_value_fits, c_use_fits, c__law_draws, c__law_draw, c__law_number, c__law_same, c__law_kind, c__law_tall, c__law_any_kind, c__law_agreeing, c__law_has, c__law_open, c__law_value, c__law_used, c__law_value_fits, c__law_use_fits, c__law_changed, c_law, c_Kind, so_seq, so_nil, so_set, so_expr, so_ret, so_retN, so_pass, so_brk, so_cnt, so_never, so_raise, so_try, so_ite, ret_bl, ret_int, ret_str, ret_non, p_ixl _ fk, rg_at hk, ko_tree e1, p_ixl _ f10, tk_at eq, same_k _ q 100 (by omega), Bool.not_true, Bool.false_eq_true, if_false]
        exact ⟨_, _, rfl, by trivial⟩
      · rintro v h ⟨y, z, rfl, rfl⟩
        exact rfl
end Lk25

open PySem PySem.W PySem.Calls PyProof.Rows
theorem PySem.Challenge.cw_castmiddles_k25_uses_that_fit_holds : PySem.Challenge.rw_castmiddles_k25_uses_that_fit.Holds := by
  w_on; o_law
  refine HandSHeadRun.head_any (r := OpenLaw.row PySem.Challenge.rw_castmiddles_k25_uses_that_fit) (q := view (OpenLaw.row PySem.Challenge.rw_castmiddles_k25_uses_that_fit).prog [57]) (H := Lk25.hkz) (ob := Lk25.obz) (M := 9000) (loose := Lk25.namesz) (d := HandSHeadRun.topDef (OpenLaw.row PySem.Challenge.rw_castmiddles_k25_uses_that_fit).prog 57) (kwd := []) Lk25.obz_eq
    (by kernel_rfl) (fun s => by kernel_rfl) Lk25.hrun (by kernel_rfl) (by kernel_rfl) (by kernel_rfl) (by rfl) (by first | assumption | decide +kernel) (by decide +kernel) ⟨rfl, rfl, rfl, rfl, rfl, by decide +kernel⟩ ?hw ?hc
  case hw => w_witness2
  case hc =>
    exact Mp.law_end (l := PySem.Challenge.rw_castmiddles_k25_uses_that_fit) (n := 63) (t := Lk25.tb) (df := Lk25.d_law) (x := "script") (nm := "law") 100 rfl (by decide) (by kernel_rfl) ⟨rfl, by decide, by decide⟩ (by kernel_rfl) rfl (List.mem_of_getElem? (i := 29) (by rfl)) rfl rfl (by decide +kernel) Lk25.ds Lk25.pure
